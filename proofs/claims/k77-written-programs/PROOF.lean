import PyProof.Rows.All
import Wide.All
import OpenK.AllK
import Wide.FinOn
import HandS.ForMost
import HandS.ForExc
import HandS.IsInst
import HandS.Walk
import HandS.Wide
import HandS.ExcInit
import HandS.ExcField
import HandS.ExcIs
import HandS.TryMany
import HandS.Flow
import HandS.Style
import HandS.TupAny
import HandS.Zip
import HandS.Rev
import HandS.Deep
import HandS.SortInts
import HandS.HotCalls
import HandS.Conv
import HandS.TupMul
import HandS.Text
import HandS.FStr
import HandS.More
import HandS.HeadHook3
import HandS.Codes
import HandS.SetFor
import HandS.Set
import HandS.Strs
import HandS.Dict
import KE.GoesMore
import HandS.NoneIn
import HandS.Small
import HandS.Words
import HandS.WordsExc
import HandS.ExcCtx
import HandS.ExcInitHot
import PySem.Challenge.RW_straightclock_k77_written_programs

/-! E0: pure data, the small language (IR) of the defs, its evaluator. -/
set_option autoImplicit false
set_option linter.all false
namespace E

inductive D where
  | non | bl (b : Bool) | int (i : Int) | str (s : List Nat)
  | tup (l : List D) | lst (l : List D)
  | dic (ks vs : List D) | set (l : List D)
  | ins (c : Nat) (l : List D) | exc (c : Nat) (l : List D) | scr (l : List Int)
  deriving Inhabited

inductive Res (α : Type) where
  | ok (a : α) | err (c : Nat) (l : List D) | bad
abbrev Env := List (Option D)
inductive Out where
  | nx (e : Env) | rt (d : D) | bk (e : Env) | ct (e : Env) | ex (e : Env) (c : Nat) (l : List D) | bad

def Res.bd {α β : Type} (x : Res α) (f : α → Res β) : Res β := match x with | .ok a => f a | .err c l => .err c l | .bad => .bad
def om {α β : Type} (o : Option α) (f : α → Res β) : Res β := match o with | some a => f a | none => .bad
@[simp] theorem om_some {α β : Type} (a : α) (f : α → Res β) : om (some a) f = f a := id rfl
@[simp] theorem om_none {α β : Type} (f : α → Res β) : om (none : Option α) f = .bad := id rfl
def omO {α : Type} (o : Option α) (f : α → Out) : Out := match o with | some a => f a | none => .bad
@[simp] theorem omO_some {α : Type} (a : α) (f : α → Out) : omO (some a) f = f a := id rfl
@[simp] theorem omO_none {α : Type} (f : α → Out) : omO (none : Option α) f = .bad := id rfl
def Res.out {α : Type} (x : Res α) (e : Env) (f : α → Out) : Out := match x with | .ok a => f a | .err c l => .ex e c l | .bad => .bad
@[simp] theorem bd_ok {α β : Type} (a : α) (f : α → Res β) : (Res.ok a).bd f = f a := id rfl
@[simp] theorem bd_err {α β : Type} (c : Nat) (l : List D) (f : α → Res β) : (Res.err c l).bd f = .err c l := id rfl
@[simp] theorem bd_bad {α β : Type} (f : α → Res β) : (Res.bad).bd f = .bad := id rfl
@[simp] theorem out_ok {α : Type} (a : α) (e : Env) (f : α → Out) : (Res.ok a).out e f = f a := id rfl
@[simp] theorem out_err {α : Type} (c : Nat) (l : List D) (e : Env) (f : α → Out) : (Res.err c l).out e f = .ex e c l := id rfl
@[simp] theorem out_bad {α : Type} (e : Env) (f : α → Out) : (Res.bad).out e f = .bad := id rfl

/-! ### operations on data -/
def LIM : Nat := 16777216
def BIG : Nat := 2 ^ 4000
mutual
def eqv : D → D → Bool
  | .non, .non => true
  | .bl a, .bl b => a == b
  | .bl a, .int j => (if a then 1 else 0) == j
  | .int i, .bl b => i == (if b then 1 else 0)
  | .int i, .int j => i == j
  | .str x, .str y => x == y
  | .lst x, .lst y => eqvL x y
  | .tup x, .tup y => eqvL x y
  | _, _ => false
def eqvL : List D → List D → Bool
  | [], [] => true
  | x :: xs, y :: ys => eqv x y && eqvL xs ys
  | _, _ => false
end
mutual
/-- none, boolsD, intsD, texts, lists and tuples of these, k deep at most -/
def plain : D → Nat → Bool
  | .non, _ => true
  | .bl _, _ => true
  | .int _, _ => true
  | .str s, _ => s.all (· < 1114112)
  | .lst l, k => match k with | 0 => false | k + 1 => plainL l k
  | .tup l, k => match k with | 0 => false | k + 1 => plainL l k
  | _, _ => false
def plainL : List D → Nat → Bool
  | [], _ => true
  | x :: xs, k => plain x k && plainL xs k
end
def flat : D → Bool
  | .non => true | .bl _ => true | .int _ => true | .str _ => true | _ => false
def ixOf (n : Nat) (i : Int) : Option Nat := if 0 ≤ i then (if i < n then some i.toNat else none) else if -(n : Int) ≤ i then some (i + n).toNat else none
def at_ {α : Type} (l : List α) (i : Int) : Option α := (ixOf l.length i).bind fun j => l[j]?
def sx (n d : Nat) : D → Nat
  | .int v => if v < 0 then (v + (n : Int)).toNat else min v.toNat n
  | _ => d
def cut {α : Type} (l : List α) (lo hi : D) : List α := (l.drop (sx l.length 0 lo)).take (sx l.length l.length hi - sx l.length 0 lo)
def isPart : D → Bool
  | .int _ => true | .non => true | _ => false

inductive Op2 where
  | add | sub | mul | fdiv | mod | pow | eq | ne | lt | le | gt | ge | in_ | notIn
  deriving DecidableEq

def dAdd : D → D → Res D
  | .int a, .int b => .ok (.int (a + b))
  | .str a, .str b => if a.length + b.length ≤ LIM then .ok (.str (a ++ b)) else .bad
  | .lst a, .lst b => if a.length + b.length ≤ LIM then .ok (.lst (a ++ b)) else .bad
  | .tup a, .tup b => if a.length + b.length ≤ LIM then .ok (.tup (a ++ b)) else .bad
  | _, _ => .bad
def dMul : D → D → Res D
  | .int a, .int b => if a.natAbs < BIG ∧ b.natAbs < BIG then .ok (.int (a * b)) else .bad
  | .str a, .int n => if n < 4611686018427387904 ∧ -4611686018427387904 < n ∧ a.length * n.toNat ≤ LIM then .ok (.str (List.replicate n.toNat a).flatten) else .bad
  | .lst a, .int n => if n < 4611686018427387904 ∧ -4611686018427387904 < n ∧ a.length * n.toNat ≤ LIM then .ok (.lst (List.replicate n.toNat a).flatten) else .bad
  | .tup a, .int n => if 0 < a.length ∧ 2 ≤ n ∧ n ≤ 1000 ∧ a.length ≤ 1000 then .ok (.tup (List.replicate n.toNat a).flatten) else .bad
  | _, _ => .bad
/-- keys of dicts: ints and texts -/
def isKey : D → Bool
  | .int _ => true
  | .str _ => true
  | _ => false
def keq : D → D → Bool
  | .int a, .int b => a == b
  | .str a, .str b => a == b
  | _, _ => false
def dHas (ks : List D) (k : D) : Bool := ks.any fun z => keq z k
def dGet : List D → List D → D → Option D
  | z :: ks, v :: vs, k => if keq z k = true then some v else dGet ks vs k
  | _, _, _ => none
def dPutV : List D → List D → D → D → List D
  | z :: ks, w :: vs, k, v => (if keq z k = true then v else w) :: dPutV ks vs k v
  | _, _, _, _ => []
def dPut (ks vs : List D) (k v : D) : D := if dHas ks k = true then .dic ks (dPutV ks vs k v) else .dic (ks ++ [k]) (vs ++ [v])
def inD (x : D) : D → Res Bool
  | .str s => match x with
    | .str [c] => .ok (s.contains c)
    | _ => .bad
  | .lst l => if flat x ∧ l.all flat then .ok (l.any fun y => eqv y x) else if plain x 60 ∧ plain (.lst l) 60 then .ok (l.any fun y => eqv y x) else .bad
  | .tup l => if flat x ∧ l.all flat then .ok (l.any fun y => eqv y x) else .bad
  | .dic ks _ => if isKey x = true then .ok (dHas ks x) else .bad
  | _ => .bad
def op2 : Op2 → D → D → Res D
  | .add, x, y => dAdd x y
  | .sub, .int a, .int b => .ok (.int (a - b))
  | .mul, x, y => dMul x y
  | .fdiv, .int a, .int b => if 0 < b ∧ b.natAbs < BIG then .ok (.int (a / b)) else .bad
  | .mod, .int a, .int b => if 0 < b then .ok (.int (a % b)) else .bad
  | .pow, .int a, .int b => if 0 ≤ b ∧ b ≤ 1000000 ∧ a.natAbs < 18446744073709551616 then .ok (.int (a ^ b.toNat)) else .bad
  | .eq, .str a, .str b => .ok (.bl (a == b))
  | .ne, .str a, .str b => .ok (.bl (!(a == b)))
  | .eq, x, y => if plain x 60 ∧ plain y 60 then .ok (.bl (eqv x y)) else .bad
  | .ne, x, y => if plain x 60 ∧ plain y 60 then .ok (.bl (!eqv x y)) else .bad
  | .lt, .int a, .int b => .ok (.bl (decide (a < b)))
  | .le, .int a, .int b => .ok (.bl (decide (a ≤ b)))
  | .gt, .int a, .int b => .ok (.bl (decide (b < a)))
  | .ge, .int a, .int b => .ok (.bl (decide (b ≤ a)))
  | .in_, x, y => (inD x y).bd fun b => .ok (.bl b)
  | .notIn, x, y => (inD x y).bd fun b => .ok (.bl (!b))
  | _, _, _ => .bad
def onlyL : D → Res D
  | .lst l => .ok (.lst l)
  | _ => .bad
def truth : D → Res Bool
  | .non => .ok false
  | .bl b => .ok b
  | .int i => .ok (i != 0)
  | .str s => if s.length ≤ LIM then .ok (s.length != 0) else .bad
  | .lst l => .ok (l.length != 0)
  | .tup l => .ok (l.length != 0)
  | _ => .bad

/-- built-in functions of written arguments -/
inductive BI where
  | len | int | min2 | max2 | sum | sorted | str | tuple | list | all | any | rng1 | rng2 | enum | zip | rev | abs | sset
  deriving DecidableEq
def intsD : List D → Option (List Int)
  | [] => some []
  | .int i :: r => (intsD r).map (i :: ·)
  | _ => none
def boolsD : List D → Option (List Bool)
  | [] => some []
  | .bl i :: r => (boolsD r).map (i :: ·)
  | _ => none
def strsD : List D → Option (List (List Nat))
  | [] => some []
  | .str i :: r => (strsD r).map (i :: ·)
  | _ => none
/-- what a for goes over -/
def items : D → Option (List D)
  | .lst l => some l
  | .tup l => some l
  | .str s => some (s.map fun c => .str [c])
  | .scr l => some (l.map D.int)
  | _ => none
def asList : D → Option (List D)
  | .lst l => some l
  | .tup l => some l
  | .str s => some (s.map fun c => .str [c])
  | _ => none
def rangeD (a b : Int) : List D := (List.range (b - a).toNat).map fun (i : Nat) => D.int (a + (i : Int))
def enumD : List D → Int → List D
  | [], _ => []
  | x :: r, i => .tup [.int i, x] :: enumD r (i + 1)
def zipD : List D → List D → List D
  | x :: r, y :: q => .tup [x, y] :: zipD r q
  | _, _ => []
def insertI (x : Int) : List Int → List Int
  | [] => [x]
  | y :: r => if x ≤ y then x :: y :: r else y :: insertI x r
def sortI : List Int → List Int
  | [] => []
  | x :: r => insertI x (sortI r)
def dedup : List Int → List Int
  | [] => []
  | x :: r => if (dedup r).contains x = true then dedup r else x :: dedup r
/-- the signs of a number -/
def decI (i : Int) : List Nat := (toString i).toList.map Char.toNat
def numT (s : List Nat) : Option Nat := if s.length ≤ 600 ∧ s ≠ [] ∧ s.all (fun c => decide (48 ≤ c) && decide (c ≤ 57)) = true then some (s.foldl (fun n c => n * 10 + (c - 48)) 0) else none
def biF : BI → List D → Res D
  | .len, [.str s] => if s.length ≤ LIM then .ok (.int s.length) else .bad
  | .len, [.lst l] => .ok (.int l.length)
  | .len, [.tup l] => .ok (.int l.length)
  | .len, [.scr l] => .ok (.int l.length)
  | .int, [.int i] => .ok (.int i)
  | .int, [.bl b] => .ok (.int (if b then 1 else 0))
  | .int, [.str s] => om (numT s) fun n => .ok (.int (n : Int))
  | .str, [.int i] => if i.natAbs < 18446744073709551616 then .ok (.str (decI i)) else .bad
  | .min2, [.int i, .int j] => .ok (.int (if j < i then j else i))
  | .max2, [.int i, .int j] => .ok (.int (if j > i then j else i))
  | .sum, [.lst l] => om (intsD l) fun is => .ok (.int is.sum)
  | .sorted, [.lst l] => om (intsD l) fun is => .ok (.lst ((sortI is).map D.int))
  | .sorted, [.dic ks _] => om (intsD ks) fun is => if is.length < 64 then .ok (.lst ((sortI is).map D.int)) else .bad
  | .sset, [.lst l] => om (intsD l) fun is => if is.length < 63 then .ok (.lst ((sortI (dedup is)).map D.int)) else .bad
  | .sset, [.tup l] => om (intsD l) fun is => if is.length < 63 then .ok (.lst ((sortI (dedup is)).map D.int)) else .bad
  | .tuple, [.lst l] => .ok (.tup l)
  | .tuple, [.tup l] => .ok (.tup l)
  | .list, [.lst l] => .ok (.lst l)
  | .list, [.tup l] => .ok (.lst l)
  | .all, [.lst l] => om (boolsD l) fun is => .ok (.bl (is.all id))
  | .any, [.lst l] => om (boolsD l) fun is => .ok (.bl (is.any id))
  | .rng1, [.int j] => if -4611686018427387904 ≤ j ∧ j < 4611686018427387904 then .ok (.lst (rangeD 0 j)) else .bad
  | .rng2, [.int i, .int j] => if -4611686018427387904 ≤ i ∧ i < 4611686018427387904 ∧ -4611686018427387904 ≤ j ∧ j < 4611686018427387904 then .ok (.lst (rangeD i j)) else .bad
  | .enum, [x] => om (asList x) fun l => .ok (.lst (enumD l 0))
  | .zip, [x, y] => om (asList x) fun l => om (asList y) fun m => .ok (.lst (zipD l m))
  | .abs, [.int i] => .ok (.int (if i < 0 then -i else i))
  | _, _ => .bad

/-- methods of built-in types, without a change of the object -/
inductive MT where
  | join | count | find | index | split
  deriving DecidableEq
/-- cut at each c -/
def splC (c : Nat) : List Nat → List Nat → List (List Nat)
  | acc, [] => [acc]
  | acc, x :: r => if x = c then acc :: splC c [] r else splC c (acc ++ [x]) r
/-- a value in an f-string -/
def fmt1 : D → Res (List Nat)
  | .str s => if s.length ≤ LIM then .ok s else .bad
  | .int i => if i.natAbs < 18446744073709551616 then .ok (decI i) else .bad
  | _ => .bad
/-- a dict of texts that is written in the module -/
def lkS : List (List Nat) → List (List Nat) → List Nat → Option (List Nat)
  | k :: ks, v :: vs, x => if k = x then some v else lkS ks vs x
  | _, _, _ => none
def countC (c : Nat) : List Nat → Nat
  | [] => 0
  | x :: r => if x = c then countC c r + 1 else countC c r
def findC (c : Nat) : List Nat → Option Nat
  | [] => none
  | x :: r => if x = c then some 0 else (findC c r).map (· + 1)
def joinT (sep : List Nat) : List (List Nat) → List Nat
  | [] => []
  | [x] => x
  | x :: r => x ++ sep ++ joinT sep r
def meth : MT → D → List D → Res D
  | .join, .str s, [.lst l] => om (strsD l) fun ts => if (ts.map (·.length)).sum + ts.length * s.length ≤ LIM then .ok (.str (joinT s ts)) else .bad
  | .count, .str s, [.str [c]] => .ok (.int (countC c s))
  | .find, .str s, [.str [c]] => .ok (.int (match findC c s with
    | some i => ((i : Nat) : Int)
    | none => -1))
  | .index, .str s, [.str [c]] => om (findC c s) fun i => .ok (.int (i : Nat))
  | .split, .str s, [.str [c]] => if c < 256 ∧ s.length + 2 ≤ LIM then .ok (.lst ((splC c [] s).map .str)) else .bad
  | _, _, _ => .bad

mutual
/-- the same data, as written -/
def eqD : D → D → Bool
  | .non, .non => true
  | .bl a, .bl b => a == b
  | .int a, .int b => a == b
  | .str a, .str b => a == b
  | .tup a, .tup b => eqDL a b
  | .lst a, .lst b => eqDL a b
  | _, _ => false
def eqDL : List D → List D → Bool
  | [], [] => true
  | x :: xs, y :: ys => eqD x y && eqDL xs ys
  | _, _ => false
end
/-! ### the language -/
inductive Kd where
  | int | bool | str | tup | lst | cls (c : Nat)
  deriving DecidableEq
def isKd : D → Kd → Bool
  | .int _, .int => true
  | .bl _, .int => true
  | .bl _, .bool => true
  | .str _, .str => true
  | .tup _, .tup => true
  | .lst _, .lst => true
  | .ins c _, .cls k => c == k
  | _, _ => false
def kdOk : D → Bool
  | .dic _ _ => false | .set _ => false | .exc _ _ => false | .scr _ => false | .ins _ _ => false | _ => true
inductive C where
  | nil | cons (a r : C)
  | var (i : Nat)
  | non | bl (b : Bool) | int (i : Int) | str (s : List Nat)
  | glb (x : List Nat) (d : D)
  | op (o : Op2) (a b : C)
  | chn (o1 o2 : Op2) (a b c : C)
  | neg (a : C)
  | one (a : C) | and (a b : C) | or (a b : C) | not (a : C) | ite (c a b : C)
  | is_ (d : D) (neg : Bool) (a : C)
  | isi (a : C) (k : Kd) | isi2 (a : C) (k1 k2 : Kd)
  | call (k : Nat) (x : List Nat) (as : C)
  | bi (f : BI) (as : C)
  | mt (m : MT) (a as : C)
  | idx (a b : C) | slc (a lo hi : C) | rev (a : C)
  | tup (as : C) | lst (as : C)
  | lc (t : List Nat) (one : Bool) (it cnd elt : C)
  | fld (c j : Nat) (a : C)
  | efld (i c j : Nat) | eisi (i k : Nat)
  | mth (c k : Nat) (m : List Nat) (a as : C)
  | gdx (x : List Nat) (ks vs : List (List Nat)) (a : C)
  | gdi (neg : Bool) (x : List Nat) (ks vs : List (List Nat)) (a : C)
  | isc (k : Nat) (nm : List Nat) (a : C)
  | fst (as : C)
  deriving Inhabited

def setAll : List Nat → List D → Env → Option Env
  | [], [], e => some e
  | i :: is, d :: ds, e => setAll is ds (e.set i (some d))
  | _, _, _ => none
/-- a target: one name, or names of a tuple -/
def asg (t : List Nat) (one : Bool) (d : D) (e : Env) : Option Env :=
  if one then setAll t [d] e else match d with
    | .tup l => setAll t l e
    | .lst l => setAll t l e
    | _ => none
def nox {α : Type} : Res α → Res α
  | .ok a => .ok a
  | _ => .bad
def lcL (f : D → Res (Option D)) : List D → Res (List D)
  | [] => .ok []
  | x :: r => (nox (f x)).bd fun o => (lcL f r).bd fun l => match o with
    | some d => .ok (d :: l)
    | none => .ok l
def look (i : Nat) (e : Env) : Res D := match e[i]? with
  | some (some d) => .ok d
  | _ => .bad
def dIdx : D → D → Res D
  | .scr l, .int i => om (at_ l i) fun d => .ok (.int d)
  | .lst l, .int i => om (at_ l i) .ok
  | .tup l, .int i => om (at_ l i) .ok
  | .str s, .int i => if s.length ≤ LIM then om (at_ s i) fun c => .ok (.str [c]) else .bad
  | _, _ => .bad
def dSlc : D → D → D → Res D
  | .lst l, lo, hi => if isPart lo && isPart hi then .ok (.lst (cut l lo hi)) else .bad
  | .tup l, lo, hi => if isPart lo && isPart hi then .ok (.tup (cut l lo hi)) else .bad
  | .str l, lo, hi => if isPart lo && isPart hi && decide (l.length ≤ LIM) then .ok (.str (cut l lo hi)) else .bad
  | _, _, _ => .bad
def isStr : D → Bool
  | .str _ => true
  | _ => false
def prt (d : D) : Res D := if isPart d = true then .ok d else .bad
def dRev : D → Res D
  | .lst l => .ok (.lst l.reverse)
  | .str l => if l.length ≤ LIM then .ok (.str l.reverse) else .bad
  | _ => .bad
def dIs (d : D) (neg : Bool) (x : D) : Res D := match d, x with
  | _, .exc _ _ => .bad
  | .non, .non => .ok (.bl (!neg))
  | .bl a, .bl b => .ok (.bl ((a == b) != neg))
  | .non, _ => .ok (.bl neg)
  | .bl _, _ => .ok (.bl neg)
  | _, _ => .bad
def dGdx (ks vs : List (List Nat)) : D → Res D
  | .str s => om (lkS ks vs s) fun v => .ok (.str v)
  | _ => .bad
def dGdi (neg : Bool) (ks vs : List (List Nat)) : D → Res D
  | .str s => .ok (.bl ((lkS ks vs s).isSome != neg))
  | _ => .bad
def dIsc (k : Nat) : D → Res D
  | .ins c _ => if c = k then .ok (.bl true) else .bad
  | _ => .bad
def dFld (c j : Nat) : D → Res D
  | .ins c' l => if c' = c then om l[j]? .ok else .bad
  | _ => .bad

section
variable (Φ : Nat → List D → Res D) (sub : Nat → Nat → Option Bool)
mutual
def ev : C → Env → Res D
  | .var i, e => look i e
  | .non, _ => .ok .non
  | .bl b, _ => .ok (.bl b)
  | .int i, _ => .ok (.int i)
  | .str s, _ => .ok (.str s)
  | .glb _ d, _ => .ok d
  | .op o a b, e => (ev a e).bd fun x => (ev b e).bd fun y => op2 o x y
  | .chn o1 o2 a b c, e => (ev a e).bd fun x => (ev b e).bd fun y => (op2 o1 x y).bd fun z => match z with
    | .bl true => (ev c e).bd fun w => op2 o2 y w
    | .bl false => .ok (.bl false)
    | _ => .bad
  | .neg a, e => (ev a e).bd fun x => match x with
    | .int i => .ok (.int (-i))
    | _ => .bad
  | .one a, e => ev a e
  | .and a b, e => (ev a e).bd fun x => (truth x).bd fun k => if k = true then ev b e else .ok x
  | .or a b, e => (ev a e).bd fun x => (truth x).bd fun k => if k = true then .ok x else ev b e
  | .not a, e => (ev a e).bd fun x => (truth x).bd fun k => .ok (.bl (!k))
  | .ite c a b, e => (ev c e).bd fun x => (truth x).bd fun k => if k = true then ev a e else ev b e
  | .is_ d neg a, e => (ev a e).bd fun x => dIs d neg x
  | .isi a k, e => (ev a e).bd fun x => if kdOk x then .ok (.bl (isKd x k)) else .bad
  | .isi2 a k1 k2, e => (ev a e).bd fun x => if kdOk x then .ok (.bl (isKd x k1 || isKd x k2)) else .bad
  | .call k _ as, e => (evL as e).bd fun xs => Φ k xs
  | .bi f as, e => (evL as e).bd fun xs => biF f xs
  | .mt m a as, e => (ev a e).bd fun x => if isStr x = true then ((evL as e).bd fun xs => meth m x xs) else .bad
  | .idx a b, e => (ev a e).bd fun x => (ev b e).bd fun y => dIdx x y
  | .slc a lo hi, e => (ev a e).bd fun x => ((ev lo e).bd prt).bd fun l => ((ev hi e).bd prt).bd fun h => dSlc x l h
  | .rev a, e => (ev a e).bd fun x => dRev x
  | .tup as, e => (evL as e).bd fun xs => if xs.length ≤ LIM then .ok (.tup xs) else .bad
  | .lst as, e => (evL as e).bd fun xs => if xs.length ≤ LIM then .ok (.lst xs) else .bad
  | .lc t one it cnd elt, e => (ev it e).bd fun x => om (items x) fun l => if l.length < LIM then (lcL (fun d => om (asg t one d e) fun e' =>
        (ev cnd e').bd fun c => (truth c).bd fun k => if k = true then (ev elt e').bd fun y => .ok (some y) else .ok none) l).bd fun ys => .ok (.lst ys) else .bad
  | .efld i c j, e => match e[i]? with
    | some (some (.exc c' l)) => if c' = c then om l[j]? .ok else .bad
    | _ => .bad
  | .eisi i k, e => match e[i]? with
    | some (some (.exc c' _)) => om (sub c' k) fun b => .ok (.bl b)
    | _ => .bad
  | .fld c j a, e => (ev a e).bd fun x => dFld c j x
  | .mth c k _ a as, e => (ev a e).bd fun x => match x with
    | .ins c' _ => if c' = c then ((evL as e).bd fun xs => Φ k (x :: xs)) else .bad
    | _ => .bad
  | .gdx _ ks vs a, e => (ev a e).bd fun x => dGdx ks vs x
  | .gdi neg _ ks vs a, e => (ev a e).bd fun x => dGdi neg ks vs x
  | .isc k _ a, e => (ev a e).bd fun x => dIsc k x
  | .fst as, e => (evF as [] e).bd fun s => .ok (.str s)
  | .nil, _ => .ok .non
  | .cons _ _, _ => .bad
def evF : C → List Nat → Env → Res (List Nat)
  | .nil, acc, _ => .ok acc
  | .cons a r, acc, e => (ev a e).bd fun x => (fmt1 x).bd fun s => if (acc ++ s).length ≤ LIM then evF r (acc ++ s) e else .bad
  | _, _, _ => .bad
def evL : C → Env → Res (List D)
  | .nil, _ => .ok []
  | .cons a r, e => (ev a e).bd fun x => (evL r e).bd fun xs => .ok (x :: xs)
  | _, _ => .bad
end
end

/-- statements -/
inductive Mu where
  | append | extend | reverse | pop
  deriving DecidableEq
inductive S where
  | skip
  | asg (t : List Nat) (one : Bool) (e : C)
  | own (i : Nat) (e : C)
  | mu (m : Mu) (i : Nat) (as : C)
  | put (i : Nat) (a b : C)
  | aug (o : Op2) (i : Nat) (e : C)
  | if_ (c : C) (a b : S)
  | while_ (L : List Nat) (c : C) (b : S)
  | for_ (L : List Nat) (t : List Nat) (one : Bool) (it : C) (b : S)
  | ret (e : C) | retN
  | expr (e : C)
  | raise (c : Nat) (x : List Nat) (as : C)
  | try_ (b h : S)
  | hnd (c : Nat) (x : List Nat) (i : Nat) (nm : List Nat) (b r : S)
  | brk | cont
  | seq (a b : S)
  | frz (i : Nat) (a : S)
  | dnew (i : Nat)
  | dnew1 (i : Nat) (k v : C)
  | fpop (L : List Nat) (t : List Nat) (one : Bool) (a : C) (i : Nat) (b : S)
  deriving Inhabited

def putL (l : List D) (i : Int) (d : D) : Option (List D) := (ixOf l.length i).map fun j => l.set j d
def muD : Mu → List D → List D → Res (List D)
  | .append, l, [x] => if l.length < LIM then .ok (l ++ [x]) else .bad
  | .extend, l, [.lst m] => if l.length + m.length ≤ LIM then .ok (l ++ m) else .bad
  | .reverse, l, [] => .ok l.reverse
  | _, _, _ => .bad
def forL (f : D → Env → Out) : List D → Env → Out
  | [], e => .nx e
  | x :: r, e => match f x e with
    | .nx e' => forL f r e'
    | .ct e' => forL f r e'
    | .bk e' => .nx e'
    | o => o
def whL (c : Env → Res Bool) (f : Env → Out) : Nat → Env → Out
  | 0, _ => .bad
  | n + 1, e => (c e).out e fun k => if k = true then match f e with
      | .nx e' => whL c f n e'
      | .ct e' => whL c f n e'
      | .bk e' => .nx e'
      | o => o
    else .nx e
section
variable (Φ : Nat → List D → Res D) (sub : Nat → Nat → Option Bool)
mutual
/-- sub c k: whether the class k is c or one of its bases -/
def evS (n : Nat) : S → Env → Out
  | .skip, e => .nx e
  | .asg t one c, e => (ev Φ sub c e).out e fun d => omO (asg t one d e) .nx
  | .own i c, e => ((ev Φ sub c e).bd onlyL).out e fun d => .nx (e.set i (some d))
  | .mu m i as, e => (look i e).out e fun x => match x with
    | .lst l => (evL Φ sub as e).out e fun xs => (muD m l xs).out e fun l' => .nx (e.set i (some (.lst l')))
    | _ => .bad
  | .put i a b, e => (ev Φ sub b e).out e fun y => (look i e).out e fun x => (ev Φ sub a e).out e fun k => match x, k with
    | .lst l, .int j => omO (putL l j y) fun l' => .nx (e.set i (some (.lst l')))
    | .dic ks vs, k => if isKey k = true ∧ ks.length < LIM then .nx (e.set i (some (dPut ks vs k y))) else .bad
    | _, _ => .bad
  | .aug o i c, e => (look i e).out e fun x => (ev Φ sub c e).out e fun y => (op2 o x y).out e fun z => .nx (e.set i (some z))
  | .if_ c a b, e => ((ev Φ sub c e).bd truth).out e fun k => if k = true then evS n a e else evS n b e
  | .while_ _ c b, e => whL (fun e => (ev Φ sub c e).bd truth) (evS n b) n e
  | .for_ _ t one it b, e => (ev Φ sub it e).out e fun x => omO (items x) fun l => forL (fun d e => omO (asg t one d e) (evS n b)) l e
  | .ret c, e => (ev Φ sub c e).out e fun d => .rt d
  | .retN, _ => .rt .non
  | .expr c, e => (ev Φ sub c e).out e fun _ => .nx e
  | .raise c _ as, e => (evL Φ sub as e).out e fun xs => .ex e c xs
  | .try_ b h, e => match evS n b e with
    | .ex e' c l => evH n c l h e'
    | o => o
  | .hnd _ _ _ _ _ _, _ => .bad
  | .brk, e => .bk e
  | .cont, e => .ct e
  | .seq a b, e => match evS n a e with
    | .nx e' => evS n b e'
    | o => o
  | .frz _ a, e => evS n a e
  | .dnew i, e => .nx (e.set i (some (.dic [] [])))
  | .dnew1 i k v, e => (ev Φ sub k e).out e fun x => (ev Φ sub v e).out e fun y => if isKey x = true then .nx (e.set i (some (.dic [x] [y]))) else .bad
  | .fpop _ t one a i b, e => (ev Φ sub a e).out e fun x => (look i e).out e fun z => match z with
    | .lst l => omO l.getLast? fun j => (dIdx x j).out e fun y => omO (items y) fun ys => forL (fun d e => omO (asg t one d e) (evS n b)) ys (e.set i (some (.lst l.dropLast)))
    | _ => .bad
/-- the handlers of a try -/
def evH (n : Nat) (c : Nat) (l : List D) : S → Env → Out
  | .hnd k _ i _ b r, e => omO (sub c k) fun z => if z = true then (if i < e.length then (match evS n b (e.set i (some (.exc c l))) with
      | .nx e' => .nx (e'.set i none)
      | .bk e' => .bk (e'.set i none)
      | .ct e' => .ct (e'.set i none)
      | .ex _ _ _ => .bad
      | o => o) else .bad)
    else evH n c l r e
  | _, e => .ex e c l
end
end
/-- turns of a while, at most -/
def FUEL : Nat := 1000000000000
def fin : Out → Res D
  | .nx _ => .ok .non
  | .rt d => .ok d
  | .ex _ c l => .err c l
  | _ => .bad
/-- a def: N slots, the body, what it hands back -/
def run (Φ : Nat → List D → Res D) (sub : Nat → Nat → Option Bool) (n N : Nat) (b : S) (xs : List D) : Res D := fin (evS Φ sub n b (xs.map some ++ List.replicate (N - xs.length) none))
/-- __init__ of a plain class: the slots (the object's own is empty), what goes ahead, the fields' values; what it hands back is the object -/
def runI (Φ : Nat → List D → Res D) (sub : Nat → Nat → Option Bool) (n N c : Nat) (b : S) (as : C) (xs : List D) : Res D := match evS Φ sub n b (none :: (xs.map some ++ List.replicate (N - (xs.length + 1)) none)) with
  | .nx e => (evL Φ sub as e).bd fun l => .ok (.ins c l)
  | .ex _ c l => .err c l
  | _ => .bad
end E

set_option autoImplicit false
set_option linter.all false
set_option Elab.async false
set_option maxRecDepth 100000
/-! E1: data in the heap. -/
namespace E
open PySem PySem.Spec PyProof.Rows L2

def txt (s : List Nat) : Str := ⟨s.toArray⟩
theorem txt_len (s : List Nat) : (txt s).length = s.length := by simp [txt, Str.length]
theorem LIM_eq : LIM = sizeLine := by rw [sizeLine_eq]; rfl
/-- a dict's key -/
def kOf : D → Option Key
  | .int i => some (.inl i)
  | .str s => some (.inr (txt s))
  | _ => none
/-- addresses of the classes, names of their fields -/
structure Tb where
  ca : Nat → Addr
  fl : Nat → List Str
  z : Hp → Prop
  zm : ∀ {G G' : Hp}, Same G G' → z G → z G'
  ze : E.Env → L2.St → Prop
  pr : List Nat
  zs : ∀ {e e' : E.Env} {σ σ' : L2.St}, (∀ j ∈ pr, e'[j]? = e[j]? ∧ σ'[j]? = σ[j]?) → ze e σ → ze e' σ'

section
variable (T : Tb) (K : PySem.W.Frag)
mutual
def Rep (G : Hp) : D → V → Prop
  | .non, v => v = .non
  | .bl b, v => v = .bl b
  | .int i, v => v = .int i
  | .str s, v => v = .str (txt s)
  | .tup l, v => ∃ a xs, v = .ref a ∧ SqT K G a xs ∧ RepL G l xs
  | .lst l, v => ∃ a xs, v = .ref a ∧ G a = some (.lst xs) ∧ RepL G l xs
  | .scr l, v => ∃ a, v = .ref a ∧ SqL K G a (l.map V.int)
  | .ins c l, v => ∃ a dx fs, v = .ref a ∧ G a = some (.ins (T.ca c) dx fs) ∧ fs.map (·.1) = T.fl c ∧ RepL G l (fs.map (·.2))
  | .dic ks vs, v => ∃ a kvs, v = .ref a ∧ G a = some (.dK kvs) ∧ ks.map kOf = kvs.map (fun p => some p.1) ∧ RepL G vs (kvs.map (·.2))
  | .set _, _ => False
  | .exc _ _, _ => True
def RepL (G : Hp) : List D → List V → Prop
  | [], v => v = []
  | d :: ds, v => ∃ x xs, v = x :: xs ∧ Rep G d x ∧ RepL G ds xs
end
/-- as Rep, but the object itself may be tracked in H alone -/
def RepR (H G : Hp) : D → V → Prop
  | .lst l, v => ∃ a xs, v = .ref a ∧ H a = some (.lst xs) ∧ RepL T K G l xs
  | .dic ks vs, v => ∃ a kvs, v = .ref a ∧ H a = some (.dK kvs) ∧ ks.map kOf = kvs.map (fun p => some p.1) ∧ RepL T K G vs (kvs.map (·.2))
  | d, v => Rep T K G d v
/-- what stands at an owned address -/
def OwnO (G : Hp) (o : HO) : D → Prop
  | .lst l => ∃ xs, o = .lst xs ∧ RepL T K G l xs
  | .dic ks vs => ∃ kvs, o = .dK kvs ∧ ks.map kOf = kvs.map (fun p => some p.1) ∧ RepL T K G vs (kvs.map (·.2))
  | _ => False
end

section
variable {T : Tb} {K : PySem.W.Frag} {G G' H H' H1 G1 : Hp}
theorem Same.sqt {a : Addr} {xs : List V} (e : Same H H') (h : SqT K H a xs) : SqT K H' a xs := by
  rcases h with (h | ⟨o, h⟩) | h
  · exact .inl (.inl (e _ _ h))
  · exact .inl (.inr ⟨o, e _ _ h⟩)
  · exact .inr h
mutual
theorem Rep.mono (e : Same G G') : ∀ (d : D) (v : V), Rep T K G d v → Rep T K G' d v
  | .non, _, h => by simpa only [Rep] using h
  | .bl _, _, h => by simpa only [Rep] using h
  | .int _, _, h => by simpa only [Rep] using h
  | .str _, _, h => by simpa only [Rep] using h
  | .tup l, v, h => by
    simp only [Rep] at h ⊢
    obtain ⟨a, xs, h1, h2, h3⟩ := h
    exact ⟨a, xs, h1, Same.sqt e h2, RepL.mono e l xs h3⟩
  | .lst l, v, h => by
    simp only [Rep] at h ⊢
    obtain ⟨a, xs, h1, h2, h3⟩ := h
    exact ⟨a, xs, h1, e _ _ h2, RepL.mono e l xs h3⟩
  | .scr l, v, h => by
    simp only [Rep] at h ⊢
    obtain ⟨a, h1, h2⟩ := h
    exact ⟨a, h1, Same.seq e h2⟩
  | .ins c l, v, h => by
    simp only [Rep] at h ⊢
    obtain ⟨a, dx, fs, h1, h2, h3, h4⟩ := h
    exact ⟨a, dx, fs, h1, e _ _ h2, h3, RepL.mono e l _ h4⟩
  | .dic ks vs, v, h => by
    simp only [Rep] at h ⊢
    obtain ⟨a, kvs, h1, h2, h3, h4⟩ := h
    exact ⟨a, kvs, h1, e _ _ h2, h3, RepL.mono e vs _ h4⟩
  | .set _, _, h => by simp only [Rep] at h
  | .exc _ _, _, h => by simp only [Rep]
theorem RepL.mono (e : Same G G') : ∀ (l : List D) (xs : List V), RepL T K G l xs → RepL T K G' l xs
  | [], _, h => by simpa only [RepL] using h
  | d :: ds, v, h => by
    simp only [RepL] at h ⊢
    obtain ⟨x, xs, h1, h2, h3⟩ := h
    exact ⟨x, xs, h1, Rep.mono e d x h2, RepL.mono e ds xs h3⟩
end
theorem RepL.nil : RepL T K G [] [] := by simp only [RepL]
theorem RepL.cons {d : D} {x : V} {ds : List D} {xs : List V} (h1 : Rep T K G d x) (h2 : RepL T K G ds xs) : RepL T K G (d :: ds) (x :: xs) := by
  simp only [RepL]
  exact ⟨x, xs, rfl, h1, h2⟩
theorem RepL.nil_inv {xs : List V} (h : RepL T K G [] xs) : xs = [] := by simpa only [RepL] using h
theorem RepL.cons_inv {d : D} {ds : List D} {xs : List V} (h : RepL T K G (d :: ds) xs) : ∃ x r, xs = x :: r ∧ Rep T K G d x ∧ RepL T K G ds r := by simpa only [RepL] using h
theorem RepL.length : ∀ {l : List D} {xs : List V}, RepL T K G l xs → l.length = xs.length
  | [], _, h => by rw [h.nil_inv]; rfl
  | d :: ds, _, h => by
    obtain ⟨x, r, rfl, _, h2⟩ := h.cons_inv
    simp [RepL.length h2]
theorem RepL.append : ∀ {l m : List D} {xs ys : List V}, RepL T K G l xs → RepL T K G m ys → RepL T K G (l ++ m) (xs ++ ys)
  | [], _, _, _, h, h2 => by rw [h.nil_inv]; exact h2
  | d :: ds, _, _, _, h, h2 => by
    obtain ⟨x, r, rfl, h3, h4⟩ := h.cons_inv
    exact .cons h3 (RepL.append h4 h2)
theorem RepL.get : ∀ {l : List D} {xs : List V} {i : Nat} {d : D}, RepL T K G l xs → l[i]? = some d → ∃ v, xs[i]? = some v ∧ Rep T K G d v
  | [], _, _, _, _, e => by simp at e
  | d :: ds, _, 0, d', h, e => by
    obtain ⟨x, r, rfl, h3, h4⟩ := h.cons_inv
    have e' : d = d' := by simpa using e
    subst e'
    exact ⟨x, rfl, h3⟩
  | d :: ds, _, i + 1, _, h, e => by
    obtain ⟨x, r, rfl, h3, h4⟩ := h.cons_inv
    obtain ⟨v, h5, h6⟩ := RepL.get (i := i) h4 (by simpa using e)
    exact ⟨v, by simpa using h5, h6⟩
theorem RepL.take : ∀ {l : List D} {xs : List V} (n : Nat), RepL T K G l xs → RepL T K G (l.take n) (xs.take n)
  | _, _, 0, _ => by simpa using RepL.nil
  | [], _, n + 1, h => by rw [h.nil_inv]; simpa using RepL.nil
  | d :: ds, _, n + 1, h => by
    obtain ⟨x, r, rfl, h3, h4⟩ := h.cons_inv
    simpa using RepL.cons h3 (RepL.take n h4)
theorem RepL.drop : ∀ {l : List D} {xs : List V} (n : Nat), RepL T K G l xs → RepL T K G (l.drop n) (xs.drop n)
  | _, _, 0, h => by simpa using h
  | [], _, n + 1, h => by rw [h.nil_inv]; simpa using RepL.nil
  | d :: ds, _, n + 1, h => by
    obtain ⟨x, r, rfl, h3, h4⟩ := h.cons_inv
    simpa using RepL.drop n h4
theorem RepL.set : ∀ {l : List D} {xs : List V} {d : D} {v : V} (i : Nat), RepL T K G l xs → Rep T K G d v → RepL T K G (l.set i d) (xs.set i v)
  | [], _, _, _, _, h, _ => by rw [h.nil_inv]; simpa using RepL.nil
  | d :: ds, _, _, _, 0, h, h2 => by
    obtain ⟨x, r, rfl, h3, h4⟩ := h.cons_inv
    exact .cons h2 h4
  | d :: ds, _, _, _, i + 1, h, h2 => by
    obtain ⟨x, r, rfl, h3, h4⟩ := h.cons_inv
    exact .cons h3 (RepL.set i h4 h2)
theorem RepL.reverse {l : List D} {xs : List V} (h : RepL T K G l xs) : RepL T K G l.reverse xs.reverse := by
  induction l generalizing xs with
  | nil => rw [h.nil_inv]; simpa using RepL.nil
  | cons d ds ih =>
    obtain ⟨x, r, rfl, h3, h4⟩ := h.cons_inv
    simpa using (ih h4).append (.cons h3 .nil)
theorem RepL.replicate {l : List D} {xs : List V} (n : Nat) (h : RepL T K G l xs) : RepL T K G (List.replicate n l).flatten (List.replicate n xs).flatten := by
  induction n with
  | zero => simpa using RepL.nil
  | succ n ih => simpa [List.replicate_succ] using h.append ih
theorem Rep.non {v : V} (h : Rep T K G .non v) : v = .non := by simpa only [Rep] using h
theorem Rep.bl {v : V} {b : Bool} (h : Rep T K G (.bl b) v) : v = .bl b := by simpa only [Rep] using h
theorem Rep.int {v : V} {b : Int} (h : Rep T K G (.int b) v) : v = .int b := by simpa only [Rep] using h
theorem Rep.str {v : V} {b : List Nat} (h : Rep T K G (.str b) v) : v = .str (txt b) := by simpa only [Rep] using h
theorem Rep.tup {v : V} {l : List D} (h : Rep T K G (.tup l) v) : ∃ a xs, v = .ref a ∧ SqT K G a xs ∧ RepL T K G l xs := by simpa only [Rep] using h
theorem Rep.scr {v : V} {l : List Int} (h : Rep T K G (.scr l) v) : ∃ a, v = .ref a ∧ SqL K G a (l.map V.int) := by simpa only [Rep] using h
theorem Rep.lst {v : V} {l : List D} (h : Rep T K G (.lst l) v) : ∃ a xs, v = .ref a ∧ G a = some (.lst xs) ∧ RepL T K G l xs := by simpa only [Rep] using h
theorem Rep.ins {v : V} {c : Nat} {l : List D} (h : Rep T K G (.ins c l) v) : ∃ a dx fs, v = .ref a ∧ G a = some (.ins (T.ca c) dx fs) ∧ fs.map (·.1) = T.fl c ∧ RepL T K G l (fs.map (·.2)) := by simpa only [Rep] using h
theorem Rep.dic {v : V} {ks vs : List D} (h : Rep T K G (.dic ks vs) v) : ∃ a kvs, v = .ref a ∧ G a = some (.dK kvs) ∧ ks.map kOf = kvs.map (fun p => some p.1) ∧ RepL T K G vs (kvs.map (·.2)) := by simpa only [Rep] using h
theorem OwnO.mono {o : HO} {d : D} (e : Same G G') (h : OwnO T K G o d) : OwnO T K G' o d := by
  cases d <;> try exact h
  · obtain ⟨xs, h1, h2⟩ := h
    exact ⟨xs, h1, h2.mono e⟩
  · obtain ⟨kvs, h1, h2, h3⟩ := h
    exact ⟨kvs, h1, h2, h3.mono e⟩
theorem OwnO.rep {o : HO} {d : D} {p : Addr} (h : OwnO T K G o d) (hp : G p = some o) : Rep T K G d (.ref p) := by
  cases d <;> try exact h.elim
  · obtain ⟨xs, h1, h2⟩ := h
    simp only [Rep]
    exact ⟨p, xs, rfl, by rw [hp, h1], h2⟩
  · obtain ⟨kvs, h1, h2, h3⟩ := h
    simp only [Rep]
    exact ⟨p, kvs, rfl, by rw [hp, h1], h2, h3⟩
theorem OwnO.repR {o : HO} {d : D} {p : Addr} (h : OwnO T K G o d) (hp : H p = some o) : RepR T K H G d (.ref p) := by
  cases d <;> try exact h.elim
  · obtain ⟨xs, h1, h2⟩ := h
    exact ⟨p, xs, rfl, by rw [hp, h1], h2⟩
  · obtain ⟨kvs, h1, h2, h3⟩ := h
    exact ⟨p, kvs, rfl, by rw [hp, h1], h2, h3⟩
theorem Rep.mk_tup {a : Addr} {xs : List V} {l : List D} (h : SqT K G a xs) (h2 : RepL T K G l xs) : Rep T K G (.tup l) (.ref a) := by simp only [Rep]; exact ⟨a, xs, rfl, h, h2⟩
theorem Rep.mk_lst {a : Addr} {xs : List V} {l : List D} (h : G a = some (.lst xs)) (h2 : RepL T K G l xs) : Rep T K G (.lst l) (.ref a) := by simp only [Rep]; exact ⟨a, xs, rfl, h, h2⟩
@[simp] theorem rep_non {v : V} : Rep T K G .non v ↔ v = .non := by simp only [Rep]
@[simp] theorem rep_bl {v : V} {b : Bool} : Rep T K G (.bl b) v ↔ v = .bl b := by simp only [Rep]
@[simp] theorem rep_int {v : V} {b : Int} : Rep T K G (.int b) v ↔ v = .int b := by simp only [Rep]
@[simp] theorem rep_str {v : V} {b : List Nat} : Rep T K G (.str b) v ↔ v = .str (txt b) := by simp only [Rep]
theorem RepL.ints {is : List Int} : RepL T K G (is.map D.int) (is.map V.int) := by
  induction is with
  | nil => exact .nil
  | cons i r ih => exact .cons (by simp) ih
theorem RepL.ints_inv : ∀ {is : List Int} {xs : List V}, RepL T K G (is.map D.int) xs → xs = is.map V.int
  | [], _, h => h.nil_inv
  | i :: r, _, h => by
    obtain ⟨x, q, rfl, h3, h4⟩ := h.cons_inv
    rw [Rep.int h3, RepL.ints_inv h4]; rfl
theorem RepL.bools_inv : ∀ {is : List Bool} {xs : List V}, RepL T K G (is.map D.bl) xs → xs = is.map V.bl
  | [], _, h => h.nil_inv
  | i :: r, _, h => by
    obtain ⟨x, q, rfl, h3, h4⟩ := h.cons_inv
    rw [Rep.bl h3, RepL.bools_inv h4]; rfl
theorem RepL.strs_inv : ∀ {is : List (List Nat)} {xs : List V}, RepL T K G (is.map D.str) xs → xs = (is.map txt).map V.str
  | [], _, h => h.nil_inv
  | i :: r, _, h => by
    obtain ⟨x, q, rfl, h3, h4⟩ := h.cons_inv
    rw [Rep.str h3, RepL.strs_inv h4]; rfl
theorem RepR.of {d : D} {v : V} (s : Same G H) (h : Rep T K G d v) : RepR T K H G d v := by
  cases d <;> try exact h
  · obtain ⟨a, xs, h1, h2, h3⟩ := h.lst
    exact ⟨a, xs, h1, s _ _ h2, h3⟩
  · obtain ⟨a, xs, h1, h2, h3, h4⟩ := h.dic
    exact ⟨a, xs, h1, s _ _ h2, h3, h4⟩
theorem RepR.mono {d : D} {v : V} (s : Same H H') (s2 : Same G G') (h : RepR T K H G d v) : RepR T K H' G' d v := by
  cases d <;> try exact Rep.mono s2 _ _ h
  · obtain ⟨a, xs, h1, h2, h3⟩ := h
    exact ⟨a, xs, h1, s _ _ h2, h3.mono s2⟩
  · obtain ⟨a, xs, h1, h2, h3, h4⟩ := h
    exact ⟨a, xs, h1, s _ _ h2, h3, h4.mono s2⟩

/-! ### how the heap grows: H is what is tracked, G what is given away for good -/
structure Ext (H G H' G' : Hp) : Prop where
  h : Same H H'
  g : Same G G'
  s : Same G' H'
  n : ∀ a, H a ≠ none → G a = none → G' a = none
theorem Ext.refl (s : Same G H) : Ext H G H G := ⟨Same.refl _, Same.refl _, s, fun _ _ h => h⟩
theorem Ext.trans {H2 G2 : Hp} (a : Ext H G H1 G1) (b : Ext H1 G1 H2 G2) : Ext H G H2 G2 :=
  ⟨a.h.trans b.h, a.g.trans b.g, b.s, fun x hx hn => b.n x (by
    cases q : H x with
    | none => exact absurd q hx
    | some o => rw [a.h _ _ q]; simp) (a.n x hx hn)⟩
theorem same_new {p : Addr} {o : HO} (h : H p = none) : Same H (upd H p o) := fun b u q => by rw [upd_ne (ne_of_none q h)]; exact q
theorem Same.none (e : Same G H) {p : Addr} (h : H p = none) : G p = none := e.free h
/-- a new object that is given away -/
theorem Ext.new {p : Addr} {o : HO} (s : Same G H) (h : H p = none) : Ext H G (upd H p o) (upd G p o) :=
  ⟨same_new h, same_new (Same.none s h), fun b u q => by
    by_cases hb : b = p
    · subst hb; rw [upd_same] at q ⊢; exact q
    · rw [upd_ne hb] at q ⊢; exact s _ _ q, fun a ha hn => by
    by_cases hb : a = p
    · subst hb; exact absurd h ha
    · rw [upd_ne hb]; exact hn⟩
/-- a new object that is kept -/
theorem Ext.mine {p : Addr} {o : HO} (s : Same G H) (h : H p = none) : Ext H G (upd H p o) G :=
  ⟨same_new h, Same.refl _, fun b u q => by rw [upd_ne (ne_of_none q (Same.none s h))]; exact s _ _ q, fun _ _ h => h⟩
/-- a kept object is given away -/
theorem Ext.give {p : Addr} {o : HO} (x : Ext H G H' G') (h : H p = none) (h' : H' p = some o) (hg : G' p = none) : Ext H G H' (upd G' p o) :=
  ⟨x.h, x.g.trans (same_new hg), fun b u q => by
    by_cases hb : b = p
    · subst hb; rw [upd_same] at q; rw [h']; exact q
    · rw [upd_ne hb] at q; exact x.s _ _ q, fun a ha hn => by
    by_cases hb : a = p
    · subst hb; exact absurd h ha
    · rw [upd_ne hb]; exact x.n a ha hn⟩
end
end E

set_option autoImplicit false
set_option linter.all false
set_option Elab.async false
set_option maxRecDepth 100000
/-! E2: judgements. -/
namespace E
open PySem PySem.Spec PyProof.Rows L2

section
variable (T : Tb) (K : PySem.W.Frag)
/-- an exception's own dict -/
def ExcAt (G : Hp) (c : Nat) (l : List D) (od : Option Addr) : Prop :=
  (T.fl c = [] ∧ l = [] ∧ od = none) ∨ ∃ dd fs, od = some dd ∧ G dd = some (.xd fs) ∧ l.length = (T.fl c).length ∧ ∀ (j : Nat) (nm : Str) (d : D), (T.fl c)[j]? = some nm → l[j]? = some d → ∃ v, fs.lookup nm = some v ∧ Rep T K G d v
/-- what follows a result -/
def PostG {α β : Type} (R : Hp → Hp → α → β → Prop) (W : WX) (σ : L2.St) (H G : Hp) : Res α → (β → Hp → Prop) → Prop
  | .ok a, Q => ∀ b H' G', Ext H G H' G' → R H' G' a b → Q b H'
  | .err c l, _ => ∀ od H' G', Ext H G H' G' → ExcAt T K G' c l od → W (.ref (T.ca c)) od σ H'
  | .bad, _ => False
abbrev RV : Hp → Hp → D → V → Prop := fun _ G d v => Rep T K G d v
abbrev RR : Hp → Hp → D → V → Prop := fun H G d v => RepR T K H G d v
abbrev RL : Hp → Hp → List D → List V → Prop := fun _ G d v => RepL T K G d v
abbrev RB : Hp → Hp → Bool → Bool → Prop := fun _ _ a b => b = a
/-- a list that nobody else has -/
def RF (H0 : Hp) : Hp → Hp → D → V → Prop := fun H G d v => ∃ l p xs, d = .lst l ∧ v = .ref p ∧ H p = some (.lst xs) ∧ G p = none ∧ H0 p = none ∧ RepL T K G l xs
/-- the frame's slots against the environment; O: the slots whose lists nobody else has -/
structure Rel (O : List Nat) (G0 H0 : Hp) (σ : L2.St) (H G : Hp) (e : Env) : Prop where
  x : Ext H0 G0 H G
  s0 : Same G0 H0
  z : T.z G
  ze : T.ze e σ
  po : ∀ i ∈ T.pr, i ∉ O
  len : σ.length = e.length
  val : ∀ i d, e[i]? = some (some d) → i ∉ O → ∃ v, σ[i]? = some (some v) ∧ Rep T K G d v
  own : ∀ i, i ∈ O → ∃ d p o, e[i]? = some (some d) ∧ σ[i]? = some (some (.ref p)) ∧ H p = some o ∧ G p = none ∧ H0 p = none ∧ OwnO T K G o d
  dis : ∀ i, i ∈ O → ∀ j, j ∈ O → i ≠ j → ∀ p q, σ[i]? = some (some (.ref p)) → σ[j]? = some (some (.ref q)) → p ≠ q
end

section
variable {T : Tb} {K : PySem.W.Frag} {O : List Nat} {G0 H0 : Hp} {σ : L2.St} {H G H' G' : Hp} {e : Env} {W : WX}
theorem Rel.sub (r : Rel T K O G0 H0 σ H G e) : Same G H := r.x.s
theorem Rel.ext (r : Rel T K O G0 H0 σ H G e) (x : Ext H G H' G') : Rel T K O G0 H0 σ H' G' e where
  x := r.x.trans x
  s0 := r.s0
  z := T.zm x.g r.z
  ze := r.ze
  po := r.po
  len := r.len
  val := fun i d h hi => by
    obtain ⟨v, h1, h2⟩ := r.val i d h hi
    exact ⟨v, h1, h2.mono x.g⟩
  own := fun i hi => by
    obtain ⟨l, p, xs, h1, h2, h3, h4, h5, h6⟩ := r.own i hi
    exact ⟨l, p, xs, h1, h2, x.h _ _ h3, x.n p (by rw [h3]; simp) h4, h5, h6.mono x.g⟩
  dis := r.dis
theorem ExcAt.mono {c : Nat} {l : List D} {od : Option Addr} (h : ExcAt T K G c l od) (s2 : Same G G') : ExcAt T K G' c l od := by
  rcases h with h | ⟨dd, fs, h1, h2, h3, h4⟩
  · exact .inl h
  · refine .inr ⟨dd, fs, h1, s2 _ _ h2, h3, fun j nm d q1 q2 => ?_⟩
    obtain ⟨v, h5, h6⟩ := h4 j nm d q1 q2
    exact ⟨v, h5, h6.mono s2⟩
theorem PostG.ext {α β : Type} {R : Hp → Hp → α → β → Prop} {x : Res α} {Q : β → Hp → Prop} (h : PostG T K R W σ H G x Q) (e : Ext H G H' G') : PostG T K R W σ H' G' x Q := by
  cases x with
  | ok a => exact fun b H2 G2 e2 r => h b H2 G2 (e.trans e2) r
  | err c l => exact fun od H2 G2 e2 r => h od H2 G2 (e.trans e2) r
  | bad => exact h
theorem PostG.bind {α β γ δ : Type} {R1 : Hp → Hp → α → β → Prop} {R2 : Hp → Hp → γ → δ → Prop} {x : Res α} {f : α → Res γ} {Q : δ → Hp → Prop} {P : β → Hp → Prop} (h : PostG T K R2 W σ H G (x.bd f) Q)
    (k : ∀ a b H' G', Ext H G H' G' → R1 H' G' a b → PostG T K R2 W σ H' G' (f a) Q → P b H') : PostG T K R1 W σ H G x P := by
  cases x with
  | ok a => exact fun b H2 G2 e2 r => k a b H2 G2 e2 r (PostG.ext (by simpa using h) e2)
  | err c l => exact h
  | bad => exact h
theorem PostG.ok {α β : Type} {R : Hp → Hp → α → β → Prop} {a : α} {b : β} {Q : β → Hp → Prop} (h : PostG T K R W σ H G (.ok a) Q) (s : Same G H) (r : R H G a b) : Q b H := h b H G (.refl s) r
/-- another relation -/
theorem PostG.conv {α β : Type} {R1 R2 : Hp → Hp → α → β → Prop} {x : Res α} {Q : β → Hp → Prop} (h : PostG T K R2 W σ H G x Q) (k : ∀ a b H' G', Ext H G H' G' → R1 H' G' a b → ∃ G2, Ext H G H' G2 ∧ R2 H' G2 a b) : PostG T K R1 W σ H G x Q := by
  cases x with
  | ok a => exact fun b H2 G2 e2 r => let ⟨G3, h1, h2⟩ := k a b H2 G2 e2 r; h b H2 G3 h1 h2
  | err c l => exact h
  | bad => exact h
theorem PostG.imp {α β : Type} {R : Hp → Hp → α → β → Prop} {x : Res α} {Q Q' : β → Hp → Prop} (h : PostG T K R W σ H G x Q) (k : ∀ b H, Q b H → Q' b H) : PostG T K R W σ H G x Q' := by
  cases x with
  | ok a => exact fun b H2 G2 e2 r => k _ _ (h b H2 G2 e2 r)
  | err c l => exact h
  | bad => exact h
theorem post_tup {l : List D} {xs : List V} {Q : VK} (h : PostG T K (RV T K) W σ H G (.ok (.tup l)) Q) (s : Same G H) (r : RepL T K G l xs) : ∀ p, H p = none → Q (.ref p) (upd H p (.tup xs)) := fun p hp =>
  h _ _ _ (Ext.new s hp) (Rep.mk_tup (SqT.of upd_same) (r.mono (same_new (Same.none s hp))))
theorem post_lst {l : List D} {xs : List V} {Q : VK} (h : PostG T K (RV T K) W σ H G (.ok (.lst l)) Q) (s : Same G H) (r : RepL T K G l xs) : ∀ p, H p = none → Q (.ref p) (upd H p (.lst xs)) := fun p hp =>
  h _ _ _ (Ext.new s hp) (Rep.mk_lst upd_same (r.mono (same_new (Same.none s hp))))
theorem postF_lst {HB : Hp} {l : List D} {xs : List V} {Q : VK} (h : PostG T K (RF T K HB) W σ H G (.ok (.lst l)) Q) (sb : Same HB H) (s : Same G H) (r : RepL T K G l xs) : ∀ p, H p = none → Q (.ref p) (upd H p (.lst xs)) := fun p hp =>
  h _ _ _ (Ext.mine s hp) ⟨l, p, xs, rfl, rfl, upd_same, Same.none s hp, Same.none sb hp, r⟩
end

/-! ### judgements: the expression's reading is its evaluation -/
section
variable (X : Cx) (T : Tb) (W : WX) (O : List Nat)
def cE {α β : Type} (R : Hp → Hp → Hp → α → β → Prop) (f : Env → Res α) : L2.St → Hp → (β → Hp → Prop) → Prop := fun σ H Q => ∃ G0 H0 G e, Rel T X.K O G0 H0 σ H G e ∧ PostG T X.K (R H) W σ H G (f e) Q
/-- a value that may be given away -/
def SE (x : Expr) (f : Env → Res D) : Prop := PE X x (cE X T W O (fun _ => RV T X.K) f)
/-- a value that is read now -/
def SR (x : Expr) (f : Env → Res D) : Prop := PE X x (cE X T W O (fun _ => RR T X.K) f)
/-- a new list -/
def SF (x : Expr) (f : Env → Res D) : Prop := PE X x (cE X T W O (RF T X.K) fun e => (f e).bd onlyL)
/-- a test -/
def SB (x : Expr) (f : Env → Res Bool) : Prop := PT X x (cE X T W O (fun _ => RB) f)
/-- arguments -/
def SA (xs : List Expr) (f : Env → Res (List D)) : Prop := PA X xs (cE X T W O (fun _ => RL T X.K) f)
end
section
variable {X : Cx} {T : Tb} {W : WX} {O : List Nat}
theorem PE.weak {x : Expr} {t t' : TE} (h : PE X x t) (k : ∀ σ H Q, t' σ H Q → t σ H Q) : PE X x t' := ⟨fun pins s σ H Q I q => h.run pins s σ H Q I (k σ H Q q)⟩
theorem PT.weak {x : Expr} {t t' : TT} (h : PT X x t) (k : ∀ σ H Q, t' σ H Q → t σ H Q) : PT X x t' := ⟨fun pins s σ H Q I q => h.run pins s σ H Q I (k σ H Q q)⟩
theorem PA.weak {x : List Expr} {t t' : TA} (h : PA X x t) (k : ∀ σ H Q, t' σ H Q → t σ H Q) : PA X x t' := ⟨fun pos pins s σ H Q I q => h.run pos pins s σ H Q I (k σ H Q q)⟩
theorem SE.sr {x : Expr} {f : Env → Res D} (h : SE X T W O x f) : SR X T W O x f := PE.weak h fun σ H Q ⟨G0, H0, G, e, r, p⟩ =>
  ⟨G0, H0, G, e, r, p.conv fun a b H' G' x q => ⟨G', x, RepR.of x.s q⟩⟩
theorem rv_rf {f : Env → Res D} (hl : ∀ e d, f e = .ok d → ∃ l, d = .lst l) {σ : L2.St} {H : Hp} {Q : VK} (q0 : cE X T W O (fun _ => RV T X.K) f σ H Q) : cE X T W O (RF T X.K) (fun e => (f e).bd onlyL) σ H Q := by
  obtain ⟨G0, H0, G, e, r, p⟩ := q0
  refine ⟨G0, H0, G, e, r, ?_⟩
  show PostG T X.K (RF T X.K H) W σ H G ((f e).bd onlyL) Q
  cases q : f e with
  | ok d =>
    obtain ⟨l, rfl⟩ := hl e d q
    rw [q] at p
    intro v H' G' x ⟨l', p', xs, h1, h2, h3, h4, h5, h6⟩
    cases h1
    subst h2
    exact p _ H' _ (x.give h5 h3 h4) (Rep.mk_lst upd_same (h6.mono (same_new h4)))
  | err c l => rw [q] at p; exact p
  | bad => rw [q] at p; exact p
theorem SF.se {x : Expr} {f : Env → Res D} (h : SF X T W O x f) (hl : ∀ e d, f e = .ok d → ∃ l, d = .lst l) : SE X T W O x f := PE.weak h fun σ H Q q => rv_rf hl q
/-- two operands, then an operation on values -/
theorem two {α β : Type} {R : Hp → Hp → Hp → α → β → Prop} {a b : TE} {fa fb : Env → Res D} {g : D → D → Res α} {σ : L2.St} {H : Hp} {Q : β → Hp → Prop} {P : V → V → Hp → Prop}
    (ha : a = cE X T W O (fun _ => RR T X.K) fa) (hb : b = cE X T W O (fun _ => RR T X.K) fb)
    (h : cE X T W O R (fun e => (fa e).bd fun x => (fb e).bd fun y => g x y) σ H Q)
    (k : ∀ G0 H0 G2 H2 e x y v w, Rel T X.K O G0 H0 σ H2 G2 e → Same H H2 → RepR T X.K H2 G2 x v → RepR T X.K H2 G2 y w → PostG T X.K (R H) W σ H2 G2 (g x y) Q → P v w H2) : a σ H fun v H1 => b σ H1 fun w H2 => P v w H2 := by
  subst ha hb
  obtain ⟨G0, H0, G, e, r, p⟩ := h
  refine ⟨G0, H0, G, e, r, p.bind fun x v H1 G1 x1 r1 p1 => ⟨G0, H0, G1, e, r.ext x1, p1.bind fun y w H2 G2 x2 r2 p2 => ?_⟩⟩
  exact k G0 H0 G2 H2 e x y v w ((r.ext x1).ext x2) (x1.h.trans x2.h) (RepR.mono x2.h x2.g r1) r2 p2
theorem one {α β : Type} {R : Hp → Hp → Hp → α → β → Prop} {a : TE} {fa : Env → Res D} {g : D → Res α} {σ : L2.St} {H : Hp} {Q : β → Hp → Prop} {P : V → Hp → Prop}
    (ha : a = cE X T W O (fun _ => RR T X.K) fa) (h : cE X T W O R (fun e => (fa e).bd g) σ H Q)
    (k : ∀ G0 H0 G1 H1 e x v, Rel T X.K O G0 H0 σ H1 G1 e → Same H H1 → RepR T X.K H1 G1 x v → PostG T X.K (R H) W σ H1 G1 (g x) Q → P v H1) : a σ H P := by
  subst ha
  obtain ⟨G0, H0, G, e, r, p⟩ := h
  exact ⟨G0, H0, G, e, r, p.bind fun x v H1 G1 x1 r1 p1 => k G0 H0 G1 H1 e x v (r.ext x1) x1.h r1 p1⟩
theorem args {α β : Type} {R : Hp → Hp → Hp → α → β → Prop} {a : TA} {fa : Env → Res (List D)} {g : List D → Res α} {σ : L2.St} {H : Hp} {Q : β → Hp → Prop} {P : List V → Hp → Prop}
    (ha : a = cE X T W O (fun _ => RL T X.K) fa) (h : cE X T W O R (fun e => (fa e).bd g) σ H Q)
    (k : ∀ G0 H0 G1 H1 e x v, Rel T X.K O G0 H0 σ H1 G1 e → Same H H1 → RepL T X.K G1 x v → PostG T X.K (R H) W σ H1 G1 (g x) Q → P v H1) : a σ H P := by
  subst ha
  obtain ⟨G0, H0, G, e, r, p⟩ := h
  exact ⟨G0, H0, G, e, r, p.bind fun x v H1 G1 x1 r1 p1 => k G0 H0 G1 H1 e x v (r.ext x1) x1.h r1 p1⟩
/-! ### names, constants -/
theorem se_var {i : Nat} {x : Str} {pos : Pos} (hN : X.N[i]? = some x) (hv : Vis X.env.scope x) (hd : (x == ("__debug__" : Str)) = false) (hcd : (x == ("__classdict__" : Str)) = false) (hi : i ∉ O) : SE X T W O (.Name x pos) (look i) :=
  PE.weak (pe_var hN hv hd hcd) fun σ H Q ⟨G0, H0, G, e, r, p⟩ => by
    unfold look at p
    split at p
    · rename_i d q
      obtain ⟨v, h1, h2⟩ := r.val i d q hi
      exact ⟨v, h1, p.ok r.sub h2⟩
    · exact p.elim
theorem sr_own {i : Nat} {x : Str} {pos : Pos} (hN : X.N[i]? = some x) (hv : Vis X.env.scope x) (hd : (x == ("__debug__" : Str)) = false) (hcd : (x == ("__classdict__" : Str)) = false) : SR X T W O (.Name x pos) (look i) := by
  by_cases hi : i ∈ O
  · refine PE.weak (pe_var hN hv hd hcd) fun σ H Q ⟨G0, H0, G, e, r, p⟩ => ?_
    obtain ⟨l, q, xs, h1, h2, h3, h4, h5, h6⟩ := r.own i hi
    unfold look at p
    rw [h1] at p
    exact ⟨_, h2, p.ok r.sub (h6.repR h3)⟩
  · exact (se_var hN hv hd hcd hi).sr
theorem se_c {x : Expr} {d : D} {v : V} (h : PE X x (tC v)) (r : ∀ G, Rep T X.K G d v) : SE X T W O x (fun _ => .ok d) := PE.weak h fun σ H Q ⟨G0, H0, G, e, q, p⟩ => p.ok q.sub (r G)
end
end E

set_option autoImplicit false
set_option linter.all false
set_option Elab.async false
set_option maxRecDepth 100000
/-! E3: operations on values. -/
namespace E
open PySem PySem.Spec PyProof.Rows L2

section
variable {T : Tb} {K : PySem.W.Frag} {W : WX} {σ : L2.St} {H G : Hp}
abbrev Pv (T : Tb) (K : PySem.W.Frag) (W : WX) (σ : L2.St) (H G : Hp) (r : Res D) (Q : VK) : Prop := PostG T K (RV T K) W σ H G r Q
theorem pif {α β : Type} {R : Hp → Hp → α → β → Prop} {c : Prop} [Decidable c] {r : Res α} {Q : β → Hp → Prop} (p : PostG T K R W σ H G (if c then r else .bad) Q) : c ∧ PostG T K R W σ H G r Q := by
  split at p
  · exact ⟨by assumption, p⟩
  · exact False.elim p
theorem pifb {α β γ : Type} {R : Hp → Hp → α → β → Prop} {c : Prop} [Decidable c] {r : Res γ} {f : γ → Res α} {Q : β → Hp → Prop} (p : PostG T K R W σ H G ((if c then r else .bad).bd f) Q) : c ∧ PostG T K R W σ H G (r.bd f) Q := by
  split at p
  · exact ⟨by assumption, p⟩
  · exact False.elim p
theorem RepR.lst {l : List D} {v : V} (h : RepR T K H G (.lst l) v) : ∃ a xs, v = .ref a ∧ H a = some (.lst xs) ∧ RepL T K G l xs := h
theorem RepR.int {i : Int} {v : V} (h : RepR T K H G (.int i) v) : v = .int i := Rep.int (T := T) (K := K) (G := G) h
theorem RepR.bl {i : Bool} {v : V} (h : RepR T K H G (.bl i) v) : v = .bl i := Rep.bl (T := T) (K := K) (G := G) h
theorem RepR.non {v : V} (h : RepR T K H G .non v) : v = .non := Rep.non (T := T) (K := K) (G := G) h
theorem RepR.str {i : List Nat} {v : V} (h : RepR T K H G (.str i) v) : v = .str (txt i) := Rep.str (T := T) (K := K) (G := G) h
theorem RepR.tup {l : List D} {v : V} (s : Same G H) (h : RepR T K H G (.tup l) v) : ∃ a xs, v = .ref a ∧ SqT K H a xs ∧ RepL T K G l xs := by
  obtain ⟨a, xs, h1, h2, h3⟩ := Rep.tup (T := T) (K := K) (G := G) h
  exact ⟨a, xs, h1, Same.sqt s h2, h3⟩
theorem RepR.scr {l : List Int} {v : V} (s : Same G H) (h : RepR T K H G (.scr l) v) : ∃ a, v = .ref a ∧ SqL K H a (l.map V.int) := by
  obtain ⟨a, h1, h2⟩ := Rep.scr (T := T) (K := K) (G := G) h
  exact ⟨a, h1, Same.seq s h2⟩
theorem pv_int {i : Int} {Q : VK} (p : Pv T K W σ H G (.ok (.int i)) Q) (s : Same G H) : Q (.int i) H := PostG.ok p s (by simp)
theorem pv_bl {i : Bool} {Q : VK} (p : Pv T K W σ H G (.ok (.bl i)) Q) (s : Same G H) : Q (.bl i) H := PostG.ok p s (by simp)
theorem pv_non {Q : VK} (p : Pv T K W σ H G (.ok .non) Q) (s : Same G H) : Q .non H := PostG.ok p s (by simp)
theorem pv_str {i : List Nat} {Q : VK} (p : Pv T K W σ H G (.ok (.str i)) Q) (s : Same G H) : Q (.str (txt i)) H := PostG.ok p s (by simp)
theorem txt_app (a b : List Nat) : txt a ++ txt b = txt (a ++ b) := by
  show Str.append _ _ = _
  simp [Str.append, txt]
theorem txt_inj {a b : List Nat} (h : txt a = txt b) : a = b := by
  unfold txt at h
  injection h with h
  simpa using h
theorem txt_list (a : List Nat) : (txt a).cps.toList = a := by simp [txt]
end

section
variable {X : Cx} {T : Tb} {W : WX} {σ : L2.St} {H G : Hp} {x y : D} {v w : V} {Q : VK}
/-! ### str * int -/
theorem foldl_app (n : Nat) (a : Array Nat) : (List.replicate n a).foldl (· ++ ·) #[] = (List.replicate n a.toList).flatten.toArray := by
  have key : ∀ (n : Nat) (b : Array Nat), (List.replicate n a).foldl (· ++ ·) b = b ++ (List.replicate n a.toList).flatten.toArray := by
    intro n
    induction n with
    | zero => intro b; simp
    | succ n ih => intro b; rw [List.replicate_succ, List.foldl_cons, ih]; apply Array.ext'; simp [List.replicate_succ]
  rw [key]; simp
def rMulS : R2 := fun x y H Q => ∃ a n, x = .str (txt a) ∧ y = .int n ∧ n < 4611686018427387904 ∧ -4611686018427387904 < n ∧ a.length * n.toNat ≤ sizeLine ∧ Q (.str (txt (List.replicate n.toNat a).flatten)) H
theorem op_mulS : OpR X (binaryOp .Mult) rMulS := by
  intro pins s σ H x y v u Q I rx ry h
  obtain ⟨a, n, rfl, rfl, h1, h2, h3, q⟩ := h
  obtain ⟨t, rfl⟩ := rx
  obtain ⟨t', rfl⟩ := ry
  have hs : sizeLine = 16777216 := sizeLine_eq
  have ha : (txt a).length = a.length := txt_len a
  refine PySem.P.mul_str ?_ ?_ ?_ ?_
  · have e1 : ¬ n < -(2 ^ 63 : Int) := by omega
    have e2 : ¬ n ≥ 2 ^ 63 := by omega
    simp only [decide_eq_false e1, decide_eq_false e2, Bool.or_self]
  · intro hn _
    rw [ha]
    have hn1 : 1 ≤ n := by omega
    have key : (a.length : Int) * n ≤ 16777216 := by
      have : ((a.length * n.toNat : Nat) : Int) ≤ 16777216 := by omega
      rw [Int.natCast_mul, Int.toNat_of_nonneg (by omega)] at this
      exact this
    have : (a.length : Int) ≤ (2 ^ 63 - 1) / n := by
      rw [Int.le_ediv_iff_mul_le (by omega)]
      omega
    omega
  · intro hn _
    rw [ha]
    exact decide_eq_false (by omega)
  · by_cases hn : n < 1
    · rw [if_pos hn]
      refine ⟨by decide, .str (txt (List.replicate n.toNat a).flatten), H, I.tok _, ⟨s.toks, ?_⟩, q⟩
      have e0 : n.toNat = 0 := by omega
      rw [e0]; rfl
    · rw [if_neg hn]
      by_cases hk : (n == 1 || (txt a).length == 0) = true
      · rw [if_pos hk]
        refine ⟨.str (txt (List.replicate n.toNat a).flatten), H, I, ⟨t, ?_⟩, q⟩
        rw [Bool.or_eq_true, beq_iff_eq, beq_iff_eq, ha] at hk
        rcases hk with hk | hk
        · subst hk; simp [txt]
        · have : a = [] := List.length_eq_zero_iff.mp hk
          subst this; simp [txt]
      · rw [if_neg hk]
        refine ⟨?_, .str (txt (List.replicate n.toNat a).flatten), H, I.tok _, ⟨s.toks, ?_⟩, q⟩
        · show (⟨(List.replicate n.toNat (txt a).cps).foldl (· ++ ·) #[]⟩ : Str).length ≤ _
          rw [foldl_app]
          simp [txt, Str.length]
          rw [Nat.mul_comm]
          omega
        · rw [foldl_app]; simp [txt]
end

section
variable {X : Cx} {T : Tb} {W : WX} {σ : L2.St} {H G : Hp} {x y : D} {v w : V} {Q : VK}
/-! ### + - * // % ** -/
def rAddT (K : PySem.W.Frag) : R2 := fun x y H Q => (∃ i j, x = .int i ∧ y = .int j ∧ Q (.int (i + j)) H) ∨ (∃ i j, x = .str i ∧ y = .str j ∧ i.length + j.length ≤ sizeLine ∧ Q (.str (i ++ j)) H) ∨ rCat x y H Q ∨ rCatA K x y H Q
theorem op_addT : OpR X (binaryOp .Add) (rAddT X.K) := OpR.or op_add (OpR.or op_add_str (OpR.or op_cat op_catA))
theorem add_ok (s : Same G H) (rx : RepR T X.K H G x v) (ry : RepR T X.K H G y w) (p : Pv T X.K W σ H G (dAdd x y) Q) : rAddT X.K v w H Q := by
  cases x <;> cases y <;> try exact False.elim p
  · rw [rx.int, ry.int]
    exact .inl ⟨_, _, rfl, rfl, pv_int p s⟩
  · rename_i a b
    rw [rx.str, ry.str]
    obtain ⟨hl, p⟩ := pif p
    rw [LIM_eq] at hl
    exact .inr (.inl ⟨_, _, rfl, rfl, by rw [txt_len, txt_len]; exact hl, by rw [txt_app]; exact pv_str p s⟩)
  · rename_i a b
    obtain ⟨p1, xs, rfl, h1, r1⟩ := rx.tup s
    obtain ⟨p2, ys, rfl, h2, r2⟩ := ry.tup s
    obtain ⟨hl, p⟩ := pif p
    rw [LIM_eq, r1.length, r2.length] at hl
    refine .inr (.inr (.inr ⟨p1, p2, xs, ys, rfl, rfl, h1, h2, hl, fun e => ?_, fun _ e => ?_, fun _ _ q hq => ?_⟩))
    · subst e
      have : a = [] := List.length_eq_zero_iff.mp (by rw [r1.length]; rfl)
      subst this
      exact p _ _ _ (.refl s) ry
    · subst e
      have : b = [] := List.length_eq_zero_iff.mp (by rw [r2.length]; rfl)
      subst this
      rw [List.append_nil] at p
      exact p _ _ _ (.refl s) rx
    · exact post_tup p s (r1.append r2) q hq
  · rename_i a b
    obtain ⟨p1, xs, rfl, h1, r1⟩ := rx.lst
    obtain ⟨p2, ys, rfl, h2, r2⟩ := ry.lst
    obtain ⟨hl, p⟩ := pif p
    rw [LIM_eq, r1.length, r2.length] at hl
    exact .inr (.inr (.inl ⟨p1, p2, xs, ys, rfl, rfl, h1, h2, hl, post_lst p s (r1.append r2)⟩))
theorem addF_ok {HB : Hp} (sb : Same HB H) (s : Same G H) (rx : RepR T X.K H G x v) (ry : RepR T X.K H G y w) (p : PostG T X.K (RF T X.K HB) W σ H G ((dAdd x y).bd onlyL) Q) : rCat v w H Q := by
  cases x <;> cases y <;> try exact False.elim p
  all_goals
    rename_i a b
    first
      | (obtain ⟨hl, p⟩ := pifb p)
      | skip
    try exact False.elim p
  obtain ⟨p1, xs, rfl, h1, r1⟩ := rx.lst
  obtain ⟨p2, ys, rfl, h2, r2⟩ := ry.lst
  rw [LIM_eq, r1.length, r2.length] at hl
  exact ⟨p1, p2, xs, ys, rfl, rfl, h1, h2, hl, postF_lst p sb s (r1.append r2)⟩
theorem op_subT : OpR X (binaryOp .Sub) (rI0 fun i j => .int (i - j)) := op_sub
def rMulT (K : PySem.W.Frag) : R2 := fun x y H Q => rI CMulW (fun i j => .int (i * j)) x y H Q ∨ rMulS x y H Q ∨ rRep x y H Q ∨ rRepT K x y H Q
theorem op_mulT : OpR X (binaryOp .Mult) (rMulT X.K) := OpR.or op_mulW (OpR.or op_mulS (OpR.or op_rep op_repT))
theorem mul_ok (s : Same G H) (rx : RepR T X.K H G x v) (ry : RepR T X.K H G y w) (p : Pv T X.K W σ H G (dMul x y) Q) : rMulT X.K v w H Q := by
  cases x <;> cases y <;> try exact False.elim p
  all_goals
    rename_i a b
    obtain ⟨hl, p⟩ := pif p
  · rw [rx.int, ry.int]
    exact .inl ⟨_, _, rfl, rfl, wide_mul (a := 4000) (b := 4000) hl.1 hl.2 (by decide) (by decide) (by decide), pv_int p s⟩
  · rw [rx.str, ry.int]
    rw [LIM_eq] at hl
    exact .inr (.inl ⟨a, b, rfl, rfl, hl.1, hl.2.1, hl.2.2, pv_str p s⟩)
  · obtain ⟨p1, xs, rfl, h1, r1⟩ := rx.tup s
    rw [ry.int]
    rw [r1.length] at hl
    exact .inr (.inr (.inr ⟨p1, b, xs, rfl, rfl, h1, by intro z; subst z; simp at hl, hl.2.1, hl.2.2.1, hl.2.2.2, post_tup p s (r1.replicate _)⟩))
  · obtain ⟨p1, xs, rfl, h1, r1⟩ := rx.lst
    rw [ry.int]
    rw [LIM_eq, r1.length] at hl
    exact .inr (.inr (.inl ⟨p1, b, xs, rfl, rfl, h1, by omega, by omega, hl.2.2, post_lst p s (r1.replicate _)⟩))
theorem mulF_ok {HB : Hp} (sb : Same HB H) (s : Same G H) (rx : RepR T X.K H G x v) (ry : RepR T X.K H G y w) (p : PostG T X.K (RF T X.K HB) W σ H G ((dMul x y).bd onlyL) Q) : rRep v w H Q := by
  cases x <;> cases y <;> try exact False.elim p
  all_goals
    rename_i a b
    obtain ⟨hl, p⟩ := pifb p
    try exact False.elim p
  obtain ⟨p1, xs, rfl, h1, r1⟩ := rx.lst
  rw [ry.int]
  rw [LIM_eq, r1.length] at hl
  exact ⟨p1, b, xs, rfl, rfl, h1, by omega, by omega, hl.2.2, postF_lst p sb s (r1.replicate _)⟩
theorem BIG_eq : BIG = 2 ^ 4000 := rfl
def op2A : Op2 → D → D → Res D := op2
theorem sub_ok (s : Same G H) (rx : RepR T X.K H G x v) (ry : RepR T X.K H G y w) (p : Pv T X.K W σ H G (op2 .sub x y) Q) : rI0 (fun i j => .int (i - j)) v w H Q := by
  cases x <;> cases y <;> try exact False.elim p
  rw [rx.int, ry.int]
  exact ⟨_, _, rfl, rfl, pv_int p s⟩
theorem fdiv_ok (s : Same G H) (rx : RepR T X.K H G x v) (ry : RepR T X.K H G y w) (p : Pv T X.K W σ H G (op2 .fdiv x y) Q) : rI CDivW (fun i j => .int (i / j)) v w H Q := by
  cases x <;> cases y <;> try exact False.elim p
  obtain ⟨hl, p⟩ := pif p
  rw [rx.int, ry.int]
  exact ⟨_, _, rfl, rfl, wide_div (b := 4000) hl.1 hl.2 (by decide) (by decide), pv_int p s⟩
theorem mod_ok (s : Same G H) (rx : RepR T X.K H G x v) (ry : RepR T X.K H G y w) (p : Pv T X.K W σ H G (op2 .mod x y) Q) : rI (fun _ j => 0 < j) (fun i j => .int (i % j)) v w H Q := by
  cases x <;> cases y <;> try exact False.elim p
  obtain ⟨hl, p⟩ := pif p
  rw [rx.int, ry.int]
  exact ⟨_, _, rfl, rfl, hl, pv_int p s⟩
theorem pow_ok (s : Same G H) (rx : RepR T X.K H G x v) (ry : RepR T X.K H G y w) (p : Pv T X.K W σ H G (op2 .pow x y) Q) : rI CPow (fun i j => .int (i ^ j.toNat)) v w H Q := by
  cases x <;> cases y <;> try exact False.elim p
  obtain ⟨hl, p⟩ := pif p
  rw [rx.int, ry.int]
  exact ⟨_, _, rfl, rfl, ⟨hl.1, hl.2.1, hl.2.2⟩, pv_int p s⟩
/-! ### < <= > >= of ints -/
theorem lt_ok (s : Same G H) (rx : RepR T X.K H G x v) (ry : RepR T X.K H G y w) (p : Pv T X.K W σ H G (op2 .lt x y) Q) : rI0 (fun i j => .bl (decide (i < j))) v w H Q := by
  cases x <;> cases y <;> try exact False.elim p
  rw [rx.int, ry.int]
  exact ⟨_, _, rfl, rfl, pv_bl p s⟩
theorem le_ok (s : Same G H) (rx : RepR T X.K H G x v) (ry : RepR T X.K H G y w) (p : Pv T X.K W σ H G (op2 .le x y) Q) : rI0 (fun i j => .bl (decide (i ≤ j))) v w H Q := by
  cases x <;> cases y <;> try exact False.elim p
  rw [rx.int, ry.int]
  exact ⟨_, _, rfl, rfl, pv_bl p s⟩
theorem gt_ok (s : Same G H) (rx : RepR T X.K H G x v) (ry : RepR T X.K H G y w) (p : Pv T X.K W σ H G (op2 .gt x y) Q) : rI0 (fun i j => .bl (decide (j < i))) v w H Q := by
  cases x <;> cases y <;> try exact False.elim p
  rw [rx.int, ry.int]
  exact ⟨_, _, rfl, rfl, pv_bl p s⟩
theorem ge_ok (s : Same G H) (rx : RepR T X.K H G x v) (ry : RepR T X.K H G y w) (p : Pv T X.K W σ H G (op2 .ge x y) Q) : rI0 (fun i j => .bl (decide (j ≤ i))) v w H Q := by
  cases x <;> cases y <;> try exact False.elim p
  rw [rx.int, ry.int]
  exact ⟨_, _, rfl, rfl, pv_bl p s⟩
end
/-! ### == of data -/
mutual
def toPy : D → PyData
  | .non => .none
  | .bl b => .bool b
  | .int i => .int i
  | .str s => .str (txt s)
  | .lst l => .list (toPyL l)
  | .tup l => .tuple (toPyL l)
  | _ => .none
def toPyL : List D → List PyData
  | [] => []
  | x :: r => toPy x :: toPyL r
end
section
variable {T : Tb} {K : PySem.W.Frag} {H G : Hp}
mutual
theorem dp_of (s : Same G H) : ∀ (d : D) (k : Nat) (v : V), plain d k = true → Rep T K G d v → Dp K H v (toPy d)
  | .non, _, _, _, r => by rw [r.non]; exact .non
  | .bl b, _, _, _, r => by rw [r.bl]; exact .bl b
  | .int b, _, _, _, r => by rw [r.int]; exact .int b
  | .str b, _, _, _, r => by rw [r.str]; exact .str _
  | .lst l, 0, _, h, _ => by simp [plain] at h
  | .lst l, k + 1, _, h, r => by
    obtain ⟨a, xs, rfl, h1, h2⟩ := r.lst
    exact .lst (SqL.of (s _ _ h1)) (dpL_of s l k xs (by simpa [plain] using h) h2)
  | .tup l, 0, _, h, _ => by simp [plain] at h
  | .tup l, k + 1, _, h, r => by
    obtain ⟨a, xs, rfl, h1, h2⟩ := r.tup
    exact .tup (Same.sqt s h1) (dpL_of s l k xs (by simpa [plain] using h) h2)
  | .dic _ _, _, _, h, _ => by simp [plain] at h
  | .set _, _, _, h, _ => by simp [plain] at h
  | .ins _ _, _, _, h, _ => by simp [plain] at h
  | .exc _ _, _, _, h, _ => by simp [plain] at h
  | .scr _, _, _, h, _ => by simp [plain] at h
theorem dpL_of (s : Same G H) : ∀ (l : List D) (k : Nat) (xs : List V), plainL l k = true → RepL T K G l xs → DpAll K H xs (toPyL l)
  | [], _, _, _, r => by rw [r.nil_inv]; exact .nil
  | d :: ds, k, _, h, r => by
    obtain ⟨x, q, rfl, h1, h2⟩ := r.cons_inv
    simp only [plainL, Bool.and_eq_true] at h
    exact .cons (dp_of s d k x h.1 h1) (dpL_of s ds k q h.2 h2)
end
theorem dp_ofR (s : Same G H) {d : D} {k : Nat} {v : V} (h : plain d k = true) (r : RepR T K H G d v) : Dp K H v (toPy d) := by
  by_cases q : ∃ l, d = .lst l
  · obtain ⟨l, rfl⟩ := q
    obtain ⟨a, xs, rfl, h1, h2⟩ := RepR.lst r
    cases k with
    | zero => simp [plain] at h
    | succ k => exact .lst (SqL.of h1) (dpL_of s _ k xs (by simpa [plain] using h) h2)
  · cases d <;> first | exact absurd ⟨_, rfl⟩ q | exact dp_of (T := T) s _ k _ h r | (exact absurd h (by cases k <;> simp [plain]))
mutual
theorem canLay : ∀ (d : D) (k : Nat), plain d k = true → (toPy d).canLay0 = true
  | .non, _, _ => by simp [toPy, PyData.canLay0]
  | .bl b, _, _ => by simp [toPy, PyData.canLay0]
  | .int b, _, _ => by simp [toPy, PyData.canLay0]
  | .str b, _, h => by simpa [toPy, PyData.canLay0, PyData.strOk, txt, plain] using h
  | .lst l, 0, h => by simp [plain] at h
  | .lst l, k + 1, h => by simpa [toPy, PyData.canLay0] using canLayL l k (by simpa [plain] using h)
  | .tup l, 0, h => by simp [plain] at h
  | .tup l, k + 1, h => by simpa [toPy, PyData.canLay0] using canLayL l k (by simpa [plain] using h)
  | .dic _ _, _, h => by simp [plain] at h
  | .set _, _, h => by simp [plain] at h
  | .ins _ _, _, h => by simp [plain] at h
  | .exc _ _, _, h => by simp [plain] at h
  | .scr _, _, h => by simp [plain] at h
theorem canLayL : ∀ (l : List D) (k : Nat), plainL l k = true → PyData.canLayAll0 (toPyL l) = true
  | [], _, _ => by simp [toPyL, PyData.canLayAll0]
  | d :: ds, k, h => by
    simp only [plainL, Bool.and_eq_true] at h
    simp [toPyL, PyData.canLayAll0, canLay d k h.1, canLayL ds k h.2]
end
mutual
theorem dep : ∀ (d : D) (k : Nat), plain d k = true → (toPy d).depth ≤ k
  | .non, _, _ => by simp [toPy, PyData.depth]
  | .bl b, _, _ => by simp [toPy, PyData.depth]
  | .int b, _, _ => by simp [toPy, PyData.depth]
  | .str b, _, _ => by simp [toPy, PyData.depth]
  | .lst l, 0, h => by simp [plain] at h
  | .lst l, k + 1, h => by
    have := depL l k (by simpa [plain] using h)
    simp only [toPy, PyData.depth]; omega
  | .tup l, 0, h => by simp [plain] at h
  | .tup l, k + 1, h => by
    have := depL l k (by simpa [plain] using h)
    simp only [toPy, PyData.depth]; omega
  | .dic _ _, _, h => by simp [plain] at h
  | .set _, _, h => by simp [plain] at h
  | .ins _ _, _, h => by simp [plain] at h
  | .exc _ _, _, h => by simp [plain] at h
  | .scr _, _, h => by simp [plain] at h
theorem depL : ∀ (l : List D) (k : Nat), plainL l k = true → PyData.depthAll (toPyL l) ≤ k
  | [], _, _ => by simp [toPyL, PyData.depthAll]
  | d :: ds, k, h => by
    simp only [plainL, Bool.and_eq_true] at h
    have h1 := dep d k h.1
    have h2 := depL ds k h.2
    simp only [toPyL, PyData.depthAll]; omega
end
theorem shaped_of {d : D} (h : plain d 60 = true) : SeqAt.shaped (toPy d) = true := by
  unfold SeqAt.shaped
  rw [canLay d 60 h, Bool.true_and]
  exact decide_eq_true (Nat.le_trans (dep d 60 h) (by decide))
theorem txt_beq (a b : List Nat) : (txt a == txt b) = (a == b) := by
  by_cases h : a = b
  · subst h; simp
  · have h2 : ¬ txt a = txt b := fun e => h (txt_inj e)
    rw [beq_eq_false_iff_ne.mpr h, beq_eq_false_iff_ne.mpr h2]
mutual
theorem eqv_py : ∀ (a b : D) (k j : Nat), plain a k = true → plain b j = true → PyData.eqv (toPy a) (toPy b) = eqv a b
  | .non, b, _, j, _, hb => by cases b <;> simp [toPy, PyData.eqv, eqv, plain] at hb ⊢
  | .bl a, b, _, j, _, hb => by cases b <;> simp [toPy, PyData.eqv, eqv, plain] at hb ⊢
  | .int a, b, _, j, _, hb => by cases b <;> simp [toPy, PyData.eqv, eqv, plain] at hb ⊢
  | .str a, b, _, j, _, hb => by cases b <;> simp [toPy, PyData.eqv, eqv, plain, txt_beq] at hb ⊢
  | .lst a, .lst b, 0, _, ha, _ => by simp [plain] at ha
  | .lst a, .lst b, _, 0, _, hb => by simp [plain] at hb
  | .lst a, .lst b, k + 1, j + 1, ha, hb => by simpa [toPy, PyData.eqv, eqv] using eqvL_py a b k j (by simpa [plain] using ha) (by simpa [plain] using hb)
  | .tup a, .tup b, 0, _, ha, _ => by simp [plain] at ha
  | .tup a, .tup b, _, 0, _, hb => by simp [plain] at hb
  | .tup a, .tup b, k + 1, j + 1, ha, hb => by simpa [toPy, PyData.eqv, eqv] using eqvL_py a b k j (by simpa [plain] using ha) (by simpa [plain] using hb)
  | .lst a, .non, _, _, _, _ => by simp [toPy, PyData.eqv, eqv]
  | .lst a, .bl _, _, _, _, _ => by simp [toPy, PyData.eqv, eqv]
  | .lst a, .int _, _, _, _, _ => by simp [toPy, PyData.eqv, eqv]
  | .lst a, .str _, _, _, _, _ => by simp [toPy, PyData.eqv, eqv]
  | .lst a, .tup _, _, _, _, _ => by simp [toPy, PyData.eqv, eqv]
  | .tup a, .non, _, _, _, _ => by simp [toPy, PyData.eqv, eqv]
  | .tup a, .bl _, _, _, _, _ => by simp [toPy, PyData.eqv, eqv]
  | .tup a, .int _, _, _, _, _ => by simp [toPy, PyData.eqv, eqv]
  | .tup a, .str _, _, _, _, _ => by simp [toPy, PyData.eqv, eqv]
  | .tup a, .lst _, _, _, _, _ => by simp [toPy, PyData.eqv, eqv]
  | .lst _, .dic _ _, _, _, _, h => by simp [plain] at h
  | .lst _, .set _, _, _, _, h => by simp [plain] at h
  | .lst _, .ins _ _, _, _, _, h => by simp [plain] at h
  | .lst _, .exc _ _, _, _, _, h => by simp [plain] at h
  | .lst _, .scr _, _, _, _, h => by simp [plain] at h
  | .tup _, .dic _ _, _, _, _, h => by simp [plain] at h
  | .tup _, .set _, _, _, _, h => by simp [plain] at h
  | .tup _, .ins _ _, _, _, _, h => by simp [plain] at h
  | .tup _, .exc _ _, _, _, _, h => by simp [plain] at h
  | .tup _, .scr _, _, _, _, h => by simp [plain] at h
  | .dic _ _, _, _, _, h, _ => by simp [plain] at h
  | .set _, _, _, _, h, _ => by simp [plain] at h
  | .ins _ _, _, _, _, h, _ => by simp [plain] at h
  | .exc _ _, _, _, _, h, _ => by simp [plain] at h
  | .scr _, _, _, _, h, _ => by simp [plain] at h
theorem eqvL_py : ∀ (a b : List D) (k j : Nat), plainL a k = true → plainL b j = true → PyData.eqvAll (toPyL a) (toPyL b) = eqvL a b
  | [], [], _, _, _, _ => by simp [toPyL, PyData.eqvAll, eqvL]
  | [], _ :: _, _, _, _, _ => by simp [toPyL, PyData.eqvAll, eqvL]
  | _ :: _, [], _, _, _, _ => by simp [toPyL, PyData.eqvAll, eqvL]
  | x :: xs, y :: ys, k, j, ha, hb => by
    simp only [plainL, Bool.and_eq_true] at ha hb
    simp [toPyL, PyData.eqvAll, eqvL, eqv_py x y k j ha.1 hb.1, eqvL_py xs ys k j ha.2 hb.2]
end
end
section
variable {X : Cx} {T : Tb} {W : WX} {σ : L2.St} {H G : Hp} {x y : D} {v w : V} {Q : VK}
def rEqT (K : PySem.W.Frag) : R2 := fun x y H Q => rEq x y H Q ∨ rEqD K x y H Q
def rNeT (K : PySem.W.Frag) : R2 := fun x y H Q => rNe x y H Q ∨ rNeD K x y H Q
theorem op_eqT (hu : X.A.units + 64 < cLine) : OpR X (compareOp .Eq) (rEqT X.K) := OpR.or op_eq (op_eqD hu)
theorem op_neT (hu : X.A.units + 64 < cLine) : OpR X (compareOp .NotEq) (rNeT X.K) := OpR.or op_ne (op_neD hu)
theorem dec_txt (a b : List Nat) : decide (V.str (txt a) = V.str (txt b)) = (a == b) := by
  by_cases h : a = b
  · subst h; simp
  · have h2 : ¬ V.str (txt a) = V.str (txt b) := fun e => h (txt_inj (V.str.inj e))
    rw [decide_eq_false h2, beq_eq_false_iff_ne.mpr h]
theorem eq_ok (s : Same G H) (rx : RepR T X.K H G x v) (ry : RepR T X.K H G y w) (p : Pv T X.K W σ H G (op2 .eq x y) Q) : rEqT X.K v w H Q := by
  by_cases e : ∃ a b, x = .str a ∧ y = .str b
  · obtain ⟨a, b, rfl, rfl⟩ := e
    rw [rx.str, ry.str]
    exact .inl ⟨rfl, by rw [dec_txt]; exact pv_bl p s⟩
  rw [show op2 .eq x y = if plain x 60 ∧ plain y 60 then .ok (.bl (eqv x y)) else .bad by cases x <;> cases y <;> first | rfl | exact absurd ⟨_, _, rfl, rfl⟩ e] at p
  right
  obtain ⟨h, p⟩ := pif p
  exact ⟨toPy x, toPy y, dp_ofR s h.1 rx, dp_ofR s h.2 ry, shaped_of h.1, shaped_of h.2, by rw [eqv_py x y 60 60 h.1 h.2]; exact pv_bl p s⟩
theorem ne_ok (s : Same G H) (rx : RepR T X.K H G x v) (ry : RepR T X.K H G y w) (p : Pv T X.K W σ H G (op2 .ne x y) Q) : rNeT X.K v w H Q := by
  by_cases e : ∃ a b, x = .str a ∧ y = .str b
  · obtain ⟨a, b, rfl, rfl⟩ := e
    rw [rx.str, ry.str]
    exact .inl ⟨rfl, by rw [dec_txt]; exact pv_bl p s⟩
  rw [show op2 .ne x y = if plain x 60 ∧ plain y 60 then .ok (.bl (!eqv x y)) else .bad by cases x <;> cases y <;> first | rfl | exact absurd ⟨_, _, rfl, rfl⟩ e] at p
  right
  obtain ⟨h, p⟩ := pif p
  exact ⟨toPy x, toPy y, dp_ofR s h.1 rx, dp_ofR s h.2 ry, shaped_of h.1, shaped_of h.2, by rw [eqv_py x y 60 60 h.1 h.2]; exact pv_bl p s⟩
/-! ### dicts -/
theorem keq_dec {a b : D} {j k : Key} (h1 : kOf a = some j) (h2 : kOf b = some k) : keq a b = decide (j = k) := by
  cases a <;> first | (cases h1; done) | skip
  all_goals cases b <;> first | (cases h2; done) | skip
  all_goals
    cases h1
    cases h2
  · rename_i x y
    by_cases h : x = y
    · subst h; simp [keq]
    · simp [keq, h]
  · simp [keq]
  · simp [keq]
  · rename_i x y
    by_cases h : x = y
    · subst h; simp [keq]
    · have : ¬ txt x = txt y := fun e => h (txt_inj e)
      simp [keq, h, this]
theorem isKey_k {x : D} (h : isKey x = true) : ∃ k, kOf x = some k := by
  cases x <;> first | exact ⟨_, rfl⟩ | cases h
theorem kOf_v {x : D} {k : Key} (h : kOf x = some k) (r : RepR T X.K H G x v) : v = kV k := by
  cases x <;> first | (cases h; done) | skip
  · cases h; exact r.int
  · cases h; exact r.str
theorem key_rep {x : D} (h : isKey x = true) (r : RepR T X.K H G x v) : Rep T X.K G x v := by
  cases x <;> first | exact r | cases h
theorem dHas_ok {x : D} {k : Key} (hk : kOf x = some k) : ∀ {ks : List D} {kvs : List (Key × V)}, ks.map kOf = kvs.map (fun p => some p.1) → dHas ks x = (valV kvs k).isSome
  | [], [], _ => rfl
  | [], _ :: _, h => by simp at h
  | _ :: _, [], h => by simp at h
  | z :: ks, p :: kvs, h => by
    simp only [List.map_cons, List.cons.injEq] at h
    have ih := dHas_ok hk h.2
    unfold dHas at ih ⊢
    rw [List.any_cons, keq_dec h.1 hk]
    by_cases e : p.1 = k
    · rw [valV_pos e]; simp [e]
    · rw [valV_neg e, ← ih]; simp [e]
theorem dPutV_ok {x d : D} {k : Key} {u : V} (hk : kOf x = some k) (rd : Rep T X.K G d u) : ∀ {ks vs : List D} {kvs : List (Key × V)}, ks.map kOf = kvs.map (fun p => some p.1) → RepL T X.K G vs (kvs.map (·.2)) →
    RepL T X.K G (dPutV ks vs x d) ((kvs.map fun kv => if kv.1 = k then (kv.1, u) else kv).map (·.2))
  | [], vs, [], _, r => by
    rw [show dPutV [] vs x d = [] by cases vs <;> rfl]
    exact .nil
  | [], _, _ :: _, h, _ => by simp at h
  | _ :: _, _, [], h, _ => by simp at h
  | z :: ks, [], p :: kvs, h, r => by have := r.nil_inv; simp at this
  | z :: ks, w :: vs, p :: kvs, h, r => by
    simp only [List.map_cons, List.cons.injEq] at h
    obtain ⟨y, q, e, h1, h2⟩ := r.cons_inv
    simp only [List.map_cons, List.cons.injEq] at e
    obtain ⟨e1, e2⟩ := e
    subst e1 e2
    simp only [dPutV, List.map_cons]
    refine .cons ?_ (dPutV_ok hk rd h.2 h2)
    rw [keq_dec h.1 hk]
    by_cases e : p.1 = k
    · simp [e]; exact rd
    · simp [e]; exact h1
theorem dPut_ok {x d : D} {k : Key} {u : V} (hk : kOf x = some k) (rd : Rep T X.K G d u) {ks vs : List D} {kvs : List (Key × V)} (h : ks.map kOf = kvs.map (fun p => some p.1)) (r : RepL T X.K G vs (kvs.map (·.2))) : OwnO T X.K G (.dK (putK kvs k u)) (dPut ks vs x d) := by
  have hh := dHas_ok hk h
  have ha := valV_any k kvs
  unfold dPut putK
  rw [ha, ← hh]
  by_cases q : dHas ks x = true
  · rw [if_pos q, if_pos q]
    refine ⟨_, rfl, ?_, dPutV_ok hk rd h r⟩
    rw [h, List.map_map]
    apply List.map_congr_left
    intro p _
    by_cases e : p.1 = k <;> simp [e]
  · rw [if_neg q, if_neg q]
    refine ⟨_, rfl, ?_, ?_⟩
    · simp [h, hk]
    · rw [List.map_append]
      exact r.append (.cons rd .nil)
/-! ### in -/
theorem flatL_v : ∀ {l : List D} {xs : List V}, RepL T X.K G l xs → l.all flat = true → xs.all flatV = true
  | [], _, r, _ => by rw [r.nil_inv]; rfl
  | d :: ds, _, r, h => by
    obtain ⟨x, q, rfl, h1, h2⟩ := r.cons_inv
    rw [List.all_cons, Bool.and_eq_true] at h ⊢
    refine ⟨?_, flatL_v h2 h.2⟩
    cases d <;> first | (rw [h1.non]; rfl) | (rw [h1.bl]; rfl) | (rw [h1.int]; rfl) | (rw [h1.str]; rfl) | (exact absurd h.1 (by simp [flat]))
theorem flat_v {d : D} {v : V} (r : Rep T X.K G d v) (h : flat d = true) : flatV v = true := by
  cases d <;> first | (rw [r.non]; rfl) | (rw [r.bl]; rfl) | (rw [r.int]; rfl) | (rw [r.str]; rfl) | (exact absurd h (by simp [flat]))
theorem eqv_v {a b : D} {v w : V} (r : Rep T X.K G a v) (r2 : Rep T X.K G b w) (h : flat a = true) (h2 : flat b = true) : eqV v w = eqv a b := by
  cases a <;> first | (exact Bool.noConfusion (show false = true from h)) | skip
  all_goals cases b <;> first | (exact Bool.noConfusion (show false = true from h2)) | skip
  all_goals
    simp only [rep_non, rep_bl, rep_int, rep_str] at r r2
    subst r r2
    simp [eqV, eqv, txt_beq]
theorem inv_v {x : D} {v : V} (r : Rep T X.K G x v) (h : flat x = true) : ∀ {l : List D} {xs : List V}, RepL T X.K G l xs → l.all flat = true → inV v xs = l.any fun y => eqv y x
  | [], _, r2, _ => by rw [r2.nil_inv]; rfl
  | d :: ds, _, r2, h3 => by
    obtain ⟨z, q, rfl, h1, h2⟩ := r2.cons_inv
    rw [List.all_cons, Bool.and_eq_true] at h3
    have ih := inv_v r h h2 h3.2
    show ((eqV z v) || q.any fun y => eqV y v) = _
    rw [List.any_cons, eqv_v h1 r h3.1 h, ← ih]
    rfl
def rInT (K : PySem.W.Frag) (neg : Bool) : R2 := fun x y H Q => (∃ (c : Nat) (z : Str), x = .str ⟨#[c]⟩ ∧ y = .str z ∧ Q (.bl (if neg then !decide (c ∈ z.cps.toList) else decide (c ∈ z.cps.toList))) H) ∨ rIn K neg x y H Q ∨
  (∃ d ds, Dp K H x d ∧ Dp K H y (.list ds) ∧ SeqAt.shaped d = true ∧ SeqAt.shaped (.list ds) = true ∧ Q (.bl (if neg then !ds.any fun z => PyData.eqv z d else ds.any fun z => PyData.eqv z d)) H) ∨
  ∃ a o, y = .ref a ∧ DGet H a x o ∧ Q (.bl (if neg then !o.isSome else o.isSome)) H
theorem op_inDk (hu : X.A.units + 65 < cLine) : OpR X (compareOp .In) (fun x y H Q => ∃ a o, y = .ref a ∧ DGet H a x o ∧ Q (.bl (if false = true then !o.isSome else o.isSome)) H) := by
  intro pins s σ H x y v u Q I rx ry ⟨a, o, ey, g, q⟩
  subst ey
  obtain rfl : u = Value.ref a := ry
  exact d_in (by omega) I g rx fun s' I' => ⟨.bl o.isSome, H, I', rfl, q⟩
theorem op_notInDk (hu : X.A.units + 65 < cLine) : OpR X (compareOp .NotIn) (fun x y H Q => ∃ a o, y = .ref a ∧ DGet H a x o ∧ Q (.bl (if true = true then !o.isSome else o.isSome)) H) := by
  intro pins s σ H x y v u Q I rx ry ⟨a, o, ey, g, q⟩
  subst ey
  obtain rfl : u = Value.ref a := ry
  exact d_notIn (by omega) I g rx fun s' I' => ⟨.bl (!o.isSome), H, I', rfl, q⟩
theorem op_inT (hu : X.A.units + 65 < cLine) : OpR X (compareOp .In) (rInT X.K false) := OpR.or op_in_sign (OpR.or op_in_seq (OpR.or (op_inD hu) (op_inDk hu)))
theorem op_notInT (hu : X.A.units + 65 < cLine) : OpR X (compareOp .NotIn) (rInT X.K true) := OpR.or op_notIn_sign (OpR.or op_notIn_seq (OpR.or (op_notInD hu) (op_notInDk hu)))
theorem anyPy {x : D} (hx : plain x 60 = true) : ∀ (l : List D) (k : Nat), plainL l k = true → ((toPyL l).any fun z => PyData.eqv z (toPy x)) = l.any fun y => eqv y x
  | [], _, _ => rfl
  | d :: ds, k, h => by
    simp only [plainL, Bool.and_eq_true] at h
    simp only [toPyL, List.any_cons, eqv_py d x k 60 h.1 hx, anyPy hx ds k h.2]
theorem in_ok {neg : Bool} (s : Same G H) (rx : RepR T X.K H G x v) (ry : RepR T X.K H G y w) (p : Pv T X.K W σ H G ((inD x y).bd fun b => .ok (.bl (if neg then !b else b))) Q) : rInT X.K neg v w H Q := by
  cases y <;> try exact False.elim p
  · rename_i b
    cases x <;> try exact False.elim p
    rename_i a
    rcases a with _ | ⟨c, _ | ⟨c2, a⟩⟩ <;> try exact False.elim p
    rw [rx.str, ry.str]
    refine .inl ⟨c, txt b, rfl, rfl, ?_⟩
    rw [txt_list]
    have q := pv_bl (T := T) (K := X.K) p s
    have e : b.contains c = decide (c ∈ b) := by simp
    rw [e] at q
    exact q
  · rename_i l
    obtain ⟨h, p⟩ := pifb p
    obtain ⟨a, xs, rfl, h1, r1⟩ := ry.tup s
    have rx' : Rep T X.K G x v := by cases x <;> first | exact rx | exact absurd h.1 (by simp [flat])
    refine .inr (.inl ⟨a, xs, rfl, .inr h1, flat_v rx' h.1, flatL_v r1 h.2, ?_⟩)
    rw [inv_v rx' h.1 r1 h.2]
    exact pv_bl p s
  · rename_i l
    obtain ⟨a, xs, rfl, h1, r1⟩ := ry.lst
    have p' : Pv T X.K W σ H G ((if flat x ∧ l.all flat then Res.ok (l.any fun y => eqv y x) else if plain x 60 ∧ plain (.lst l) 60 then Res.ok (l.any fun y => eqv y x) else Res.bad).bd fun b => Res.ok (D.bl (if neg then !b else b))) Q := p
    clear p
    have p := p'
    clear p'
    split at p
    · rename_i h
      have rx' : Rep T X.K G x v := by cases x <;> first | exact rx | exact absurd h.1 (by simp [flat])
      refine .inr (.inl ⟨a, xs, rfl, .inl (SqL.of h1), flat_v rx' h.1, flatL_v r1 h.2, ?_⟩)
      rw [inv_v rx' h.1 r1 h.2]
      exact pv_bl p s
    · obtain ⟨h, p⟩ := pifb p
      have h2 : plainL l 59 = true := by have := h.2; simpa [plain] using this
      refine .inr (.inr (.inl ⟨toPy x, toPyL l, dp_ofR s h.1 rx, by simpa [toPy] using dp_ofR s h.2 ry, shaped_of h.1, by simpa [toPy] using shaped_of h.2, ?_⟩))
      rw [anyPy h.1 l 59 h2]
      exact pv_bl p s
  · rename_i ks vs
    have p' : Pv T X.K W σ H G ((if isKey x = true then Res.ok (dHas ks x) else Res.bad).bd fun b => Res.ok (D.bl (if neg then !b else b))) Q := p
    obtain ⟨h, p2⟩ := pifb p'
    obtain ⟨k, hk⟩ := isKey_k h
    obtain ⟨a, kvs, rfl, h1, h2, h3⟩ := (show ∃ a kvs, w = .ref a ∧ H a = some (.dK kvs) ∧ ks.map kOf = kvs.map (fun p => some p.1) ∧ RepL T X.K G vs (kvs.map (·.2)) from ry)
    have e := kOf_v hk rx
    subst e
    refine .inr (.inr (.inr ⟨a, _, rfl, DGet.k h1, ?_⟩))
    rw [← dHas_ok hk h2]
    exact pv_bl p2 s
end
end E

set_option autoImplicit false
set_option linter.all false
set_option Elab.async false
set_option maxRecDepth 100000
/-! E4: rules of expressions. -/
namespace E
open PySem PySem.Spec PyProof.Rows L2

/-! ### operators -/
def binO : Op2 → Option Operator
  | .add => some .Add | .sub => some .Sub | .mul => some .Mult | .fdiv => some .FloorDiv | .mod => some .Mod | .pow => some .Pow | _ => none
def cmpO : Op2 → Option CmpOp
  | .eq => some .Eq | .ne => some .NotEq | .lt => some .Lt | .le => some .LtE | .gt => some .Gt | .ge => some .GtE | .in_ => some .In | .notIn => some .NotIn | _ => none
structure OpI (X : Cx) (T : Tb) (o : Op2) (f : Value → Value → Sem Value) : Prop where
  ex : ∃ r : R2, OpR X f r ∧ ∀ (W : WX) (σ : L2.St) (H G : Hp) (x y : D) (v w : V) (Q : VK), Same G H → RepR T X.K H G x v → RepR T X.K H G y w → Pv T X.K W σ H G (op2 o x y) Q → r v w H Q
section
variable {X : Cx} {T : Tb} {W : WX} {O : List Nat} {σ : L2.St} {H G : Hp}
theorem binI {o : Op2} {op : Operator} (h : binO o = some op) : OpI X T o (binaryOp op) := by
  cases o <;> cases h
  · exact ⟨_, op_addT, fun W σ H G x y v w Q s a b p => add_ok s a b p⟩
  · exact ⟨_, op_subT, fun W σ H G x y v w Q s a b p => sub_ok s a b p⟩
  · exact ⟨_, op_mulT, fun W σ H G x y v w Q s a b p => mul_ok s a b p⟩
  · exact ⟨_, op_fdivW, fun W σ H G x y v w Q s a b p => fdiv_ok s a b p⟩
  · exact ⟨_, op_mod, fun W σ H G x y v w Q s a b p => mod_ok s a b p⟩
  · exact ⟨_, op_pow, fun W σ H G x y v w Q s a b p => pow_ok s a b p⟩
theorem cmpI {o : Op2} {op : CmpOp} (hu : X.A.units + 65 < cLine) (h : cmpO o = some op) : OpI X T o (compareOp op) := by
  cases o <;> cases h
  · exact ⟨_, op_eqT (by omega), fun W σ H G x y v w Q s a b p => eq_ok s a b p⟩
  · exact ⟨_, op_neT (by omega), fun W σ H G x y v w Q s a b p => ne_ok s a b p⟩
  · exact ⟨_, op_lt, fun W σ H G x y v w Q s a b p => lt_ok s a b p⟩
  · exact ⟨_, op_le, fun W σ H G x y v w Q s a b p => le_ok s a b p⟩
  · exact ⟨_, op_gt, fun W σ H G x y v w Q s a b p => gt_ok s a b p⟩
  · exact ⟨_, op_ge, fun W σ H G x y v w Q s a b p => ge_ok s a b p⟩
  · exact ⟨_, op_inT hu, fun W σ H G x y v w Q s a b p => in_ok (neg := false) s a b p⟩
  · exact ⟨_, op_notInT hu, fun W σ H G x y v w Q s a b p => in_ok (neg := true) s a b p⟩
theorem cmp_bl {o : Op2} {op : CmpOp} (h : cmpO o = some op) {x y z : D} (e : op2 o x y = .ok z) : ∃ b, z = .bl b := by
  cases o <;> cases h
  case eq =>
    by_cases q : ∃ a b, x = .str a ∧ y = .str b
    · obtain ⟨a, b, rfl, rfl⟩ := q
      cases e; exact ⟨_, rfl⟩
    · rw [show op2 .eq x y = if plain x 60 ∧ plain y 60 then .ok (.bl (eqv x y)) else .bad by cases x <;> cases y <;> first | rfl | exact absurd ⟨_, _, rfl, rfl⟩ q] at e
      split at e <;> cases e; exact ⟨_, rfl⟩
  case ne =>
    by_cases q : ∃ a b, x = .str a ∧ y = .str b
    · obtain ⟨a, b, rfl, rfl⟩ := q
      cases e; exact ⟨_, rfl⟩
    · rw [show op2 .ne x y = if plain x 60 ∧ plain y 60 then .ok (.bl (!eqv x y)) else .bad by cases x <;> cases y <;> first | rfl | exact absurd ⟨_, _, rfl, rfl⟩ q] at e
      split at e <;> cases e; exact ⟨_, rfl⟩
  case in_ =>
    change (inD x y).bd _ = _ at e
    cases q : inD x y <;> rw [q] at e <;> cases e
    exact ⟨_, rfl⟩
  case notIn =>
    change (inD x y).bd _ = _ at e
    cases q : inD x y <;> rw [q] at e <;> cases e
    exact ⟨_, rfl⟩
  all_goals
    cases x <;> cases y <;> cases e <;> exact ⟨_, rfl⟩
theorem se_op {o : Op2} {op : Operator} {a b : Expr} {fa fb : Env → Res D} {pos : Pos} (h : binO o = some op) (ha : SR X T W O a fa) (hb : SR X T W O b fb) : SE X T W O (.BinOp a op b pos) (fun e => (fa e).bd fun x => (fb e).bd fun y => op2 o x y) := by
  obtain ⟨r, hr, ok⟩ := (binI (X := X) (T := T) h).ex
  exact PE.weak (pe_op hr ha hb) fun σ H Q q => two rfl rfl q fun G0 H0 G2 H2 e x y v w rl s rx ry p => ok W σ H2 G2 x y v w Q rl.sub rx ry p
theorem se_cmp {o : Op2} {op : CmpOp} {a b : Expr} {fa fb : Env → Res D} {pos : Pos} (hu : X.A.units + 65 < cLine) (h : cmpO o = some op) (hm : behindInMarks op b = false) (ha : SR X T W O a fa) (hb : SR X T W O b fb) :
    SE X T W O (.Compare a [op] [b] pos) (fun e => (fa e).bd fun x => (fb e).bd fun y => op2 o x y) := by
  obtain ⟨r, hr, ok⟩ := (cmpI (X := X) (T := T) hu h).ex
  exact PE.weak (pe_cmpR hr ha hb hm) fun σ H Q q => two rfl rfl q fun G0 H0 G2 H2 e x y v w rl s rx ry p => ok W σ H2 G2 x y v w Q rl.sub rx ry p
/-- a truth value read as a test -/
theorem post_test {r : Res D} {Q : Bool → Hp → Prop} (p : PostG T X.K RB W σ H G (r.bd truth) Q) (h : ∀ z, r = .ok z → ∃ b, z = .bl b) : Pv T X.K W σ H G r (fun x H' => ∃ k, x = .bl k ∧ Q k H') := by
  cases r with
  | ok a =>
    obtain ⟨b, rfl⟩ := h a rfl
    intro v H' G' x rv
    exact ⟨b, Rep.bl rv, p b H' G' x rfl⟩
  | err c l => exact p
  | bad => exact p
theorem sb_cmp {o : Op2} {op : CmpOp} {a b : Expr} {fa fb : Env → Res D} {pos : Pos} (hu : X.A.units + 65 < cLine) (h : cmpO o = some op) (hm : behindInMarks op b = false) (ha : SR X T W O a fa) (hb : SR X T W O b fb) :
    SB X T W O (.Compare a [op] [b] pos) (fun e => ((fa e).bd fun x => (fb e).bd fun y => op2 o x y).bd truth) := by
  obtain ⟨r, hr, ok⟩ := (cmpI (X := X) (T := T) hu h).ex
  refine PT.weak (pt_cmpR hr ha hb hm) fun σ H Q q => two (R := fun _ => RB) (g := fun x y => (op2 o x y).bd truth) rfl rfl ?_ fun G0 H0 G2 H2 e x y v w rl s rx ry p => ok W σ H2 G2 x y v w _ rl.sub rx ry (post_test p fun z e => cmp_bl h e)
  obtain ⟨G0, H0, G, e, rl, p⟩ := q
  refine ⟨G0, H0, G, e, rl, ?_⟩
  cases q1 : fa e <;> simp only [q1, bd_ok, bd_err, bd_bad] at p ⊢ <;> try exact p
  cases q2 : fb e <;> simp only [q2, bd_ok, bd_err, bd_bad] at p ⊢ <;> exact p
def chnF (o1 o2 : Op2) (fa fb fc : Env → Res D) : Env → Res D := fun e => (fa e).bd fun x => (fb e).bd fun y => (op2 o1 x y).bd fun z => match z with
    | .bl true => (fc e).bd fun w => op2 o2 y w
    | .bl false => .ok (.bl false)
    | _ => .bad
theorem chain_ok {o1 o2 : Op2} {op op' : CmpOp} {fa fb fc : Env → Res D} {r r' : R2} {Q : VK}
    (h1 : cmpO o1 = some op) (ok1 : ∀ (W : WX) (σ : L2.St) (H G : Hp) (x y : D) (v w : V) (Q : VK), Same G H → RepR T X.K H G x v → RepR T X.K H G y w → Pv T X.K W σ H G (op2 o1 x y) Q → r v w H Q)
    (ok2 : ∀ (W : WX) (σ : L2.St) (H G : Hp) (x y : D) (v w : V) (Q : VK), Same G H → RepR T X.K H G x v → RepR T X.K H G y w → Pv T X.K W σ H G (op2 o2 x y) Q → r' v w H Q)
    (q : cE X T W O (fun _ => RV T X.K) (chnF o1 o2 fa fb fc) σ H Q) :
    tChain r r' (cE X T W O (fun _ => RR T X.K) fa) (cE X T W O (fun _ => RR T X.K) fb) (cE X T W O (fun _ => RR T X.K) fc) σ H Q := by
  obtain ⟨G0, H0, G, e, rl, p⟩ := q
  unfold chnF at p
  refine ⟨G0, H0, G, e, rl, p.bind fun x v H1 G1 x1 rx p1 => ⟨G0, H0, G1, e, rl.ext x1, p1.bind fun y w H2 G2 x2 ry p2 => ?_⟩⟩
  have rl := (rl.ext x1).ext x2
  refine ok1 W σ H2 G2 x y v w _ rl.sub (rx.mono x2.h x2.g) ry (p2.bind fun z zv H3 G3 x3 rz p3 => ?_)
  cases z <;> try exact False.elim p3
  rename_i k
  refine ⟨k, Rep.bl rz, ?_⟩
  cases k with
  | false => exact pv_bl p3 (rl.ext x3).sub
  | true =>
    rw [if_pos rfl]
    exact ⟨G0, H0, G3, e, rl.ext x3, p3.bind fun w2 wv H4 G4 x4 rw p4 => ok2 W σ H4 G4 y w2 _ _ _ ((rl.ext x3).ext x4).sub ((ry.mono x3.h x3.g).mono x4.h x4.g) rw p4⟩
theorem se_chn {o1 o2 : Op2} {op op' : CmpOp} {a b c : Expr} {fa fb fc : Env → Res D} {pos : Pos} (hu : X.A.units + 65 < cLine) (h : cmpO o1 = some op) (h' : cmpO o2 = some op') (hm : lastMarks [op, op'] [b, c] = false)
    (ha : SR X T W O a fa) (hb : SR X T W O b fb) (hc : SR X T W O c fc) : SE X T W O (.Compare a [op, op'] [b, c] pos) (chnF o1 o2 fa fb fc) := by
  obtain ⟨r, hr, ok⟩ := (cmpI (X := X) (T := T) hu h).ex
  obtain ⟨r', hr', ok'⟩ := (cmpI (X := X) (T := T) hu h').ex
  exact PE.weak (pe_chain hr hr' ha hb hc hm) fun σ H Q q => chain_ok (op' := op') h ok ok' q
theorem sb_chn {o1 o2 : Op2} {op op' : CmpOp} {a b c : Expr} {fa fb fc : Env → Res D} {pos : Pos} (hu : X.A.units + 65 < cLine) (h : cmpO o1 = some op) (h' : cmpO o2 = some op') (hm : lastMarks [op, op'] [b, c] = false)
    (ha : SR X T W O a fa) (hb : SR X T W O b fb) (hc : SR X T W O c fc) : SB X T W O (.Compare a [op, op'] [b, c] pos) (fun e => (chnF o1 o2 fa fb fc e).bd truth) := by
  obtain ⟨r, hr, ok⟩ := (cmpI (X := X) (T := T) hu h).ex
  obtain ⟨r', hr', ok'⟩ := (cmpI (X := X) (T := T) hu h').ex
  refine PT.weak (pt_chain hr hr' ha hb hc hm) fun σ H Q ⟨G0, H0, G, e, rl, p⟩ => chain_ok (op' := op') h ok ok' ⟨G0, H0, G, e, rl, post_test p ?_⟩
  intro z q
  unfold chnF at q
  cases q1 : fa e <;> rw [q1] at q <;> try cases q
  cases q2 : fb e <;> simp only [q2, bd_ok, bd_err, bd_bad] at q <;> try cases q
  rename_i x y
  cases q3 : op2 o1 x y <;> simp only [q3, bd_ok, bd_err, bd_bad] at q <;> try cases q
  obtain ⟨k, rfl⟩ := cmp_bl h q3
  cases k with
  | false => cases q; exact ⟨_, rfl⟩
  | true =>
    cases q4 : fc e <;> simp only [q4, bd_ok, bd_err, bd_bad] at q <;> try cases q
    exact cmp_bl h' q
/-! ### truth -/
theorem tru_of {x : D} {v : V} {k : Bool} (s : Same G H) (r : RepR T X.K H G x v) (h : truth x = .ok k) : TruV X.K v H k := by
  cases x <;> simp only [truth] at h <;> try cases h
  · rw [r.non]; rfl
  · rw [r.bl]; rfl
  · rw [r.int]; rfl
  · rename_i a
    rw [r.str]
    split at h <;> cases h
    rename_i hl
    rw [LIM_eq] at hl
    refine ⟨by rw [txt_len]; exact hl, ?_⟩
    rw [txt_len]
    cases a <;> simp
    omega
  · obtain ⟨a, xs, rfl, h1, r1⟩ := r.tup s
    exact .inr (.inl ⟨xs, h1, by rw [r1.length]; cases xs <;> simp⟩)
  · obtain ⟨a, xs, rfl, h1, r1⟩ := r.lst
    exact .inl ⟨xs, SqL.of h1, by rw [r1.length]; cases xs <;> simp⟩
theorem truth_ne (x : D) {c : Nat} {l : List D} : ¬ truth x = .err c l := by
  cases x <;> simp only [truth] <;> first | (split <;> simp) | simp
theorem truth_ok {x : D} {α : Type} {R : Hp → Hp → α → α → Prop} {v : V} {f : Bool → Res α} {Q : α → Hp → Prop} (s : Same G H) (r : RepR T X.K H G x v) (p : PostG T X.K R W σ H G ((truth x).bd f) Q) : ∃ k, TruV X.K v H k ∧ PostG T X.K R W σ H G (f k) Q := by
  cases q : truth x with
  | ok k => rw [q] at p; exact ⟨k, tru_of s r q, p⟩
  | err c l => exact absurd q (truth_ne x)
  | bad => rw [q] at p; exact p.elim
theorem truth_okv {x : D} {v : V} {f : Bool → Res D} {Q : VK} (s : Same G H) (r : RepR T X.K H G x v) (p : Pv T X.K W σ H G ((truth x).bd f) Q) : ∃ k, TruV X.K v H k ∧ Pv T X.K W σ H G (f k) Q := by
  cases q : truth x with
  | ok k => rw [q] at p; exact ⟨k, tru_of s r q, p⟩
  | err c l => exact absurd q (truth_ne x)
  | bad => rw [q] at p; exact p.elim
theorem truth_okr {x : D} {v : V} {f : Bool → Res D} {Q : VK} (s : Same G H) (r : RepR T X.K H G x v) (p : PostG T X.K (RR T X.K) W σ H G ((truth x).bd f) Q) : ∃ k, TruV X.K v H k ∧ PostG T X.K (RR T X.K) W σ H G (f k) Q := by
  cases q : truth x with
  | ok k => rw [q] at p; exact ⟨k, tru_of s r q, p⟩
  | err c l => exact absurd q (truth_ne x)
  | bad => rw [q] at p; exact p.elim
/-- expressions whose test is their value's truth -/
def truE : Expr → Bool
  | .UnaryOp op _ _ => (match op with | .Not => false | _ => true)
  | .BoolOp _ _ _ => false
  | .IfExp _ _ _ _ => false
  | .Compare _ _ _ _ => false
  | _ => true
theorem sb_truth {a : Expr} {f : Env → Res D} (ha : SR X T W O a f) (h : truE a = true) : SB X T W O a (fun e => (f e).bd truth) := by
  refine PT.weak (pt_truth ha (by cases a <;> first | (intro whole; rfl) | (exact Bool.noConfusion (show false = true from h)) | (rename_i op _ _; cases op <;> first | (intro whole; rfl) | (exact Bool.noConfusion (show false = true from h))))) fun σ H Q q => one (R := fun _ => RB) (g := truth) rfl q fun G0 H0 G1 H1 e x v rl s rx p => ?_
  have p' : PostG T X.K RB W σ H1 G1 ((truth x).bd fun k => .ok k) Q := by
    cases q : truth x <;> rw [q] at p <;> exact p
  obtain ⟨k, h1, p2⟩ := truth_ok rl.sub rx p'
  exact ⟨k, h1, p2.ok rl.sub rfl⟩
theorem se_and {a b : Expr} {rest : List Expr} {fa fb : Env → Res D} {pos : Pos} (ha : SE X T W O a fa) (hb : SE X T W O (.BoolOp .And (b :: rest) pos) fb) :
    SE X T W O (.BoolOp .And (a :: b :: rest) pos) (fun e => (fa e).bd fun x => (truth x).bd fun k => if k = true then fb e else .ok x) := by
  refine PE.weak (pe_andT ha hb) fun σ H Q ⟨G0, H0, G, e, rl, p⟩ => ⟨G0, H0, G, e, rl, p.bind fun x v H1 G1 x1 r1 p1 => ?_⟩
  obtain ⟨k, h1, p2⟩ := truth_okv (rl.ext x1).sub (RepR.of x1.s r1) p1
  refine ⟨k, h1, ?_⟩
  split
  · exact ⟨G0, H0, G1, e, rl.ext x1, by rw [if_pos (by assumption)] at p2; exact p2⟩
  · rw [if_neg (by assumption)] at p2
    exact p2.ok (rl.ext x1).sub r1
theorem sr_and {a b : Expr} {rest : List Expr} {fa fb : Env → Res D} {pos : Pos} (ha : SR X T W O a fa) (hb : SR X T W O (.BoolOp .And (b :: rest) pos) fb) :
    SR X T W O (.BoolOp .And (a :: b :: rest) pos) (fun e => (fa e).bd fun x => (truth x).bd fun k => if k = true then fb e else .ok x) := by
  refine PE.weak (pe_andT ha hb) fun σ H Q ⟨G0, H0, G, e, rl, p⟩ => ⟨G0, H0, G, e, rl, p.bind fun x v H1 G1 x1 r1 p1 => ?_⟩
  obtain ⟨k, h1, p2⟩ := truth_okr (rl.ext x1).sub r1 p1
  refine ⟨k, h1, ?_⟩
  split
  · exact ⟨G0, H0, G1, e, rl.ext x1, by rw [if_pos (by assumption)] at p2; exact p2⟩
  · rw [if_neg (by assumption)] at p2
    exact p2.ok (rl.ext x1).sub r1
theorem sr_or {a b : Expr} {rest : List Expr} {fa fb : Env → Res D} {pos : Pos} (ha : SR X T W O a fa) (hb : SR X T W O (.BoolOp .Or (b :: rest) pos) fb) :
    SR X T W O (.BoolOp .Or (a :: b :: rest) pos) (fun e => (fa e).bd fun x => (truth x).bd fun k => if k = true then .ok x else fb e) := by
  refine PE.weak (pe_orT ha hb) fun σ H Q ⟨G0, H0, G, e, rl, p⟩ => ⟨G0, H0, G, e, rl, p.bind fun x v H1 G1 x1 r1 p1 => ?_⟩
  obtain ⟨k, h1, p2⟩ := truth_okr (rl.ext x1).sub r1 p1
  refine ⟨k, h1, ?_⟩
  split
  · rw [if_pos (by assumption)] at p2
    exact p2.ok (rl.ext x1).sub r1
  · exact ⟨G0, H0, G1, e, rl.ext x1, by rw [if_neg (by assumption)] at p2; exact p2⟩
theorem se_or {a b : Expr} {rest : List Expr} {fa fb : Env → Res D} {pos : Pos} (ha : SE X T W O a fa) (hb : SE X T W O (.BoolOp .Or (b :: rest) pos) fb) :
    SE X T W O (.BoolOp .Or (a :: b :: rest) pos) (fun e => (fa e).bd fun x => (truth x).bd fun k => if k = true then .ok x else fb e) := by
  refine PE.weak (pe_orT ha hb) fun σ H Q ⟨G0, H0, G, e, rl, p⟩ => ⟨G0, H0, G, e, rl, p.bind fun x v H1 G1 x1 r1 p1 => ?_⟩
  obtain ⟨k, h1, p2⟩ := truth_okv (rl.ext x1).sub (RepR.of x1.s r1) p1
  refine ⟨k, h1, ?_⟩
  split
  · rw [if_pos (by assumption)] at p2
    exact p2.ok (rl.ext x1).sub r1
  · exact ⟨G0, H0, G1, e, rl.ext x1, by rw [if_neg (by assumption)] at p2; exact p2⟩
theorem se_bool1 {op : BoolOp} {a : Expr} {f : Env → Res D} {pos : Pos} (ha : SE X T W O a f) : SE X T W O (.BoolOp op [a] pos) f := ⟨fun pins s σ H Q I h => by
  have := ha.run pins s σ H Q I h
  rw [show eval (.BoolOp op [a] pos) X.env = eval a X.env by rw [eval]; rfl]
  exact this⟩
theorem se_not {a : Expr} {f : Env → Res D} {pos : Pos} (ha : SR X T W O a f) : SE X T W O (.UnaryOp .Not a pos) (fun e => (f e).bd fun x => (truth x).bd fun k => .ok (.bl (!k))) := by
  refine PE.weak (pe_notT ha) fun σ H Q q => one (a := cE X T W O (fun _ => RR T X.K) f) rfl q fun G0 H0 G1 H1 e x v rl s rx p => ?_
  obtain ⟨k, h1, p2⟩ := truth_okv rl.sub rx p
  exact ⟨k, h1, pv_bl p2 rl.sub⟩
theorem se_neg {a : Expr} {f : Env → Res D} {pos : Pos} (ha : SR X T W O a f) : SE X T W O (.UnaryOp .USub a pos) (fun e => (f e).bd fun x => match x with
    | .int i => .ok (.int (-i))
    | _ => .bad) := by
  refine PE.weak (pe_un un_neg ha) fun σ H Q q => one (a := cE X T W O (fun _ => RR T X.K) f) rfl q fun G0 H0 G1 H1 e x v rl s rx p => ?_
  cases x <;> try exact False.elim p
  exact ⟨_, rx.int, pv_int p rl.sub⟩
theorem se_ite {c a b : Expr} {fc : Env → Res Bool} {fa fb : Env → Res D} {pos : Pos} (hc : SB X T W O c fc) (ha : SE X T W O a fa) (hb : SE X T W O b fb) :
    SE X T W O (.IfExp c a b pos) (fun e => (fc e).bd fun k => if k = true then fa e else fb e) := by
  refine PE.weak (pe_ifExp hc ha hb) fun σ H Q ⟨G0, H0, G, e, rl, p⟩ => ⟨G0, H0, G, e, rl, p.bind fun k v H1 G1 x1 r1 p1 => ?_⟩
  have r1 : v = k := r1
  subst r1
  split
  · exact ⟨G0, H0, G1, e, rl.ext x1, by rw [if_pos (by assumption)] at p1; exact p1⟩
  · exact ⟨G0, H0, G1, e, rl.ext x1, by rw [if_neg (by assumption)] at p1; exact p1⟩
/-! tests of and, or, not -/
def SW (X : Cx) (T : Tb) (W : WX) (O : List Nat) (x : Expr) (f : Env → Res Bool) : Prop := PW X x (cE X T W O (fun _ => RB) f)
theorem SW.sb {x : Expr} {f : Env → Res Bool} (h : SW X T W O x f) : SB X T W O x f := ⟨fun pins s σ H Q I q => h.run _ pins s σ H Q I q⟩
theorem PW.weak {x : Expr} {t t' : TT} (h : PW X x t) (k : ∀ σ H Q, t' σ H Q → t σ H Q) : PW X x t' := ⟨fun whole pins s σ H Q I q => h.run whole pins s σ H Q I (k σ H Q q)⟩
theorem sw_and {a b : Expr} {rest : List Expr} {fa fb : Env → Res Bool} {pos : Pos} (ha : SB X T W O a fa) (hb : SW X T W O (.BoolOp .And (b :: rest) pos) fb) :
    SW X T W O (.BoolOp .And (a :: b :: rest) pos) (fun e => (fa e).bd fun k => if k = true then fb e else .ok k) := by
  refine PW.weak (pw_and ha hb) fun σ H Q ⟨G0, H0, G, e, rl, p⟩ => ⟨G0, H0, G, e, rl, p.bind fun k v H1 G1 x1 r1 p1 => ?_⟩
  have r1 : v = k := r1
  subst r1
  cases v with
  | true => exact ⟨G0, H0, G1, e, rl.ext x1, p1⟩
  | false => exact p1.ok (rl.ext x1).sub rfl
theorem sw_or {a b : Expr} {rest : List Expr} {fa fb : Env → Res Bool} {pos : Pos} (ha : SB X T W O a fa) (hb : SW X T W O (.BoolOp .Or (b :: rest) pos) fb) :
    SW X T W O (.BoolOp .Or (a :: b :: rest) pos) (fun e => (fa e).bd fun k => if k = true then .ok k else fb e) := by
  refine PW.weak (pw_or ha hb) fun σ H Q ⟨G0, H0, G, e, rl, p⟩ => ⟨G0, H0, G, e, rl, p.bind fun k v H1 G1 x1 r1 p1 => ?_⟩
  have r1 : v = k := r1
  subst r1
  cases v with
  | false => exact ⟨G0, H0, G1, e, rl.ext x1, p1⟩
  | true => exact p1.ok (rl.ext x1).sub rfl
theorem sw_and1 {a : Expr} {fa : Env → Res Bool} {pos : Pos} (ha : SB X T W O a fa) : SW X T W O (.BoolOp .And [a] pos) fa := pw_and1 ha
theorem sw_or1 {a : Expr} {fa : Env → Res Bool} {pos : Pos} (ha : SB X T W O a fa) : SW X T W O (.BoolOp .Or [a] pos) fa := pw_or1 ha
theorem sb_not {a : Expr} {fa : Env → Res Bool} {pos : Pos} (ha : SB X T W O a fa) : SB X T W O (.UnaryOp .Not a pos) (fun e => (fa e).bd fun k => .ok (!k)) := by
  refine PT.weak (pt_not ha) fun σ H Q ⟨G0, H0, G, e, rl, p⟩ => ⟨G0, H0, G, e, rl, p.bind fun k v H1 G1 x1 r1 p1 => ?_⟩
  have r1 : v = k := r1
  subst r1
  exact p1.ok (rl.ext x1).sub rfl
theorem bd_and (r s : Res D) : (r.bd fun x => (truth x).bd fun k => if k = true then s else .ok x).bd truth = (r.bd truth).bd fun k => if k = true then s.bd truth else .ok k := by
  cases r with
  | ok x =>
    simp only [bd_ok]
    cases q : truth x with
    | ok k => cases k <;> simp [q]
    | err c l => rfl
    | bad => rfl
  | err c l => rfl
  | bad => rfl
theorem bd_or (r s : Res D) : (r.bd fun x => (truth x).bd fun k => if k = true then .ok x else s).bd truth = (r.bd truth).bd fun k => if k = true then .ok k else s.bd truth := by
  cases r with
  | ok x =>
    simp only [bd_ok]
    cases q : truth x with
    | ok k => cases k <;> simp [q]
    | err c l => rfl
    | bad => rfl
  | err c l => rfl
  | bad => rfl
theorem bd_not (r : Res D) : (r.bd fun x => (truth x).bd fun k => .ok (.bl (!k))).bd truth = (r.bd truth).bd fun k => .ok (!k) := by
  cases r with
  | ok x =>
    simp only [bd_ok]
    cases q : truth x with
    | ok k => rfl
    | err c l => rfl
    | bad => rfl
  | err c l => rfl
  | bad => rfl
theorem bd_bd {α β γ : Type} (r : Res α) (f : α → Res β) (g : β → Res γ) : (r.bd f).bd g = r.bd fun x => (f x).bd g := by cases r <;> rfl
end
end E

set_option autoImplicit false
set_option linter.all false
set_option Elab.async false
set_option maxRecDepth 100000
/-! E5: more rules of expressions. -/
namespace E
open PySem PySem.Spec PyProof.Rows L2

section
variable {X : Cx} {T : Tb} {W : WX} {O : List Nat} {σ : L2.St} {H G : Hp}
/-! ### constants -/
theorem se_non {j pos} : SE X T W O (.Constant .none j pos) (fun _ => .ok .non) := se_c (v := .non) ⟨fun _ _ _ H _ I h => Constant_none ⟨.non, H, I, rfl, h⟩⟩ fun G => by simp
theorem se_bl {b j pos} : SE X T W O (.Constant (.bool b) j pos) (fun _ => .ok (.bl b)) := se_c pe_bl fun G => by simp
theorem se_int {i j pos} : SE X T W O (.Constant (.int i) j pos) (fun _ => .ok (.int i)) := se_c pe_int fun G => by simp
theorem se_str {s : List Nat} {x : Str} {j pos} (h : x.cps.toList = s) : SE X T W O (.Constant (.str x) j pos) (fun _ => .ok (.str s)) := se_c pe_str fun G => by
  subst h
  simp [txt]
/-! ### is -/
def nb : V → Bool
  | .non => true | .bl _ => true | .int _ => true | .str _ => true | .ref _ => true | _ => false
def isO (neg : Bool) : CmpOp := if neg then .IsNot else .Is
def rIsB (d : D) (neg : Bool) : R2 := fun x y H Q => nb x = true ∧ ((d = .non ∧ y = .non ∧ Q (.bl (decide (x = .non) != neg)) H) ∨ ∃ b, d = .bl b ∧ y = .bl b ∧ Q (.bl (decide (x = .bl b) != neg)) H)
theorem op_isD (d : D) (neg : Bool) : OpR X (compareOp (isO neg)) (rIsB d neg) := by
  intro pins s σ H x y v u Q I rx ry h
  obtain ⟨hn, ⟨rfl, rfl, q⟩ | ⟨b, rfl, rfl, q⟩⟩ := h
  · cases ry
    cases neg
    · refine is_none_gen (fin_bl I q ?_)
      cases x <;> first
        | (cases rx; rfl)
        | (obtain ⟨t, rfl⟩ := rx; rfl)
    · refine isnot_none_gen (fin_bl I q ?_)
      cases x <;> first
        | (cases rx; rfl)
        | (obtain ⟨t, rfl⟩ := rx; rfl)
  · obtain rfl : u = Value.bool b := ry
    cases neg
    · have key : wpAny (model X.prog X.w) X.A (compareOp .Is v (.bool b)) (EP X pins σ Q) X.xe s := by
        cases x <;> first | (exact Bool.noConfusion (show false = true from hn)) | skip
        · cases rx; exact wpAny_pure (fin_bl I q (by simp))
        · rename_i c
          obtain rfl : v = Value.bool c := rx
          exact wpAny_pure (fin_bl I q (by cases b <;> cases c <;> rfl))
        · obtain ⟨t, rfl⟩ := rx; exact wpAny_pure (fin_bl I q (by simp))
        · obtain ⟨t, rfl⟩ := rx; exact wpAny_pure (fin_bl I q (by simp))
        · cases rx; exact wpAny_pure (fin_bl I q (by simp))
      exact key
    · have key : wpAny (model X.prog X.w) X.A (compareOp .IsNot v (.bool b)) (EP X pins σ Q) X.xe s := by
        cases x <;> first | (exact Bool.noConfusion (show false = true from hn)) | skip
        · cases rx; exact wpAny_pure (fin_bl I q (by simp))
        · rename_i c
          obtain rfl : v = Value.bool c := rx
          exact wpAny_pure (fin_bl I q (by cases b <;> cases c <;> rfl))
        · obtain ⟨t, rfl⟩ := rx; exact wpAny_pure (fin_bl I q (by simp))
        · obtain ⟨t, rfl⟩ := rx; exact wpAny_pure (fin_bl I q (by simp))
        · cases rx; exact wpAny_pure (fin_bl I q (by simp))
      exact key
theorem nb_of {x : D} {v : V} (hx : ∀ c l, x ≠ .exc c l) (s : Same G H) (r : RepR T X.K H G x v) : nb v = true := by
  cases x <;> first
    | (exact absurd rfl (hx _ _))
    | (rw [r.non]; rfl)
    | (rw [r.bl]; rfl)
    | (rw [r.int]; rfl)
    | (rw [r.str]; rfl)
    | (obtain ⟨a, xs, rfl, _⟩ := r.lst; rfl)
    | (obtain ⟨a, xs, rfl, _⟩ := r.tup s; rfl)
    | (obtain ⟨a, rfl, _⟩ := r.scr s; rfl)
    | (obtain ⟨a, dx, fs, rfl, _⟩ := Rep.ins r; rfl)
    | (obtain ⟨a, kvs, rfl, _⟩ := r; rfl)
    | (exact (show False by simpa only [RepR, Rep] using r).elim)
/-- a constant of is -/
def isK (d : D) : Expr → Bool
  | .Constant .none _ _ => match d with | .non => true | _ => false
  | .Constant (.bool b) _ _ => match d with | .bl c => b == c | _ => false
  | _ => false
def dNon : D → Bool
  | .non => true
  | _ => false
def dBl (b : Bool) : D → Bool
  | .bl c => b == c
  | _ => false
theorem rep_isnt {x : D} {v : V} (hx : ∀ c l, x ≠ .exc c l) (s : Same G H) (r : RepR T X.K H G x v) : decide (v = .non) = dNon x ∧ ∀ b, decide (v = .bl b) = dBl b x := by
  cases x
  · rw [r.non]; exact ⟨rfl, fun b => by simp [dBl]⟩
  · rename_i c; rw [r.bl]; exact ⟨by simp [dNon], fun b => by cases b <;> cases c <;> rfl⟩
  · rw [r.int]; exact ⟨by simp [dNon], fun b => by simp [dBl]⟩
  · rw [r.str]; exact ⟨by simp [dNon], fun b => by simp [dBl]⟩
  · obtain ⟨a, xs, rfl, _⟩ := r.tup s; exact ⟨by simp [dNon], fun b => by simp [dBl]⟩
  · obtain ⟨a, xs, rfl, _⟩ := r.lst; exact ⟨by simp [dNon], fun b => by simp [dBl]⟩
  · obtain ⟨a, kvs, rfl, _⟩ := r; exact ⟨by simp [dNon], fun b => by simp [dBl]⟩
  · exact (show False by simpa only [RepR, Rep] using r).elim
  · obtain ⟨a, dx, fs, rfl, _⟩ := Rep.ins r; exact ⟨by simp [dNon], fun b => by simp [dBl]⟩
  · exact absurd rfl (hx _ _)
  · obtain ⟨a, rfl, _⟩ := r.scr s; exact ⟨by simp [dNon], fun b => by simp [dBl]⟩
theorem isD_ok {d : D} {neg : Bool} {x : D} {v w : V} {Q : VK} (hd : (d = .non ∧ w = .non) ∨ ∃ b, d = .bl b ∧ w = .bl b) (s : Same G H) (r : RepR T X.K H G x v) (p : Pv T X.K W σ H G (dIs d neg x) Q) : rIsB d neg v w H Q := by
  have hx : ∀ c l, x ≠ .exc c l := by
    intro c l z
    subst z
    have p2 : Pv T X.K W σ H G .bad Q := by cases d <;> exact p
    exact p2
  refine ⟨nb_of hx s r, ?_⟩
  obtain ⟨i1, i2⟩ := rep_isnt hx s r
  rcases hd with ⟨rfl, rfl⟩ | ⟨b, rfl, rfl⟩
  · refine .inl ⟨rfl, rfl, ?_⟩
    rw [i1]
    cases x <;> first | (exact absurd rfl (hx _ _)) | (simp only [dIs] at p; cases neg <;> exact pv_bl p s)
  · refine .inr ⟨b, rfl, rfl, ?_⟩
    rw [i2]
    cases x <;> first | (exact absurd rfl (hx _ _)) | (simp only [dIs] at p; cases neg <;> exact pv_bl p s)
theorem se_is {d : D} {neg : Bool} {a k : Expr} {fa : Env → Res D} {pos : Pos} (hk : isK d k = true) (ha : SR X T W O a fa) :
    SE X T W O (.Compare a [isO neg] [k] pos) (fun e => (fa e).bd fun x => dIs d neg x) ∧ SB X T W O (.Compare a [isO neg] [k] pos) (fun e => ((fa e).bd fun x => dIs d neg x).bd truth) := by
  have hm : behindInMarks (isO neg) k = false := by
    cases k <;> first | rfl | (exact Bool.noConfusion (show false = true from hk))
  obtain ⟨w, hw, hd⟩ : ∃ w, PE X k (tC w) ∧ ((d = .non ∧ w = .non) ∨ ∃ b, d = .bl b ∧ w = .bl b) := by
    cases k <;> first | (exact Bool.noConfusion (show false = true from hk)) | skip
    rename_i c j p
    cases c <;> first | (exact Bool.noConfusion (show false = true from hk)) | skip
    · cases d <;> first | (exact Bool.noConfusion (show false = true from hk)) | skip
      exact ⟨.non, ⟨fun _ _ _ H _ I h => Constant_none ⟨.non, H, I, rfl, h⟩⟩, .inl ⟨rfl, rfl⟩⟩
    · cases d <;> first | (exact Bool.noConfusion (show false = true from hk)) | skip
      rename_i b c
      have e : b = c := by simpa [isK] using hk
      subst e
      exact ⟨.bl b, pe_bl, .inr ⟨b, rfl, rfl⟩⟩
  constructor
  · exact PE.weak (pe_cmpR (op_isD d neg) ha hw hm) fun σ H Q q => one (a := cE X T W O (fun _ => RR T X.K) fa) rfl q fun G0 H0 G1 H1 e x v rl s rx p => isD_ok hd rl.sub rx p
  · refine PT.weak (pt_cmpR (op_isD d neg) ha hw hm) fun σ H Q q => one (R := fun _ => RB) (a := cE X T W O (fun _ => RR T X.K) fa) (g := fun x => (dIs d neg x).bd truth) rfl (by
      obtain ⟨G0, H0, G, e, rl, p⟩ := q
      exact ⟨G0, H0, G, e, rl, by simpa only [bd_bd] using p⟩) fun G0 H0 G1 H1 e x v rl s rx p => isD_ok hd rl.sub rx (post_test p fun z q => ?_)
    cases d <;> cases x <;> simp only [dIs] at q <;> cases q <;> exact ⟨_, rfl⟩
/-! ### a name that is global: a constant of the module -/
theorem se_glb {x : Str} {d : D} {v : V} {u : Value} {pos : Pos} (hg : Gl X x) (hm : X.mg x = some u) (r : RelV v u) (rp : ∀ G, Rep T X.K G d v) (hd : (x == ("__debug__" : Str)) = false) : SE X T W O (.Name x pos) (fun _ => .ok d) := se_c (pe_glob hg hm r hd) rp
/-! ### displays -/
theorem se_tup {es : List Expr} {fa : Env → Res (List D)} {k} {pos : Pos} (ha : SA X T W O es fa) : SE X T W O (.Tuple es k pos) (fun e => (fa e).bd fun xs => if xs.length ≤ LIM then .ok (.tup xs) else .bad) :=
  PE.weak (pe_tup ha) fun σ H Q q => args (a := cE X T W O (fun _ => RL T X.K) fa) rfl q fun G0 H0 G1 H1 e xs vs rl s r p => by
    obtain ⟨hl, p⟩ := pif p
    rw [LIM_eq, r.length] at hl
    exact ⟨hl, post_tup p rl.sub r⟩
theorem se_lst {es : List Expr} {fa : Env → Res (List D)} {pos : Pos} (ha : SA X T W O es fa) : SE X T W O (.List es pos) (fun e => (fa e).bd fun xs => if xs.length ≤ LIM then .ok (.lst xs) else .bad) :=
  PE.weak (pe_lst ha) fun σ H Q q => args (a := cE X T W O (fun _ => RL T X.K) fa) rfl q fun G0 H0 G1 H1 e xs vs rl s r p => by
    obtain ⟨hl, p⟩ := pif p
    rw [LIM_eq, r.length] at hl
    exact ⟨hl, post_lst p rl.sub r⟩
theorem sf_lst {es : List Expr} {fa : Env → Res (List D)} {pos : Pos} (ha : SA X T W O es fa) : SF X T W O (.List es pos) (fun e => (fa e).bd fun xs => if xs.length ≤ LIM then .ok (.lst xs) else .bad) :=
  PE.weak (pe_lst ha) fun σ H Q q => args (R := RF T X.K) (g := fun xs => (if xs.length ≤ LIM then Res.ok (D.lst xs) else .bad).bd onlyL) (a := cE X T W O (fun _ => RL T X.K) fa) rfl (by
      obtain ⟨G0, H0, G, e, rl, p⟩ := q
      exact ⟨G0, H0, G, e, rl, by simpa only [bd_bd] using p⟩) fun G0 H0 G1 H1 e xs vs rl s r p => by
    obtain ⟨hl, p⟩ := pifb p
    rw [LIM_eq, r.length] at hl
    exact ⟨hl, postF_lst p s rl.sub r⟩
/-! ### xs[i] -/
theorem ixN_eq (n : Nat) (i : Int) : ixN n i = ixOf n i := rfl
theorem atI_eq {α : Type} (l : List α) (i : Int) : atI l i = at_ l i := rfl
theorem RepL.at {l : List D} {xs : List V} {i : Int} {d : D} (r : RepL T X.K G l xs) (h : at_ l i = some d) : ∃ v, atI xs i = some v ∧ Rep T X.K G d v := by
  unfold at_ at h
  rw [atI_eq]
  unfold at_
  rw [← r.length]
  cases q : ixOf l.length i with
  | none => rw [q] at h; cases h
  | some j =>
    rw [q] at h
    exact r.get h
theorem at_map {α β : Type} {f : α → β} {l : List α} {i : Int} : at_ (l.map f) i = (at_ l i).map f := by
  unfold at_
  rw [List.length_map]
  cases ixOf l.length i <;> simp
def rIxA (K : PySem.W.Frag) : R2 := fun x y H Q => rIxL K x y H Q ∨ rIxT K x y H Q ∨ rIxS x y H Q
theorem ix_all : IxR X (rIxA X.K) := IxR.or ix_list (IxR.or ix_tup ix_str)
theorem pmat {α β : Type} {R : Hp → Hp → α → β → Prop} {γ : Type} {o : Option γ} {f : γ → Res α} {Q : β → Hp → Prop} (p : PostG T X.K R W σ H G (om o f) Q) : ∃ d, o = some d ∧ PostG T X.K R W σ H G (f d) Q := by
  cases o with
  | some d => exact ⟨d, rfl, p⟩
  | none => exact False.elim p
theorem idx_ok {x y : D} {v w : V} {Q : VK} (s : Same G H) (rx : RepR T X.K H G x v) (ry : RepR T X.K H G y w) (p : Pv T X.K W σ H G (dIdx x y) Q) : rIxA X.K v w H Q := by
  cases x <;> cases y <;> try exact False.elim p
  all_goals rw [ry.int]
  · rename_i a i
    obtain ⟨hl, p⟩ := pif p
    obtain ⟨c, hc, p⟩ := pmat p
    rw [LIM_eq] at hl
    rw [rx.str]
    exact .inr (.inr ⟨_, i, c, rfl, rfl, by rw [txt_len]; exact hl, by rw [txt_list]; exact hc, pv_str p s⟩)
  · obtain ⟨a, xs, rfl, h1, r1⟩ := rx.tup s
    obtain ⟨d, hd, p⟩ := pmat p
    obtain ⟨u, h2, r2⟩ := r1.at hd
    exact .inr (.inl ⟨a, xs, _, u, rfl, rfl, h1, h2, p.ok s r2⟩)
  · obtain ⟨a, xs, rfl, h1, r1⟩ := rx.lst
    obtain ⟨d, hd, p⟩ := pmat p
    obtain ⟨u, h2, r2⟩ := r1.at hd
    exact .inl ⟨a, xs, _, u, rfl, rfl, SqL.of h1, h2, p.ok s r2⟩
  · obtain ⟨a, rfl, h1⟩ := rx.scr s
    obtain ⟨d, hd, p⟩ := pmat p
    exact .inl ⟨a, _, _, .int d, rfl, rfl, h1, by rw [atI_eq, at_map, hd]; rfl, pv_int p s⟩
/-- not a slice -/
def plainIx : Expr → Bool
  | .Slice _ _ _ _ => false
  | _ => true
end
end E

set_option autoImplicit false
set_option linter.all false
set_option Elab.async false
set_option maxRecDepth 100000
/-! E6: subscripts, built-in calls, methods. -/
namespace E
open PySem PySem.Spec PyProof.Rows L2

section
variable {X : Cx} {T : Tb} {W : WX} {O : List Nat} {σ : L2.St} {H G : Hp}
theorem plainIx_ok {b : Expr} (h : plainIx b = true) : PlainIx b := by
  intro o i
  cases b <;> first | rfl | (exact Bool.noConfusion (show false = true from h))
theorem se_ix {a b : Expr} {fa fb : Env → Res D} {pos : Pos} (h : plainIx b = true) (ha : SR X T W O a fa) (hb : SR X T W O b fb) : SE X T W O (.Subscript a b pos) (fun e => (fa e).bd fun x => (fb e).bd fun y => dIdx x y) :=
  PE.weak (pe_ix ix_all ha hb (plainIx_ok h)) fun σ H Q q => two rfl rfl q fun G0 H0 G2 H2 e x y v w rl s rx ry p => idx_ok rl.sub rx ry p
/-! ### slices -/
def rPt : V → Hp → (Option Int → Hp → Prop) → Prop := fun x H Q => (∃ i, x = .int i ∧ Q (some i) H) ∨ (x = .non ∧ Q none H)
theorem po_any {e : Expr} {te : TE} (h : PE X e te) : PO X (some e) (fun σ H Q => te σ H fun x H1 => rPt x H1 Q) := by
  refine ⟨fun pins s σ H Q I hw => ?_⟩
  rw [evalPart_some]
  refine thn (h.run pins s σ H _ I hw) fun u s1 ⟨x, H1, I1, r1, q1⟩ => ?_
  rcases q1 with ⟨i, rfl, q⟩ | ⟨rfl, q⟩
  · obtain ⟨t, rfl⟩ := r1
    exact ⟨some i, H1, I1, .int i t, q⟩
  · cases r1
    exact ⟨none, H1, I1, .none, q⟩
def oI : D → Option Int
  | .int i => some i
  | _ => none
def RP : Hp → Hp → D → Option Int → Prop := fun _ _ d o => isPart d = true ∧ o = oI d
def SP (X : Cx) (T : Tb) (W : WX) (O : List Nat) (x : Option Expr) (f : Env → Res D) : Prop := PO X x fun σ H Q => ∃ G0 H0 G e, Rel T X.K O G0 H0 σ H G e ∧ PostG T X.K RP W σ H G (f e) Q
theorem PO.weak {x : Option Expr} {t t' : TO} (h : PO X x t) (k : ∀ σ H Q, t' σ H Q → t σ H Q) : PO X x t' := ⟨fun pins s σ H Q I q => h.run pins s σ H Q I (k σ H Q q)⟩
theorem sp_none : SP X T W O none (fun _ => (Res.ok D.non).bd prt) := PO.weak po_none fun σ H Q ⟨G0, H0, G, e, rl, p⟩ => PostG.ok (a := D.non) p rl.sub ⟨rfl, rfl⟩
theorem sp_some {x : Expr} {f : Env → Res D} (h : SR X T W O x f) : SP X T W O (some x) (fun e => (f e).bd prt) := PO.weak (po_any h) fun σ H Q ⟨G0, H0, G, e, rl, p⟩ => ⟨G0, H0, G, e, rl, p.bind fun d v H1 G1 x1 r1 p1 => by
  obtain ⟨hd, p2⟩ := pif p1
  cases d <;> first | (exact Bool.noConfusion (show false = true from hd)) | skip
  · exact .inr ⟨r1.non, p2 _ _ _ (.refl (rl.ext x1).sub) ⟨rfl, rfl⟩⟩
  · exact .inl ⟨_, r1.int, p2 _ _ _ (.refl (rl.ext x1).sub) ⟨rfl, rfl⟩⟩⟩
def rSlAll (K : PySem.W.Frag) : V → Option Int → Option Int → Hp → VK → Prop := fun x lo hi H Q => rSlL K x lo hi H Q ∨ rSlA K x lo hi H Q ∨ rSlS x lo hi H Q
theorem SlR.or {r r' : V → Option Int → Option Int → Hp → VK → Prop} (h : SlR X r) (h' : SlR X r') : SlR X (fun x lo hi H Q => r x lo hi H Q ∨ r' x lo hi H Q) := by
  intro pins s σ H x v vl vu lo hi sl Q I rx hs pl pu q
  rcases q with q | q
  · exact h pins s σ H x v vl vu lo hi sl Q I rx hs pl pu q
  · exact h' pins s σ H x v vl vu lo hi sl Q I rx hs pl pu q
theorem sl_all : SlR X (rSlAll X.K) := SlR.or sl_list (SlR.or sl_tupA sl_str)
theorem sx_eq (n d : Nat) (x : D) (h : isPart x = true) : HT.sIx n d (oI x) = sx n d x := by
  cases x <;> first | rfl | (exact Bool.noConfusion (show false = true from h))
theorem RepL.cut {l : List D} {xs : List V} {lo hi : D} (r : RepL T X.K G l xs) (h1 : isPart lo = true) (h2 : isPart hi = true) : RepL T X.K G (E.cut l lo hi) (cutV xs (oI lo) (oI hi)) := by
  unfold E.cut cutV
  rw [sx_eq _ _ _ h1, sx_eq _ _ _ h2, ← r.length]
  exact (r.drop _).take _
theorem slice_txt (a : List Nat) {lo hi : D} (h1 : isPart lo = true) (h2 : isPart hi = true) : cutS (txt a) (oI lo) (oI hi) = txt (E.cut a lo hi) := by
  unfold cutS E.cut
  rw [sx_eq _ _ _ h1, sx_eq _ _ _ h2, txt_list, txt_len]
  rfl
theorem slc_ok {x lo hi : D} {v : V} {l h : Option Int} {Q : VK} (h1 : isPart lo = true) (h2 : isPart hi = true) (el : l = oI lo) (eh : h = oI hi) (s : Same G H) (rx : RepR T X.K H G x v) (p : Pv T X.K W σ H G (dSlc x lo hi) Q) : rSlAll X.K v l h H Q := by
  subst el eh
  cases x <;> try exact False.elim p
  · rename_i a
    obtain ⟨hl, p⟩ := pif p
    simp only [h1, h2, Bool.true_and, decide_eq_true_eq] at hl
    rw [LIM_eq] at hl
    rw [rx.str]
    exact .inr (.inr ⟨_, rfl, by rw [txt_len]; exact hl, by rw [slice_txt a h1 h2]; exact pv_str p s⟩)
  · rename_i a
    obtain ⟨hl, p⟩ := pif p
    obtain ⟨q, xs, rfl, h3, r1⟩ := rx.tup s
    refine .inr (.inl ⟨q, xs, rfl, h3, fun hw => ?_, fun _ => post_tup p s (r1.cut h1 h2)⟩)
    have e : cut a lo hi = a := by
      unfold cut
      rw [sx_eq _ _ _ h1, sx_eq _ _ _ h2, ← r1.length] at hw
      rw [hw.1, hw.2]
      simp
    rw [e] at p
    exact p.ok s rx
  · rename_i a
    obtain ⟨hl, p⟩ := pif p
    obtain ⟨q, xs, rfl, h3, r1⟩ := rx.lst
    exact .inl ⟨q, xs, rfl, SqL.of h3, post_lst p s (r1.cut h1 h2)⟩
theorem se_slc {a : Expr} {lo hi : Option Expr} {fa fl fh : Env → Res D} {p2 pos : Pos} (ha : SR X T W O a fa) (hl : SP X T W O lo fl) (hh : SP X T W O hi fh) :
    SE X T W O (.Subscript a (.Slice lo hi none p2) pos) (fun e => (fa e).bd fun x => (fl e).bd fun l => (fh e).bd fun h => dSlc x l h) :=
  PE.weak (pe_slice sl_all ha hl hh) fun σ H Q ⟨G0, H0, G, e, rl, p⟩ => ⟨G0, H0, G, e, rl, p.bind fun x v H1 G1 x1 r1 p1 => ⟨G0, H0, G1, e, rl.ext x1, p1.bind fun dl l H2 G2 x2 ⟨l1, l2⟩ p2 =>
    ⟨G0, H0, G2, e, (rl.ext x1).ext x2, p2.bind fun dh h H3 G3 x3 ⟨h1, h2⟩ p3 => slc_ok l1 h1 l2 h2 (((rl.ext x1).ext x2).ext x3).sub ((r1.mono x2.h x2.g).mono x3.h x3.g) p3⟩⟩⟩
/-! ### [::-1] -/
def tRevA (K : PySem.W.Frag) (te : TE) : TE := fun σ H Q => te σ H fun x H1 => (∃ a xs, x = .ref a ∧ SqL K H1 a xs ∧ ∀ p, H1 p = none → Q (.ref p) (upd H1 p (.lst xs.reverse))) ∨ ∃ a, x = .str (txt a) ∧ a.length ≤ sizeLine ∧ Q (.str (txt a.reverse)) H1
theorem rev_txt (a : List Nat) (uk : Tok) : Txt.sliceBy (txt a) none none (-1, uk) = txt a.reverse := by
  unfold Txt.sliceBy
  rw [if_neg (by simp)]
  unfold slicePicked
  show (⟨((sliceRange ((a.length : Int) - 1) (-1) (-1)).filterMap ((txt a).cps[·]?)).toArray⟩ : Str) = _
  rw [PySem.W.krv_sliceRange, PySem.W.krv_range, List.filterMap_reverse]
  have e := PySem.W.krv_all (txt a).cps
  rw [show (txt a).cps.size = a.length from txt_len a] at e
  rw [e, txt_list]
  rfl
theorem pe_revA {e : Expr} {te : TE} {k : Nat} {p1 p2 p3 pos : Pos} (he : PE X e te) : PE X (.Subscript e (.Slice none none (some (.UnaryOp .USub (.Constant (.int 1) k p1) p2)) p3) pos) (tRevA X.K te) := by
  refine ⟨fun pins s σ H Q I h => ?_⟩
  refine Subscript_ (thn (he.run pins s σ H _ I h) fun v s1 ⟨x, H1, I1, r1, q1⟩ => ?_)
  have hst : PO X (some (.UnaryOp .USub (.Constant (.int 1) k p1) p2)) (tPart (tUn (rU fun i => .int (-i)) (tC (.int 1)))) := po_some (pe_un un_neg pe_int)
  refine wpAny_Slice (thn (po_none.run pins s1 σ H1 (fun o H2 => o = none ∧ H2 = H1) I1 ⟨rfl, rfl⟩) fun vl s2 ⟨l, H2, I2, pl, el, e2⟩ => ?_)
  subst el e2
  refine thn (po_none.run pins s2 σ H2 (fun o H3 => o = none ∧ H3 = H2) I2 ⟨rfl, rfl⟩) fun vu s3 ⟨u, H3, I3, pu, eu, e3⟩ => ?_
  subst eu e3
  refine thn (hst.run pins s3 σ H3 (fun o H4 => o = some (-1) ∧ H4 = H3) I3 ⟨1, rfl, -1, rfl, rfl, rfl⟩) fun vs s4 ⟨o, H4, I4, ps, eo, e4⟩ => ?_
  subst eo e4
  have I5 : Inv X pins σ H4 { s4 with heap := s4.heap.push { cls := .type "slice", data := .fields #[vl, vu, vs] } } := I4.kept (t' := s4.toks) fun b ob q => Heap.get?_push_of_some _ q
  rcases q1 with ⟨a, xs, ex, hx, q⟩ | ⟨z, ex, hz, q⟩
  · subst ex
    cases r1
    obtain ⟨its, r, ht, hz⟩ := I5.list hx
    have hlen := r.length
    show wpAny (model X.prog X.w) X.A (subscriptTail e (.Slice none none (some (.UnaryOp .USub (.Constant (.int 1) k p1) p2)) p3) (.ref a) (.ref s4.heap.objs.size)) (EP X pins σ Q) X.xe { s4 with heap := s4.heap.push { cls := .type "slice", data := .fields #[vl, vu, vs] } }
    refine tail_any (ops := [.ref a, .ref s4.heap.objs.size]) ht.isList.typeIs (PySem.slot_list_getitem.lookup) ?_ (by with_unfolding_all rfl)
    refine wpAny_getItem_list_slice ht.isList (Heap.IsSliceOf.new _ vl vu vs) pl pu ps (by decide) ?_ (by rw [List.size_toArray]; omega)
    rw [PySem.W.krv_pick]
    refine ⟨.ref _, _, I5.laid (t' := s4.toks) (o := .lst xs.reverse) (fun b ob q => Heap.get?_push_of_some _ q) (Nat.le_refl _) ?_, rfl, q _ (I5.hok.fresh (Nat.le_refl _))⟩
    exact ⟨by rw [List.length_reverse]; exact hz, _, 0, r.reverse, Heap.get?_push_size _ rfl⟩
  · subst ex
    obtain ⟨t, rfl⟩ := r1
    cases pl
    cases pu
    obtain ⟨tk, rfl⟩ : ∃ t, vs = .int (-1) t := by cases ps; exact ⟨_, rfl⟩
    show wpAny (model X.prog X.w) X.A (subscriptTail e (.Slice none none (some (.UnaryOp .USub (.Constant (.int 1) k p1) p2)) p3) (.str (txt z) t) (.ref s4.heap.objs.size)) (EP X pins σ Q) X.xe { s4 with heap := s4.heap.push { cls := .type "slice", data := .fields #[.none, .none, .int (-1) tk] } }
    refine tail_any (ops := [.str (txt z) t, .ref s4.heap.objs.size]) (typeIs_str _ _ _) F.slot_str_getitem.lookup ?_ (by with_unfolding_all rfl)
    refine wpAny_getItem_str_slice (l := none) (u := none) (st := some (-1, tk)) ⟨_, Heap.get?_push_size _ rfl, rfl, rfl⟩ rfl (post_val_or_str ⟨Nat.le_trans (Txt.sliceBy_le (txt z) _ _ (-1, tk) (show (-1 : Int) ≠ 0 by decide)) (by rw [txt_len]; exact hz), fun t' c => ?_⟩)
    have q' : Q (.str (Txt.sliceBy (txt z) none none (-1, tk))) H4 := by rw [rev_txt]; exact q
    exact ⟨.str _, H4, I5.tok c, ⟨t', rfl⟩, q'⟩
/-- e[::-1] -/
def revE : Expr → Option Expr
  | .Subscript e (.Slice none none (some (.UnaryOp .USub (.Constant (.int 1) _ _) _)) _) _ => some e
  | _ => none
theorem se_rev {e : Expr} {k : Nat} {p1 p2 p3 pos : Pos} {f : Env → Res D} (he : SR X T W O e f) : SE X T W O (.Subscript e (.Slice none none (some (.UnaryOp .USub (.Constant (.int 1) k p1) p2)) p3) pos) (fun e => (f e).bd dRev) :=
  PE.weak (pe_revA he) fun σ H Q q => one (a := cE X T W O (fun _ => RR T X.K) f) rfl q fun G0 H0 G1 H1 e x v rl s rx p => by
    cases x <;> try exact False.elim p
    · obtain ⟨hl, p⟩ := pif p
      rw [LIM_eq] at hl
      exact .inr ⟨_, rx.str, hl, pv_str p rl.sub⟩
    · obtain ⟨a, xs, rfl, h1, r1⟩ := rx.lst
      exact .inl ⟨a, xs, rfl, SqL.of h1, post_lst p rl.sub r1.reverse⟩
end
end E

set_option autoImplicit false
set_option linter.all false
set_option Elab.async false
set_option maxRecDepth 100000
/-! E7s: set(list of ints), sorted of it. -/
namespace E
open PySem PySem.Spec PyProof.Rows L2
def setO (w : World) : Obj := { cls := .type "set", dict := none, data := .set #[] 0 (.fresh 0 0 (!w.params.followText "set-order")) }
section
variable {P : Program} {w : World} {A : Around} {E1 : Value → Shared → Prop} {s : Shared}
set_option maxHeartbeats 3200000 in
theorem set_ofI {l : Addr} {items : Array Value} (ns : List Int) {Q : Value → Shared → Prop} (h0 : A.handled = none) (hl : s.heap.IsList l items) (hit : IntsAre items.toList ns) (hb : ns.length + 1 < scanBound)
    (fin : ∀ (g : Heap) (tk c : Nat), SetR w g s.heap.objs.size (fun j => decide (j ∈ ns)) c → c ≤ ns.length → (∀ b o, s.heap.get? b = some o → g.get? b = some o) → Q (.ref s.heap.objs.size) { s with heap := g, toks := tk }) :
    wpAny (model P w) A (call (.type "set") [.ref l]) Q E1 s := by
  have hz : items.size = ns.length := by rw [← Array.length_toList]; exact IntsAre.length hit
  obtain ⟨c0, tl0, hmro⟩ := F.called_set.mro
  have m0 := F.called_set.made
  have m1 := F.called_set.sub
  refine wpAny_call (codeAny_of_tree (show wpAny _ _ (callAny (.type "set") _) _ _ _ from wpAny_pure ⟨Code.quiet_builtin _ (by decide +kernel), codeAny_builtin F.entry_type_call ?_⟩))
  rw [Around.under_plain (weight_type_call_type "set" [.ref l] []) rfl]
  have m2 := F.called_set.notType
  have m3 := F.called_set.canCreate
  have m4 := F.typeCall_set_1 (.ref l)
  repeat (any_goals (first | assumption | wp_step))
  refine codeAny_mono (code_set_led1 (.ref l) (E := E1) (Q₁ := fun ob t => ob = .ref s.heap.objs.size ∧ t = { s with heap := s.heap.push (setO w) }) ⟨rfl, rfl⟩) fun r t hr => ?_
  cases r with
  | error e => exact hr
  | ok fw =>
    cases fw with
    | ret ob =>
      obtain ⟨rfl, rfl⟩ := hr
      have hS : (s.heap.push (setO w)).get? s.heap.objs.size = some (setO w) := Heap.get?_push_size _ rfl
      have hT : Shared.TypeIs { s with heap := s.heap.push (setO w) } (.ref s.heap.objs.size) "set" := ⟨_, hS, rfl⟩
      have hli := F.called_set.init.lookup
      have hbi := F.called_set.init.bind (.ref s.heap.objs.size)
      repeat (any_goals (first | assumption | wp_step))
      refine codeAny_mono (codeAny_call_builtin (R := wants (fun r t2 => r = .none ∧ ∃ g tk c, t2 = { s with heap := g, toks := tk } ∧ SetR w g s.heap.objs.size (fun j => decide (j ∈ ns)) c ∧ c ≤ ns.length ∧ (∀ b o, s.heap.get? b = some o → g.get? b = some o)) E1)
        F.called_set.init.plain F.entry_set_init (check_set_init_1 hT ?_)) fun r2 t2 hr2 => ?_
      · obtain ⟨ol, hol, hcl, nl, hdl⟩ := hl
        obtain ⟨ocls, odict, odata, oslots⟩ := ol
        simp only at hcl hdl
        subst hcl
        subst hdl
        have hol' : (s.heap.push (setO w)).get? l = some { cls := .type "list", dict := odict, data := .seq items nl, slots := oslots } := Heap.get?_push_of_some _ hol
        have n1 : (s.heap.push (setO w)).IsList l items := ⟨_, hol', rfl, nl, rfl⟩
        have n2 := F.sub_list_set
        have n3 := F.sub_list_frozenset
        have n4 : (Value.type "list" == Value.type "dict") = false := by decide
        unfold Builtin.«set.__init__» noKeywords Builtin.Frozenset.updateFrom
        generalize hPI : pyIter = PI
        wp_walk
        subst hPI
        refine wpAny_pyIter_list n1 ?_
        refine wpAny_bind (wpAny_runValue ?_)
        have hlS : l < s.heap.objs.size := Heap.lt_size hol
        have hh3 : A.in1.in1.in1.handled = none := by simp [h0]
        have hsz : (s.heap.push (setO w)).objs.size = s.heap.objs.size + 1 := Heap.size_push ..
        have hneI : l ≠ (s.heap.push (setO w)).objs.size := by rw [hsz]; exact Nat.ne_of_lt (Nat.lt_succ_of_lt hlS)
        have hSf : s.heap.objs.size ∉ [(s.heap.push (setO w)).objs.size, l] := by
          rw [hsz]
          simp only [List.mem_cons, List.not_mem_nil, or_false, not_or]
          exact ⟨Nat.ne_of_lt (Nat.lt_succ_self _), Nat.ne_of_gt hlS⟩
        have hval : ∀ (i : Nat) (v : Value), items[i]? = some v → ∃ k t, ns[i]? = some k ∧ v = .int k t := fun i v hv => by
          have hi : i < ns.length := by rw [← hz]; exact (Array.getElem?_eq_some_iff.mp hv).1
          obtain ⟨t, e⟩ := PyProof.Rows.IntsAre.int_at hit i v (by rw [Array.getElem?_toList]; exact hv)
          exact ⟨ns[i], t, List.getElem?_eq_getElem hi, by rw [e, List.getD_eq_getElem?_getD, List.getElem?_eq_getElem hi] <;> rfl⟩
        refine set_update_ints ((Walks.list hh3 _ l hneI items).toS) s.heap.objs.size hSf ns hz hb hval (items.size - 0) 0 _ (by omega) (Nat.zero_le _) ⟨⟨_, Heap.get?_push_size _ rfl, rfl, rfl⟩, (n1.push _)⟩ ?hS0 ?hR
        case hS0 => exact ⟨0, Nat.le_refl 0, setR_new_at (Heap.get?_push_of_some _ hS)⟩
        case hR =>
          intro t3 c' hm hc' hS'
          obtain ⟨g, g2, d', tk', os'⟩ := t3
          have eg : g2 = s.gens := hm.gens
          have ed : d' = s.drawn := hm.drawn
          have eo : os' = s.os := hm.os
          subst eg ed eo
          show wpAny _ _ _ _ _ _
          refine wpAny_pure ?_
          rw [hz] at hc'
          refine (show wpAny _ _ (ret Value.none) _ _ _ from wpAny_pure ⟨rfl, g, tk', c', rfl, hS', hc', fun b o e => ?_⟩)
          have hb0 : b < s.heap.objs.size := Heap.lt_size e
          refine hm.heap b o ?_ (Heap.get?_push_of_some _ (Heap.get?_push_of_some _ e))
          simp only [List.mem_cons, List.not_mem_nil, or_false, not_or, hsz]
          exact ⟨Nat.ne_of_lt hb0, Nat.ne_of_lt (Nat.lt_succ_of_lt hb0)⟩
      · cases r2 with
        | error e => exact hr2
        | ok fw2 =>
          cases fw2 with
          | ret r =>
            obtain ⟨rfl, g, tk, c', rfl, hS', hc', hk'⟩ := hr2
            repeat (any_goals (first | assumption | wp_step))
            exact fin _ _ _ hS' hc' hk'
          | _ => exact hr2.elim
    | _ => exact hr.elim
end
/-! ### sorted(set(e)) -/
theorem dedup_mem : ∀ (l : List Int) (k : Int), k ∈ dedup l ↔ k ∈ l
  | [], _ => by simp [dedup]
  | x :: r, k => by
    have ih := dedup_mem r k
    unfold dedup
    split
    · rename_i h
      have hx : x ∈ r := (dedup_mem r x).1 (by simpa using h)
      rw [ih, List.mem_cons]
      exact ⟨.inr, fun z => z.elim (fun e => e ▸ hx) id⟩
    · rw [List.mem_cons, List.mem_cons, ih]
theorem dedup_nodup : ∀ l : List Int, (dedup l).Nodup
  | [] => by simp [dedup]
  | x :: r => by
    unfold dedup
    split
    · exact dedup_nodup r
    · rename_i h
      exact List.nodup_cons.2 ⟨by simpa using h, dedup_nodup r⟩
theorem dedup_len : ∀ l : List Int, (dedup l).length ≤ l.length
  | [] => by simp [dedup]
  | x :: r => by
    have := dedup_len r
    unfold dedup
    split
    · exact Nat.le_succ_of_le this
    · simpa using this
theorem ints_at {ns : List Int} {its : List Value} (r : Vals (ns.map V.int) its) : IntsAre its ns := ints_of_vals r
def rSetI (K : PySem.W.Frag) (w : World) : List V → Hp → VK → Prop := fun xs H Q => ∃ (p : Addr) (ns : List Int), xs = [.ref p] ∧ (SqL K H p (ns.map V.int) ∨ SqT K H p (ns.map V.int)) ∧ ns.length < 63 ∧
  ∀ (a : Addr) (c : Nat), H a = none → c ≤ ns.length → Q (.ref a) (upd H a (SetO w a (fun j => decide (j ∈ ns)) c))
theorem scan63 {n : Nat} (h : n < 63) : n + 1 < scanBound := Nat.lt_of_lt_of_le (Nat.succ_lt_succ h) (by decide)
theorem cr_setI {X : Cx} (hc : X.calm = true) : CallR X (.type "set") (rSetI X.K X.w) := by
  intro pins s σ H xs us Q I r h
  obtain ⟨p, ns, rfl, hs, h63, q⟩ := h
  rw [Vals.ref1 r]
  have go : ∀ (g : Heap) (tk c : Nat), SetR X.w g s.heap.objs.size (fun j => decide (j ∈ ns)) c → c ≤ ns.length → (∀ b o, s.heap.get? b = some o → g.get? b = some o) →
      EP X pins σ Q (.ref s.heap.objs.size) { s with heap := g, toks := tk } := fun g tk c R hcl hk =>
    ⟨.ref s.heap.objs.size, _, I.laid (t' := tk) (o := SetO X.w s.heap.objs.size (fun j => decide (j ∈ ns)) c) hk (Nat.le_refl _) (setO_new R), rfl, q _ c (I.hok.fresh (Nat.le_refl _)) hcl⟩
  rcases hs with hs | hs
  · obtain ⟨its, r, pl, hz⟩ := I.list hs
    exact set_ofI ns (I.ok.hd hc) pl.isList (ints_at r) (scan63 h63) go
  · obtain ⟨its, r, pl, hz⟩ := I.tuple hs
    exact call_set_tupI ns (I.ok.hd hc) pl (ints_at r) (scan63 h63) go
end E

set_option autoImplicit false
set_option linter.all false
set_option Elab.async false
set_option maxRecDepth 100000
/-! E7: built-in calls, methods. -/
namespace E
open PySem PySem.Spec PyProof.Rows L2

def noStar : Expr → Bool
  | .Starred _ _ => false
  | _ => true
theorem star_cons {e : Expr} {es : List Expr} {env : PySem.Env} (h : noStar e = true) : starEach (e :: es) env = (false, eval e env) :: starEach es env := by
  cases e <;> first | rfl | (exact Bool.noConfusion (show false = true from h))
theorem star_any {env : PySem.Env} {pos : Pos} : ∀ {es : List Expr}, es.all noStar = true → (backTo pos (starEach es env)).any (·.1) = false
  | [], _ => rfl
  | e :: es, h => by
    rw [List.all_cons, Bool.and_eq_true] at h
    rw [star_cons h.1]
    exact star_any h.2
theorem star_all {env : PySem.Env} {pos : Pos} : ∀ {es : List Expr}, es.all noStar = true → (backTo pos (starEach es env)).all (fun x => !x.1) = true
  | [], _ => rfl
  | e :: es, h => by
    rw [List.all_cons, Bool.and_eq_true] at h
    rw [star_cons h.1]
    exact star_all h.2
def noSup : Expr → Bool
  | .Call (.Name x _) [] [] _ => !(x == ("super" : Str))
  | _ => true
theorem sup_ok {o : Expr} {name : Str} {env : PySem.Env} {w : Sem Value} (h : noSup o = true) : attributeBase o name env w = w := by
  unfold attributeBase
  split
  · rename_i id p pos
    have hx : (id != "super") = true := by simpa [noSup] using h
    simp only [hx, Bool.true_or, if_true]
  · rfl
section
variable {X : Cx} {T : Tb} {W : WX} {O : List Nat} {σ : L2.St} {H G : Hp}
theorem sa_nil : SA X T W O [] (fun _ => .ok []) := PA.weak pa_nil fun σ H Q ⟨G0, H0, G, e, rl, p⟩ => p.ok rl.sub RepL.nil
theorem sa_cons {a : Expr} {es : List Expr} {fa : Env → Res D} {fs : Env → Res (List D)} (hn : noStar a = true) (ha : SE X T W O a fa) (hs : SA X T W O es fs) : SA X T W O (a :: es) (fun e => (fa e).bd fun x => (fs e).bd fun xs => .ok (x :: xs)) :=
  PA.weak (pa_cons ha hs (star_cons hn)) fun σ H Q ⟨G0, H0, G, e, rl, p⟩ => ⟨G0, H0, G, e, rl, p.bind fun x v H1 G1 x1 r1 p1 => ⟨G0, H0, G1, e, rl.ext x1, p1.bind fun xs vs H2 G2 x2 r2 p2 => by
    exact p2.ok ((rl.ext x1).ext x2).sub (.cons (Rep.mono x2.g _ _ r1) r2)⟩⟩
/-- one argument, read now -/
theorem pa_one {a : Expr} {fa : Env → Res D} (hn : noStar a = true) (ha : SR X T W O a fa) : PA X [a] (tCons (cE X T W O (fun _ => RR T X.K) fa) tNil) := pa_cons ha pa_nil (star_cons hn)
theorem pa_two {a b : Expr} {fa fb : Env → Res D} (hn : noStar a = true) (hn2 : noStar b = true) (ha : SR X T W O a fa) (hb : SR X T W O b fb) : PA X [a, b] (tCons (cE X T W O (fun _ => RR T X.K) fa) (tCons (cE X T W O (fun _ => RR T X.K) fb) tNil)) :=
  pa_cons ha (pa_cons hb pa_nil (star_cons hn2)) (star_cons hn)
/-! ### data of lists -/
theorem ints_eq : ∀ {l : List D} {is : List Int}, intsD l = some is → l = is.map D.int
  | [], _, h => by cases h; rfl
  | .int i :: r, is, h => by
    simp only [intsD] at h
    cases q : intsD r with
    | none => rw [q] at h; cases h
    | some js => rw [q] at h; cases h; rw [ints_eq q]; rfl
  | .non :: _, _, h => by cases h
  | .bl _ :: _, _, h => by cases h
  | .str _ :: _, _, h => by cases h
  | .tup _ :: _, _, h => by cases h
  | .lst _ :: _, _, h => by cases h
  | .dic _ _ :: _, _, h => by cases h
  | .set _ :: _, _, h => by cases h
  | .ins _ _ :: _, _, h => by cases h
  | .exc _ _ :: _, _, h => by cases h
  | .scr _ :: _, _, h => by cases h
theorem bools_eq : ∀ {l : List D} {is : List Bool}, boolsD l = some is → l = is.map D.bl
  | [], _, h => by cases h; rfl
  | .bl i :: r, is, h => by
    simp only [boolsD] at h
    cases q : boolsD r with
    | none => rw [q] at h; cases h
    | some js => rw [q] at h; cases h; rw [bools_eq q]; rfl
  | .non :: _, _, h => by cases h
  | .int _ :: _, _, h => by cases h
  | .str _ :: _, _, h => by cases h
  | .tup _ :: _, _, h => by cases h
  | .lst _ :: _, _, h => by cases h
  | .dic _ _ :: _, _, h => by cases h
  | .set _ :: _, _, h => by cases h
  | .ins _ _ :: _, _, h => by cases h
  | .exc _ _ :: _, _, h => by cases h
  | .scr _ :: _, _, h => by cases h
theorem strs_eq : ∀ {l : List D} {is : List (List Nat)}, strsD l = some is → l = is.map D.str
  | [], _, h => by cases h; rfl
  | .str i :: r, is, h => by
    simp only [strsD] at h
    cases q : strsD r with
    | none => rw [q] at h; cases h
    | some js => rw [q] at h; cases h; rw [strs_eq q]; rfl
  | .non :: _, _, h => by cases h
  | .int _ :: _, _, h => by cases h
  | .bl _ :: _, _, h => by cases h
  | .tup _ :: _, _, h => by cases h
  | .lst _ :: _, _, h => by cases h
  | .dic _ _ :: _, _, h => by cases h
  | .set _ :: _, _, h => by cases h
  | .ins _ _ :: _, _, h => by cases h
  | .exc _ _ :: _, _, h => by cases h
  | .scr _ :: _, _, h => by cases h
/-! sorted ints -/
theorem insertI_perm (x : Int) : ∀ l, (insertI x l).Perm (x :: l)
  | [] => .refl _
  | y :: r => by
    unfold insertI
    split
    · exact .refl _
    · exact ((insertI_perm x r).cons y).trans (.swap x y r)
theorem sortI_perm : ∀ l, (sortI l).Perm l
  | [] => .refl _
  | x :: r => (insertI_perm x _).trans ((sortI_perm r).cons x)
theorem insertI_sorted (x : Int) : ∀ {l : List Int}, l.Pairwise (· ≤ ·) → (insertI x l).Pairwise (· ≤ ·)
  | [], _ => by simp [insertI]
  | y :: r, h => by
    unfold insertI
    split
    · rename_i hxy
      refine List.Pairwise.cons (fun z hz => ?_) h
      rcases List.mem_cons.mp hz with rfl | hz
      · exact hxy
      · have := List.rel_of_pairwise_cons h hz
        omega
    · rename_i hxy
      refine List.Pairwise.cons (fun z hz => ?_) (insertI_sorted x h.of_cons)
      have := (insertI_perm x r).mem_iff.mp hz
      rcases List.mem_cons.mp this with rfl | hz
      · omega
      · exact List.rel_of_pairwise_cons h hz
theorem sortI_sorted : ∀ l, (sortI l).Pairwise (· ≤ ·)
  | [] => .nil
  | x :: r => insertI_sorted x (sortI_sorted r)
theorem sorted_uniq : ∀ {a b : List Int}, a.Perm b → a.Pairwise (· ≤ ·) → b.Pairwise (· ≤ ·) → a = b := by
  intro a b p ha hb
  exact p.eq_of_pairwise (le := (· ≤ ·)) (fun x y _ _ h1 h2 => by omega) ha hb
/-! ### built-in functions of one argument -/
def biN : BI → Str
  | .len => "len" | .int => "int" | .min2 => "min" | .max2 => "max" | .sum => "sum" | .sorted => "sorted" | .str => "str" | .tuple => "tuple" | .list => "list" | .all => "all" | .any => "any"
  | .rng1 => "range" | .rng2 => "range" | .enum => "enumerate" | .zip => "zip" | .rev => "reversed" | .abs => "abs" | .sset => "sorted"
def okB (f : BI) (r : List V → Hp → VK → Prop) (X : Cx) (T : Tb) : Prop := ∀ (W : WX) (σ : L2.St) (H G : Hp) (x : D) (v : V) (Q : VK), Same G H → RepR T X.K H G x v → Pv T X.K W σ H G (biF f [x]) Q → r [v] H Q
theorem b1_builtin {f : BI} {id : String} {r : List V → Hp → VK → Prop} {a : Expr} {fa : Env → Res D} {p pos : Pos} (hc : CallR X (.builtin id) r) (ok : okB f r X T) (hg : Gl X (biN f)) (hm : X.mg (biN f) = none) (hv : bootBuiltins (biN f) = some (.builtin id)) (hn : noStar a = true) (ha : SR X T W O a fa)
    (h1 : biN f ≠ "__name__" := by decide) (h2 : (biN f == ("__debug__" : Str)) = false := by decide) : SE X T W O (.Call (.Name (biN f) p) [a] [] pos) (fun e => (fa e).bd fun x => biF f [x]) :=
  PE.weak (pe_callB hc hg hm hv (pa_one hn ha) h1 h2 (star_cons hn) (star_any rfl)) fun σ H Q q => one (a := cE X T W O (fun _ => RR T X.K) fa) rfl q fun G0 H0 G1 H1 e x v rl s rx p => ok W σ H1 G1 x v Q rl.sub rx p
theorem b1_type {f : BI} {id : String} {r : List V → Hp → VK → Prop} {a : Expr} {fa : Env → Res D} {p pos : Pos} (hc : CallR X (.type id) r) (ok : okB f r X T) (hg : Gl X (biN f)) (hm : X.mg (biN f) = none) (hv : bootBuiltins (biN f) = some (.type id)) (hn : noStar a = true) (ha : SR X T W O a fa)
    (h1 : biN f ≠ "__name__" := by decide) (h2 : (biN f == ("__debug__" : Str)) = false := by decide) : SE X T W O (.Call (.Name (biN f) p) [a] [] pos) (fun e => (fa e).bd fun x => biF f [x]) :=
  PE.weak (pe_callTy hc hg hm hv (pa_one hn ha) h1 h2 (star_cons hn) (star_any rfl)) fun σ H Q q => one (a := cE X T W O (fun _ => RR T X.K) fa) rfl q fun G0 H0 G1 H1 e x v rl s rx p => ok W σ H1 G1 x v Q rl.sub rx p
theorem okB_len : okB .len (fun xs H Q => ∃ x n, xs = [x] ∧ LenV X.K x H n ∧ Q (.int n) H) X T := by
  intro W σ H G x v Q s rx p
  cases x <;> try exact False.elim p
  · obtain ⟨hl, p⟩ := pif p
    rw [LIM_eq] at hl
    rw [rx.str]
    exact ⟨_, _, rfl, ⟨by rw [txt_len]; exact hl, rfl⟩, by rw [txt_len]; exact pv_int p s⟩
  · obtain ⟨a, xs, rfl, h1, r1⟩ := rx.tup s
    exact ⟨_, xs.length, rfl, .inr ⟨xs, h1, rfl⟩, by rw [← r1.length]; exact pv_int p s⟩
  · obtain ⟨a, xs, rfl, h1, r1⟩ := rx.lst
    exact ⟨_, xs.length, rfl, .inl ⟨xs, SqL.of h1, rfl⟩, by rw [← r1.length]; exact pv_int p s⟩
  · rename_i l
    obtain ⟨a, rfl, h1⟩ := rx.scr s
    exact ⟨_, l.length, rfl, .inl ⟨_, h1, by simp⟩, pv_int p s⟩
def rIntS : List V → Hp → VK → Prop := fun xs H Q => ((∃ i, xs = [.int i] ∧ Q (.int i) H) ∨ ∃ k, xs = [.bl k] ∧ Q (.int (if k then 1 else 0)) H) ∨ ∃ a n, xs = [.str a] ∧ PySem.intText? a = some n ∧ a.length ≤ 640 ∧ Q (.int n) H
theorem cr_intS : CallR X (.type "int") rIntS := fun pins s σ H xs us Q I r h => by
  rcases h with h | h
  · exact call_int1 pins s σ H xs us Q I r h
  · exact call_int_str pins s σ H xs us Q I r h
theorem intText_txt {s : List Nat} {n : Nat} (h : numT s = some n) : PySem.intText? (txt s) = some (n : Int) ∧ (txt s).length ≤ 640 := by
  unfold numT at h
  split at h
  · rename_i hc
    obtain ⟨h1, h2, h3⟩ := hc
    rw [List.all_eq_true] at h3
    have hd : ∀ c ∈ s, 48 ≤ c ∧ c ≤ 57 := fun c hc => by
      have := h3 c hc
      simp only [Bool.and_eq_true, decide_eq_true_eq] at this
      exact this
    have e := PySem.intText_digits (x := txt s) (by rw [txt_list]; exact hd) (by rw [txt_list]; exact h2) (by rw [txt_len]; omega)
    rw [txt_list] at e
    cases h
    exact ⟨e, by rw [txt_len]; omega⟩
  · cases h
theorem okB_intS : okB .int rIntS X T := by
  intro W σ H G x v Q s rx p
  cases x <;> try exact False.elim p
  · rw [rx.bl]; exact .inl (.inr ⟨_, rfl, pv_int p s⟩)
  · rw [rx.int]; exact .inl (.inl ⟨_, rfl, pv_int p s⟩)
  · obtain ⟨n, hn, p⟩ := pmat p
    rw [rx.str]
    obtain ⟨h1, h2⟩ := intText_txt hn
    exact .inr ⟨_, _, rfl, h1, h2, pv_int p s⟩
theorem decI_txt (i : Int) : (Str.ofString (toString i) : Str) = txt (decI i) := by
  unfold decI txt
  have := cpsOfBytes_string (toString i)
  show (⟨(cpsOfBytes 0 0 (toString i).toByteArray.data.toList).toArray⟩ : Str) = _
  rw [this]
theorem okB_str : okB .str (fun xs H Q => ∃ i, xs = [.int i] ∧ i.natAbs.log2 < 1920 ∧ Q (.str (toString i)) H) X T := by
  intro W σ H G x v Q s rx p
  cases x with
  | int i =>
    obtain ⟨hl, p⟩ := pif p
    rw [rx.int]
    refine ⟨i, rfl, ?_, by
      have e := decI_txt i
      rw [e]
      exact pv_str p s⟩
    by_cases h0 : i.natAbs = 0
    · rw [h0]; decide
    · exact Nat.lt_of_lt_of_le ((Nat.log2_lt h0).2 (by omega : _ < 2 ^ 64)) (by decide)
  | _ => exact False.elim p
theorem okB_abs : okB .abs (fun xs H Q => ∃ i, xs = [.int i] ∧ Q (.int (if i < 0 then -i else i)) H) X T := by
  intro W σ H G x v Q s rx p
  cases x <;> try exact False.elim p
  rw [rx.int]; exact ⟨_, rfl, pv_int p s⟩
theorem okB_sum : okB .sum (rSum X.K) X T := by
  intro W σ H G x v Q s rx p
  cases x <;> try exact False.elim p
  obtain ⟨is, hi, p⟩ := pmat p
  obtain ⟨a, xs, rfl, h1, r1⟩ := rx.lst
  rw [ints_eq hi] at r1
  rw [r1.ints_inv] at h1
  exact ⟨a, is, rfl, SqL.of h1, pv_int p s⟩
def rSortLD (K : PySem.W.Frag) : List V → Hp → VK → Prop := fun xs H Q => rSortedI K xs H Q ∨ ∃ (a : Addr) (kvs : List (Key × V)) (ks : List Int), xs = [.ref a] ∧ Rd H a (.dK kvs) ∧ kvs.map (·.1) = ks.map Sum.inl ∧ ks.length < 64 ∧
  ∀ (ys : List Int) (p : Addr), ys.Perm ks → ys.Pairwise (· ≤ ·) → H p = none → Q (.ref p) (upd H p (.lst (ys.map V.int)))
theorem cr_sortLD (hc : X.calm = true) : CallR X (.builtin "sorted") (rSortLD X.K) := fun pins s σ H xs us Q I r h => by
  rcases h with h | h
  · exact cr_sortedI pins s σ H xs us Q I r h
  · exact call_sortedDI hc pins s σ H xs us Q I r h
theorem keys_int : ∀ {ks : List D} {is : List Int} {kvs : List (Key × V)}, intsD ks = some is → ks.map kOf = kvs.map (fun p => some p.1) → kvs.map (·.1) = is.map Sum.inl
  | ks, is, kvs, h, h2 => by
    rw [ints_eq h, List.map_map] at h2
    have h3 : is.map (fun i => some (Sum.inl i : Key)) = kvs.map (fun p => some p.1) := by rw [← h2]; rfl
    have h4 : (is.map (Sum.inl : Int → Key)).map some = (kvs.map (·.1)).map some := by rw [List.map_map, List.map_map]; exact h3
    have h5 := congrArg (fun l => l.filterMap id) h4
    simp only [List.filterMap_map, Function.id_comp] at h5
    simpa using h5.symm
theorem okB_sorted : okB .sorted (rSortLD X.K) X T := by
  intro W σ H G x v Q s rx p
  cases x <;> try exact False.elim p
  · obtain ⟨is, hi, p⟩ := pmat p
    obtain ⟨a, xs, rfl, h1, r1⟩ := rx.lst
    rw [ints_eq hi] at r1
    rw [r1.ints_inv] at h1
    refine .inl ⟨a, is, rfl, SqL.of h1, fun ns q hp hs hq => ?_⟩
    rw [sorted_uniq (hp.trans (sortI_perm is).symm) hs (sortI_sorted is)]
    exact post_lst p s RepL.ints q hq
  · rename_i ks vs
    obtain ⟨is, hi, p⟩ := pmat p
    obtain ⟨hl, p⟩ := pif p
    obtain ⟨a, kvs, rfl, h1, h2, h3⟩ := (show ∃ a kvs, v = .ref a ∧ H a = some (.dK kvs) ∧ ks.map kOf = kvs.map (fun p => some p.1) ∧ RepL T X.K G vs (kvs.map (·.2)) from rx)
    refine .inr ⟨a, kvs, is, rfl, .of h1, keys_int hi h2, hl, fun ns q hp hs hq => ?_⟩
    rw [sorted_uniq (hp.trans (sortI_perm is).symm) hs (sortI_sorted is)]
    exact post_lst p s RepL.ints q hq
theorem okB_tuple : okB .tuple (fun xs H Q => ∃ p ys, xs = [.ref p] ∧ ((SqL X.K H p ys ∧ ∀ l, H l = none → Q (.ref l) (upd H l (.tup ys))) ∨ (SqT X.K H p ys ∧ Q (.ref p) H))) X T := by
  intro W σ H G x v Q s rx p
  cases x <;> try exact False.elim p
  · obtain ⟨a, xs, e, h1, r1⟩ := rx.tup s
    subst e
    exact ⟨a, xs, rfl, .inr ⟨h1, p.ok s rx⟩⟩
  · obtain ⟨a, xs, rfl, h1, r1⟩ := rx.lst
    exact ⟨a, xs, rfl, .inl ⟨SqL.of h1, post_tup p s r1⟩⟩
theorem okB_list : okB .list (fun xs H Q => ∃ p ys, xs = [.ref p] ∧ (SqL X.K H p ys ∨ SqT X.K H p ys) ∧ ∀ l, H l = none → Q (.ref l) (upd H l (.lst ys))) X T := by
  intro W σ H G x v Q s rx p
  cases x <;> try exact False.elim p
  · obtain ⟨a, xs, rfl, h1, r1⟩ := rx.tup s
    exact ⟨a, xs, rfl, .inr h1, post_lst p s r1⟩
  · obtain ⟨a, xs, rfl, h1, r1⟩ := rx.lst
    exact ⟨a, xs, rfl, .inl (SqL.of h1), post_lst p s r1⟩
theorem okB_all : okB .all (rAll X.K) X T := by
  intro W σ H G x v Q s rx p
  cases x <;> try exact False.elim p
  obtain ⟨is, hi, p⟩ := pmat p
  obtain ⟨a, xs, rfl, h1, r1⟩ := rx.lst
  rw [bools_eq hi] at r1
  rw [r1.bools_inv] at h1
  exact ⟨a, is, rfl, SqL.of h1, pv_bl p s⟩
theorem okB_any : okB .any (rAny X.K) X T := by
  intro W σ H G x v Q s rx p
  cases x <;> try exact False.elim p
  obtain ⟨is, hi, p⟩ := pmat p
  obtain ⟨a, xs, rfl, h1, r1⟩ := rx.lst
  rw [bools_eq hi] at r1
  rw [r1.bools_inv] at h1
  exact ⟨a, is, rfl, SqL.of h1, pv_bl p s⟩
def b1s : List BI := [.len, .int, .sum, .sorted, .str, .tuple, .list, .all, .any, .abs]
theorem se_b1 {f : BI} {a : Expr} {fa : Env → Res D} {p pos : Pos} (hf : f ∈ b1s) (hc : X.calm = true) (hg : Gl X (biN f)) (hm : X.mg (biN f) = none) (hn : noStar a = true) (ha : SR X T W O a fa) : SE X T W O (.Call (.Name (biN f) p) [a] [] pos) (fun e => (fa e).bd fun x => biF f [x]) := by
  cases f <;> first | (exact absurd hf (by decide)) | skip
  · exact b1_builtin call_len okB_len hg hm (by decide +kernel) hn ha
  · exact b1_type cr_intS okB_intS hg hm (by decide +kernel) hn ha
  · exact b1_builtin (cr_sum hc) okB_sum hg hm (by decide +kernel) hn ha
  · exact b1_builtin (cr_sortLD hc) okB_sorted hg hm (by decide +kernel) hn ha
  · exact b1_type call_str_int okB_str hg hm (by decide +kernel) hn ha
  · exact b1_type call_tuple_of okB_tuple hg hm (by decide +kernel) hn ha
  · exact b1_type call_list_of okB_list hg hm (by decide +kernel) hn ha
  · exact b1_builtin (cr_all hc) okB_all hg hm (by decide +kernel) hn ha
  · exact b1_builtin (cr_any hc) okB_any hg hm (by decide +kernel) hn ha
  · exact b1_builtin call_abs okB_abs hg hm (by decide +kernel) hn ha
/-- those that need no calm -/
theorem se_b1h {f : BI} {a : Expr} {fa : Env → Res D} {p pos : Pos} (hf : f = .len ∨ f = .int) (hg : Gl X (biN f)) (hm : X.mg (biN f) = none) (hn : noStar a = true) (ha : SR X T W O a fa) : SE X T W O (.Call (.Name (biN f) p) [a] [] pos) (fun e => (fa e).bd fun x => biF f [x]) := by
  rcases hf with rfl | rfl
  · exact b1_builtin call_len okB_len hg hm (by decide +kernel) hn ha
  · exact b1_type cr_intS okB_intS hg hm (by decide +kernel) hn ha
theorem se_mm {f : BI} {a b : Expr} {fa fb : Env → Res D} {p pos : Pos} (hf : f = .min2 ∨ f = .max2) (hc : X.calm = true) (hg : Gl X (biN f)) (hm : X.mg (biN f) = none) (hn : noStar a = true) (hn2 : noStar b = true) (ha : SR X T W O a fa) (hb : SR X T W O b fb) :
    SE X T W O (.Call (.Name (biN f) p) [a, b] [] pos) (fun e => (fa e).bd fun x => (fb e).bd fun y => biF f [x, y]) := by
  have h2 : (backTo pos (starEach [b] X.env)).any (·.1) = false := star_any (by simp [hn2])
  rcases hf with rfl | rfl
  · refine PE.weak (pe_callB (call_min2 hc) hg hm (by decide +kernel) (pa_two hn hn2 ha hb) (by decide) (by decide) (star_cons hn) h2) fun σ H Q q => two (a := cE X T W O (fun _ => RR T X.K) fa) (b := cE X T W O (fun _ => RR T X.K) fb) rfl rfl q fun G0 H0 G1 H1 e x y v w rl s rx ry p => ?_
    cases x <;> cases y <;> try exact False.elim p
    rw [rx.int, ry.int]
    exact ⟨_, _, rfl, pv_int p rl.sub⟩
  · refine PE.weak (pe_callB (call_max2 hc) hg hm (by decide +kernel) (pa_two hn hn2 ha hb) (by decide) (by decide) (star_cons hn) h2) fun σ H Q q => two (a := cE X T W O (fun _ => RR T X.K) fa) (b := cE X T W O (fun _ => RR T X.K) fb) rfl rfl q fun G0 H0 G1 H1 e x y v w rl s rx ry p => ?_
    cases x <;> cases y <;> try exact False.elim p
    rw [rx.int, ry.int]
    exact ⟨_, _, rfl, pv_int p rl.sub⟩
theorem sset_uniq {ns is : List Int} (h1 : ns.Pairwise (· < ·)) (h2 : ∀ k, k ∈ ns ↔ k ∈ is) : ns = sortI (dedup is) := by
  refine sorted_uniq ?_ (h1.imp fun h => by omega) (sortI_sorted _)
  have n1 : ns.Nodup := h1.imp fun h => by omega
  have n2 : (sortI (dedup is)).Nodup := (sortI_perm _).nodup_iff.2 (dedup_nodup is)
  exact (List.perm_ext_iff_of_nodup n1 n2).2 fun k => by rw [h2, (sortI_perm _).mem_iff, dedup_mem]
theorem se_sset {a : Expr} {fa : Env → Res D} {p p2 pos pos2 : Pos} (hc : X.calm = true) (hg : Gl X "sorted") (hm : X.mg "sorted" = none) (hg2 : Gl X "set") (hm2 : X.mg "set" = none) (hn : noStar a = true) (ha : SR X T W O a fa) :
    SE X T W O (.Call (.Name "sorted" p) [.Call (.Name "set" p2) [a] [] pos2] [] pos) (fun e => (fa e).bd fun x => biF .sset [x]) := by
  have inn := pe_callTy (p := p2) (pos := pos2) (cr_setI hc) hg2 hm2 (by decide +kernel) (pa_one hn ha) (by decide) (by decide) (star_cons hn) (star_any rfl)
  refine PE.weak (pe_callB (cr_sortedSet hc) hg hm (by decide +kernel) (pa_cons inn pa_nil (star_cons rfl)) (by decide) (by decide) (star_cons rfl) (star_any rfl)) fun σ H Q q => one (a := cE X T W O (fun _ => RR T X.K) fa) rfl q fun G0 H0 G1 H1 e x v rl s rx p => ?_
  have key : ∀ (is : List Int) (b : Addr), v = .ref b → (SqL X.K H1 b (is.map V.int) ∨ SqT X.K H1 b (is.map V.int)) → is.length < 63 → Pv T X.K W σ H1 G1 (.ok (.lst ((sortI (dedup is)).map D.int))) Q →
      rSetI X.K X.w [v] H1 fun w H2 => rSortedSet X.w [w] H2 Q := fun is b ev hs hl p => by
    refine ⟨b, is, by rw [ev], hs, hl, fun a c ha hcl => ⟨a, _, c, rfl, upd_same, by omega, fun ns q h1 h2 h3 hq => ?_⟩⟩
    have e1 : ns = sortI (dedup is) := sset_uniq h1 fun k => by rw [h2]; simp
    subst e1
    have x1 := Ext.mine (o := SetO X.w a (fun j => decide (j ∈ is)) c) rl.sub ha
    exact post_lst (p.ext x1) x1.s RepL.ints q hq
  cases x <;> try exact False.elim p
  · obtain ⟨is, hi, p⟩ := pmat p
    obtain ⟨hl, p⟩ := pif p
    obtain ⟨b, xs, rfl, h1, r1⟩ := rx.tup rl.sub
    rw [ints_eq hi] at r1
    rw [r1.ints_inv] at h1
    exact key is b rfl (.inr h1) hl p
  · obtain ⟨is, hi, p⟩ := pmat p
    obtain ⟨hl, p⟩ := pif p
    obtain ⟨b, xs, rfl, h1, r1⟩ := rx.lst
    rw [ints_eq hi] at r1
    rw [r1.ints_inv] at h1
    exact key is b rfl (.inl (SqL.of h1)) hl p
end
end E

set_option autoImplicit false
set_option linter.all false
set_option Elab.async false
set_option maxRecDepth 100000
/-! E8: methods of texts, isinstance, fields. -/
namespace E
open PySem PySem.Spec PyProof.Rows L2

/-! ### places of one sign in a text -/
def posC (c : Nat) : Nat → List Nat → List Nat
  | _, [] => []
  | i, x :: r => if x = c then i :: posC c (i + 1) r else posC c (i + 1) r
theorem occ_run (s : List Nat) (c limit : Nat) : ∀ (n a : Nat) (acc : Array Nat) (free : Nat), free ≤ a → a + n = s.length + 1 →
    (forIn (List.range' a n) (acc, free) (StrLaws.occBody (txt s) ⟨#[c]⟩ s.length limit)).run.fst.toList = acc.toList ++ (posC c a (s.drop a)).take (limit - acc.size)
  | 0, a, acc, free, _, e => by
    have e1 : s.drop a = [] := List.drop_eq_nil_of_le (by omega)
    rw [e1]
    simp [posC]
  | n + 1, a, acc, free, hf, e => by
    rw [List.range'_succ, List.forIn_cons]
    unfold StrLaws.occBody
    have key := StrLaws.subAt_one (txt s) c a
    rw [txt_list, txt_len] at key
    by_cases h : s[a]? = some c
    · have hlt : a < s.length := (List.getElem?_eq_some_iff.mp h).1
      have hd : s.drop a = c :: s.drop (a + 1) := by
        rw [List.drop_eq_getElem_cons hlt]
        congr 1
        exact (List.getElem?_eq_some_iff.mp h).2
      by_cases hl : acc.size < limit
      · rw [if_pos ⟨⟨⟨hl, hf⟩, (key.mpr h).1⟩, (key.mpr h).2⟩]
        have ih := occ_run s c limit n (a + 1) (acc.push a) (a + 1) (Nat.le_refl _) (by omega)
        refine Eq.trans ih ?_
        rw [hd, posC, if_pos rfl]
        have e2 : limit - acc.size = (limit - (acc.push a).size) + 1 := by rw [Array.size_push]; omega
        rw [e2, List.take_succ_cons]
        simp
      · rw [if_neg (fun z => hl z.1.1.1)]
        have ih := occ_run s c limit n (a + 1) acc free (by omega) (by omega)
        refine Eq.trans ih ?_
        have e2 : limit - acc.size = 0 := by omega
        rw [e2]
        simp
    · rw [if_neg (fun z => h (key.mp ⟨z.1.2, z.2⟩))]
      have ih := occ_run s c limit n (a + 1) acc free (by omega) (by omega)
      refine Eq.trans ih ?_
      congr 2
      by_cases hlt : a < s.length
      · rw [List.drop_eq_getElem_cons hlt]
        have hne : ¬ s[a] = c := fun z => h (by rw [List.getElem?_eq_getElem hlt, z])
        conv => rhs; unfold posC
        rw [if_neg hne]
      · rw [List.drop_eq_nil_of_le (by omega), List.drop_eq_nil_of_le (by omega)]
        rfl
theorem occ_pos (s : List Nat) (c limit : Nat) : Builtin.Str.occurrences (txt s) ⟨#[c]⟩ 0 (txt s).length limit = (posC c 0 s).take limit := by
  rw [StrLaws.occ_eq, txt_len]
  have := occ_run s c limit (s.length + 1 - 0) 0 #[] 0 (Nat.le_refl _) (by omega)
  simpa using this
theorem posC_len (c : Nat) : ∀ (s : List Nat) (i : Nat), (posC c i s).length = countC c s
  | [], _ => rfl
  | x :: r, i => by
    unfold posC countC
    split <;> simp [posC_len c r (i + 1)]
theorem countC_le (c : Nat) : ∀ s : List Nat, countC c s ≤ s.length
  | [] => Nat.le_refl _
  | x :: r => by
    unfold countC
    have := countC_le c r
    split <;> simp <;> omega
theorem posC_head (c : Nat) : ∀ (s : List Nat) (i : Nat), (posC c i s).head? = (findC c s).map (i + ·)
  | [], _ => rfl
  | x :: r, i => by
    unfold posC findC
    split
    · simp
    · rw [posC_head c r (i + 1)]
      cases findC c r <;> simp
      omega
theorem count_txt (s : List Nat) (c : Nat) : Txt.count (txt s) (txt [c]) = countC c s := by
  unfold Txt.count
  rw [show txt [c] = ⟨#[c]⟩ from rfl, occ_pos, List.length_take, posC_len, txt_len]
  have := countC_le c s
  rw [Nat.min_eq_right (by omega)]
theorem take1 {α : Type} (l : List α) : l.take 1 = match l.head? with | some x => [x] | none => [] := by cases l <;> rfl
theorem find_txt (s : List Nat) (c : Nat) : Txt.find (txt s) (txt [c]) = match findC c s with | some i => ((i : Nat) : Int) | none => -1 := by
  unfold Txt.find
  rw [show txt [c] = ⟨#[c]⟩ from rfl, occ_pos, take1, posC_head]
  cases findC c s <;> simp
theorem txt_join (y : List Nat) : ∀ l : List (List Nat), Txt.join (txt y) (l.map txt) = txt (joinT y l) := by
  intro l
  rw [show Txt.join (txt y) (l.map txt) = Str.join (txt y) (l.map txt) from PySem.StrLaws.glued_eq_join _ _]
  have key : ∀ l : List (List Nat), Str.join (txt y) (l.map txt) = txt (joinT y l) := by
    intro l
    induction l with
    | nil => rfl
    | cons a r ih =>
      cases r with
      | nil => rfl
      | cons b r =>
        show txt a ++ txt y ++ Str.join (txt y) ((b :: r).map txt) = _
        rw [ih, txt_app, txt_app]
        rfl
  exact key l
section
variable {X : Cx} {T : Tb} {W : WX} {O : List Nat} {σ : L2.St} {H G : Hp}
def mtN : MT → Str
  | .join => "join" | .count => "count" | .find => "find" | .index => "index" | .split => "split"
def okM (m : MT) (r : V → List V → Hp → VK → Prop) (X : Cx) (T : Tb) : Prop := ∀ (W : WX) (σ : L2.St) (H G : Hp) (x y : D) (v w : V) (Q : VK), Same G H → RepR T X.K H G x v → RepR T X.K H G y w → Pv T X.K W σ H G (meth m x [y]) Q → r v [w] H Q
theorem sum_txt (l : List (List Nat)) : ((l.map txt).map (·.length)).sum = (l.map (·.length)).sum := by
  rw [List.map_map, show (fun x : Str => x.length) ∘ txt = (fun x : List Nat => x.length) from funext fun a => txt_len a]
theorem okM_join : okM .join (fun x xs H Q => ∃ a p, ∃ ys : List Str, x = .str a ∧ xs = [.ref p] ∧ (SqL X.K H p (ys.map V.str) ∨ SqT X.K H p (ys.map V.str)) ∧ (ys.map (·.length)).sum + ys.length * a.length ≤ 16777216 ∧ Q (.str (Txt.join a ys)) H) X T := by
  intro W σ H G x y v w Q s rx ry p
  cases x <;> try exact False.elim p
  cases y <;> try exact False.elim p
  rename_i z l
  obtain ⟨is, hi, p⟩ := pmat p
  obtain ⟨hl, p⟩ := pif p
  obtain ⟨a, xs, rfl, h1, r1⟩ := ry.lst
  rw [strs_eq hi] at r1
  rw [r1.strs_inv] at h1
  rw [rx.str]
  exact ⟨_, a, is.map txt, rfl, rfl, .inl (SqL.of h1), by rw [sum_txt, txt_len, List.length_map]; exact hl, by rw [txt_join]; exact pv_str p s⟩
theorem okM_count : okM .count (fun x xs H Q => ∃ a b, x = .str a ∧ xs = [.str b] ∧ Q (.int (Txt.count a b)) H) X T := by
  intro W σ H G x y v w Q s rx ry p
  cases x <;> try exact False.elim p
  cases y <;> try exact False.elim p
  rename_i z l
  rcases l with _ | ⟨c, _ | ⟨c2, l⟩⟩ <;> try exact False.elim p
  rw [rx.str, ry.str]
  exact ⟨_, _, rfl, rfl, by rw [count_txt]; exact pv_int p s⟩
theorem okM_find : okM .find (fun x xs H Q => ∃ a b, x = .str a ∧ xs = [.str b] ∧ Q (.int (Txt.find a b)) H) X T := by
  intro W σ H G x y v w Q s rx ry p
  cases x <;> try exact False.elim p
  cases y <;> try exact False.elim p
  rename_i z l
  rcases l with _ | ⟨c, _ | ⟨c2, l⟩⟩ <;> try exact False.elim p
  rw [rx.str, ry.str]
  exact ⟨_, _, rfl, rfl, by rw [find_txt]; exact pv_int p s⟩
def rIndexT : V → List V → Hp → VK → Prop := fun x xs H Q => ∃ a b i rest, x = .str a ∧ xs = [.str b] ∧ Builtin.Str.occurrences a b 0 a.length 1 = i :: rest ∧ Q (.int (i : Nat)) H
theorem mt_indexT : MtR X "str.index" rIndexT := by
  intro pins s σ H x xs v us Q I rx rs h
  obtain ⟨a, b, i, rest, e1, e2, ho, q⟩ := h
  subst e1
  subst e2
  obtain ⟨t, e⟩ := rx
  subst e
  cases rs with
  | cons r1 rs =>
    cases rs
    obtain ⟨t2, e⟩ := r1
    subst e
    exact PySem.SC.index ho ⟨.int (i : Nat), H, I.tok _, ⟨_, rfl⟩, q⟩
theorem okM_index : okM .index rIndexT X T := by
  intro W σ H G x y v w Q s rx ry p
  cases x <;> try exact False.elim p
  cases y <;> try exact False.elim p
  rename_i z l
  rcases l with _ | ⟨c, _ | ⟨c2, l⟩⟩ <;> try exact False.elim p
  obtain ⟨i, hi, p⟩ := pmat p
  rw [rx.str, ry.str]
  have h := posC_head c z 0
  rw [hi] at h
  refine ⟨_, _, i, [], rfl, rfl, ?_, pv_int p s⟩
  rw [show txt [c] = ⟨#[c]⟩ from rfl, occ_pos, take1, h]
  simp
theorem spl_splC (c : Nat) : ∀ (l acc : List Nat), TL.spl [c] 0 acc l = splC c acc l
  | [], acc => by rw [TL.spl_nil]; rfl
  | x :: r, acc => by
    unfold TL.spl splC
    by_cases h : x = c
    · subst h
      rw [if_pos (by simp [TL.pre]), if_pos rfl]
      exact congrArg _ (spl_splC x r [])
    · rw [if_neg (by simp [TL.pre, h]), if_neg h]
      exact spl_splC c r _
theorem split_txt (s : List Nat) (c : Nat) (hc : c < 256) : Txt.split (txt s) (txt [c]) = (splC c [] s).map txt := by
  have h := TL.split_spl (txt s) (txt [c]) (by simp [TL.tl, txt]) (TL.kind_ok (by simp [txt, hc]))
  rw [show TL.tl (txt [c]) = [c] from rfl, show TL.tl (txt s) = s from txt_list s, spl_splC] at h
  rw [← h, List.map_map]
  have : (txt ∘ TL.tl) = id := funext fun y => by
    show (⟨(TL.tl y).toArray⟩ : Str) = y
    obtain ⟨a⟩ := y
    simp [TL.tl, txt]
  rw [this, List.map_id]
theorem RepL.strs {T : Tb} {K : PySem.W.Frag} {G : Hp} : ∀ {is : List (List Nat)}, RepL T K G (is.map D.str) ((is.map txt).map V.str)
  | [] => RepL.nil
  | _ :: _ => .cons (by simp [Rep]) RepL.strs
theorem okM_split : okM .split (fun x xs H Q => ∃ a b, x = .str a ∧ xs = [.str b] ∧ (b.length == 0) = false ∧ a.length + 2 ≤ sizeLine ∧ rNewStrs (Txt.split a b) H Q) X T := by
  intro W σ H G x y v w Q s rx ry p
  cases x <;> try exact False.elim p
  cases y <;> try exact False.elim p
  rename_i z l
  rcases l with _ | ⟨c, _ | ⟨c2, l⟩⟩ <;> try exact False.elim p
  obtain ⟨hl, p⟩ := pif p
  rw [rx.str, ry.str]
  refine ⟨_, _, rfl, rfl, rfl, by rw [txt_len, ← LIM_eq]; exact hl.2, ?_⟩
  rw [split_txt z c hl.1]
  exact post_lst p s RepL.strs
theorem se_mt {m : MT} {o a : Expr} {fo fa : Env → Res D} {apos pos : Pos} (hn : noStar a = true) (hs : noSup o = true) (hline : (apos.endLine == pos.line) = true) (ho : SR X T W O o fo) (ha : SR X T W O a fa) :
    SE X T W O (.Call (.Attribute o (mtN m) apos) [a] [] pos) (fun e => (fo e).bd fun x => if isStr x = true then ((fa e).bd fun y => meth m x [y]) else .bad) := by
  have hst : starEach [a] X.env = [(false, eval a X.env)] := star_cons hn
  have fin : ∀ (r : V → List V → Hp → VK → Prop), okM m r X T → PE X (.Call (.Attribute o (mtN m) apos) [a] [] pos) (tM1 r (cE X T W O (fun _ => RR T X.K) fo) (cE X T W O (fun _ => RR T X.K) fa)) →
      SE X T W O (.Call (.Attribute o (mtN m) apos) [a] [] pos) (fun e => (fo e).bd fun x => if isStr x = true then ((fa e).bd fun y => meth m x [y]) else .bad) := fun r ok pe =>
    PE.weak pe fun σ H Q ⟨G0, H0, G, e, rl, p⟩ => ⟨G0, H0, G, e, rl, p.bind fun x v H1 G1 x1 r1 p1 => by
      obtain ⟨hx, p1⟩ := pif p1
      cases x <;> first | (exact Bool.noConfusion (show false = true from hx)) | skip
      exact ⟨⟨_, r1.str⟩, G0, H0, G1, e, rl.ext x1, p1.bind fun y w H2 G2 x2 r2 p2 => ok W σ H2 G2 _ y v w Q ((rl.ext x1).ext x2).sub (r1.mono x2.h x2.g) r2 p2⟩⟩
  cases m
  · exact fin _ okM_join (pe_m1 F.slot_str_join F.type_str_join mt_join ho ha hst (sup_ok hs) hline)
  · exact fin _ okM_count (pe_m1 F.slot_str_count F.type_str_count mt_count ho ha hst (sup_ok hs) hline)
  · exact fin _ okM_find (pe_m1 F.slot_str_find F.type_str_find mt_find ho ha hst (sup_ok hs) hline)
  · exact fin _ okM_index (pe_m1 F.slot_str_index F.type_str_index mt_indexT ho ha hst (sup_ok hs) hline)
  · exact fin _ okM_split (pe_m1 F.slot_str_split F.type_str_split mt_split ho ha hst (sup_ok hs) hline)
/-! ### isinstance -/
def kdS : Kd → String
  | .int => "int" | .bool => "bool" | .str => "str" | .tup => "tuple" | .lst => "list" | .cls _ => ""
def kdN : Kd → Str
  | .int => "int" | .bool => "bool" | .str => "str" | .tup => "tuple" | .lst => "list" | .cls _ => ""
def tyS : D → String
  | .non => "NoneType" | .bl _ => "bool" | .int _ => "int" | .str _ => "str" | .tup _ => "tuple" | .lst _ => "list" | _ => ""
def isB : Kd → Bool
  | .cls _ => false
  | _ => true
theorem kit_d {x : D} {k : Kd} (hk : isB k = true) (hx : kdOk x = true) : kitB (tyS x) (kdS k) = some (isKd x k) := by
  cases k <;> first | (exact Bool.noConfusion (show false = true from hk)) | skip
  all_goals
    cases x <;> first | (exact Bool.noConfusion (show false = true from hx)) | skip
    all_goals (simp only [tyS, kdS, isKd]; decide +kernel)
theorem tyX_of {x : D} {v : V} (hx : kdOk x = true) (s : Same G H) (r : RepR T X.K H G x v) : TyX X.K H v (.type (tyS x)) := by
  cases x <;> first | (exact Bool.noConfusion (show false = true from hx)) | skip
  · rw [r.non]; exact .base .non
  · rw [r.bl]; exact .base (.bl _)
  · rw [r.int]; exact .base (.int _)
  · rw [r.str]; exact .base (.str _)
  · obtain ⟨a, xs, rfl, h1, _⟩ := r.tup s
    rcases h1 with (h | ⟨o, h⟩) | ⟨o, its, n, h, hc, _⟩
    · exact .base (.tup h)
    · exact .fTuple h
    · exact .kTuple h hc
  · obtain ⟨a, xs, rfl, h1, _⟩ := r.lst
    exact .base (.lst h1)
theorem pe_tyN {x : Str} {n : String} {pos : Pos} (hg : Gl X x) (hm : X.mg x = none) (hv : bootBuiltins x = some (.type n)) (hn : x ≠ "__name__") (hd : (x == ("__debug__" : Str)) = false) : PE X (.Name x pos) (tC (.ty n)) :=
  ⟨fun _ _ _ H _ I h => ld_blt I hg hm hv ⟨.ty n, H, I, rfl, h⟩ hn hd⟩
theorem pe_kd {k : Kd} {pos : Pos} (hk : isB k = true) (hg : Gl X (kdN k)) (hm : X.mg (kdN k) = none) : PE X (.Name (kdN k) pos) (tC (.ty (kdS k))) := by
  cases k <;> first | (exact Bool.noConfusion (show false = true from hk)) | skip
  all_goals exact pe_tyN hg hm (by decide +kernel) (by decide) (by decide)
theorem se_isi {k : Kd} {a : Expr} {fa : Env → Res D} {p p2 pos : Pos} (hk : isB k = true) (hg : Gl X "isinstance") (hm : X.mg "isinstance" = none) (hg2 : Gl X (kdN k)) (hm2 : X.mg (kdN k) = none) (hn : noStar a = true) (ha : SR X T W O a fa) :
    SE X T W O (.Call (.Name "isinstance" p) [a, .Name (kdN k) p2] [] pos) (fun e => (fa e).bd fun x => if kdOk x = true then .ok (.bl (isKd x k)) else .bad) :=
  PE.weak (pe_callB call_isi hg hm boot_isinstance (pa_cons ha (pa_cons (pe_kd hk hg2 hm2) pa_nil) (star_cons hn)) (by decide) (by decide) (star_cons hn) (star_any rfl)) fun σ H Q q => one (a := cE X T W O (fun _ => RR T X.K) fa) rfl q fun G0 H0 G1 H1 e x v rl s rx p => by
    obtain ⟨hx, p⟩ := pif p
    exact ⟨v, _, _, _, _, rfl, .ty _, tyX_of hx rl.sub rx, kit_ty (kit_d hk hx), pv_bl p rl.sub⟩
theorem se_isi2 {k k2 : Kd} {a : Expr} {fa : Env → Res D} {p p2 p3 tp pos : Pos} {kk : Nat} (hk : isB k = true) (hk2 : isB k2 = true) (hg : Gl X "isinstance") (hm : X.mg "isinstance" = none) (hg1 : Gl X (kdN k)) (hm1 : X.mg (kdN k) = none) (hg2 : Gl X (kdN k2)) (hm2 : X.mg (kdN k2) = none) (hn : noStar a = true) (ha : SR X T W O a fa) :
    SE X T W O (.Call (.Name "isinstance" p) [a, .Tuple [.Name (kdN k) p2, .Name (kdN k2) p3] kk tp] [] pos) (fun e => (fa e).bd fun x => if kdOk x = true then .ok (.bl (isKd x k || isKd x k2)) else .bad) := by
  have ht : PE X (.Tuple [.Name (kdN k) p2, .Name (kdN k2) p3] kk tp) (tTup (tCons (tC (.ty (kdS k))) (tCons (tC (.ty (kdS k2))) tNil))) := pe_tup (pa_cons (pe_kd hk hg1 hm1) (pa_cons (pe_kd hk2 hg2 hm2) pa_nil))
  refine PE.weak (pe_callB call_isiT hg hm boot_isinstance (pa_cons ha (pa_cons ht pa_nil) (star_cons hn)) (by decide) (by decide) (star_cons hn) (star_any rfl)) fun σ H Q q => one (a := cE X T W O (fun _ => RR T X.K) fa) rfl q fun G0 H0 G1 H1 e x v rl s rx p => ?_
  obtain ⟨hx, p⟩ := pif p
  refine ⟨by rw [sizeLine_eq]; show 2 ≤ 16777216; decide, fun q hq => ?_⟩
  have s2 : Same H1 (upd H1 q (.tup [.ty (kdS k), .ty (kdS k2)])) := same_new hq
  have x2 := Ext.mine (o := .tup [.ty (kdS k), .ty (kdS k2)]) rl.sub hq
  refine ⟨v, q, _, _, [.type (kdS k), .type (kdS k2)], _, rfl, upd_same, .cons (.ty _) (.cons (.ty _) .nil), tyX_of hx x2.s (rx.mono x2.h x2.g), ?_, pv_bl (p.ext x2) x2.s⟩
  refine kitAny_cons (kit_ty (kit_d hk hx)) (fun h => ?_) (fun h => by rw [h]; rfl)
  refine kitAny_cons (kit_ty (kit_d hk2 hx)) (fun h2 => ?_) (fun h2 => by rw [h2, Bool.or_true])
  rw [h, h2]
  rfl
/-! ### fields -/
structure ClsOk (K : PySem.W.Frag) (C : Addr) (fl : List Str) : Prop where
  cl : Cls K C
  na : ∀ f ∈ fl, NoAttr K C f
  nd : fl.Nodup
theorem lookup_at : ∀ {fs : List (Str × V)} {j : Nat} {nm : Str} {v : V}, (fs.map (·.1)).Nodup → (fs.map (·.1))[j]? = some nm → (fs.map (·.2))[j]? = some v → fs.lookup nm = some v
  | [], j, _, _, _, h, _ => by simp at h
  | (n, u) :: r, 0, nm, v, _, h, h2 => by
    have e1 : n = nm := by simpa using h
    have e2 : u = v := by simpa using h2
    subst e1 e2
    simp [List.lookup]
  | (n, u) :: r, j + 1, nm, v, nd, h, h2 => by
    have h' : (r.map (·.1))[j]? = some nm := by simpa using h
    have hne : ¬ nm = n := by
      intro e
      subst e
      have := List.mem_of_getElem? h'
      simp only [List.map_cons, List.nodup_cons] at nd
      exact nd.1 this
    have e3 : (nm == n) = false := beq_eq_false_iff_ne.mpr hne
    show List.lookup nm ((n, u) :: r) = _
    rw [List.lookup, e3]
    exact lookup_at (by simp only [List.map_cons, List.nodup_cons] at nd; exact nd.2) h' (by simpa using h2)
theorem se_fld {c j : Nat} {nm : Str} {a : Expr} {fa : Env → Res D} {pos : Pos} (ok : ClsOk X.K (T.ca c) (T.fl c)) (hj : (T.fl c)[j]? = some nm) (hs : noSup a = true) (ha : SR X T W O a fa) :
    SE X T W O (.Attribute a nm pos) (fun e => (fa e).bd fun x => dFld c j x) := by
  refine PE.weak (pe_fld ha (sup_ok hs)) fun σ H Q ⟨G0, H0, G, e, rl, p⟩ => ⟨G0, H0, G, e, rl, p.bind fun x v H1 G1 x1 r1 p1 => ?_⟩
  cases x <;> try exact False.elim p1
  · rename_i c' l
    have p2 : c' = c ∧ Pv T X.K W σ H1 G1 (om l[j]? .ok) Q := pif p1
    clear p1
    obtain ⟨hc, p3⟩ := p2
    subst hc
    obtain ⟨a, dx, fs, rfl, h1, h2, h3⟩ := Rep.ins r1
    obtain ⟨d, hd, p1⟩ := pmat p3
    obtain ⟨u, h4, h5⟩ := h3.get hd
    exact ⟨a, _, dx, fs, u, rfl, x1.s _ _ h1, ok.cl, ok.na nm (List.mem_of_getElem? hj), lookup_at (by rw [h2]; exact ok.nd) (by rw [h2]; exact hj) h4, p1.ok (rl.ext x1).sub h5⟩
end
end E

set_option autoImplicit false
set_option linter.all false
set_option Elab.async false
set_option maxRecDepth 100000
/-! E8s: written dicts of texts, isinstance of an own class, f-strings. -/
namespace E
open PySem PySem.Spec PyProof.Rows L2
/-! ### a dict of texts that is written in the module -/
structure GdOk (K : PySem.W.Frag) (w : World) (mg : Str → Option Value) (nm : Str) (ks vs : List (List Nat)) : Prop where
  ex : ∃ p es n, mg nm = some (.ref p) ∧ KDict K w p es n ∧ ∀ x : List Nat, (∀ v, lkS ks vs x = some v → ∃ u, PySem.W.nsIn K p (txt x) = some (some u) ∧ RelV (.str (txt v)) u) ∧ (lkS ks vs x = none → PySem.W.nsIn K p (txt x) = some none)
/-- the check: entries are these texts, in this order -/
def entB (ks vs : List (List Nat)) : List DictEntry → Bool
  | [] => ks.isEmpty && vs.isEmpty
  | e :: r => match ks, vs, e.key, e.val with
    | k :: ks, v :: vs, .str x _, .str y _ => decide (x.cps.toList = k) && decide (y.cps.toList = v) && entB ks vs r
    | _, _, _, _ => false
def gdB (K : PySem.W.Frag) (p : Addr) (ks vs : List (List Nat)) : Bool := match K.lookup p with
  | some ⟨_, _, .dict es _, _⟩ => entB ks vs es.toList
  | _ => false
theorem txt_of (x : Str) : txt x.cps.toList = x := by
  obtain ⟨a⟩ := x
  simp [txt]
theorem entB_ok : ∀ (l : List DictEntry) (ks vs : List (List Nat)), entB ks vs l = true → ∀ x : List Nat,
    (∀ v, lkS ks vs x = some v → ∃ u e, l.find? (·.key.isStr (txt x)) = some e ∧ e.val = u ∧ RelV (.str (txt v)) u) ∧ (lkS ks vs x = none → l.find? (·.key.isStr (txt x)) = none) ∧ l.any (·.refKey) = false
  | [], ks, vs, h, x => by
    unfold entB at h
    simp only [Bool.and_eq_true, List.isEmpty_iff] at h
    obtain ⟨rfl, rfl⟩ := h
    exact ⟨fun v hv => (by cases hv), fun _ => rfl, rfl⟩
  | ⟨hs, key, val⟩ :: r, ks, vs, h, x => by
    unfold entB at h
    split at h
    · rename_i k ks' v vs' y t z t2 hk hv
      simp only [Bool.and_eq_true, decide_eq_true_eq] at h
      obtain ⟨⟨h1, h2⟩, h3⟩ := h
      have hk : key = .str y t := hk
      have hv : val = .str z t2 := hv
      subst hk hv
      have ey : y = txt k := by rw [← h1, txt_of]
      have ez : z = txt v := by rw [← h2, txt_of]
      subst ey ez
      obtain ⟨q1, q2, q3⟩ := entB_ok r ks' vs' h3 x
      have hisS : Value.isStr (Value.str (txt k) t) (txt x) = decide (k = x) := by
        show (txt k == txt x) = _
        by_cases hkx : k = x
        · subst hkx; simp
        · have : txt k ≠ txt x := fun z => hkx (by have := congrArg (fun s : Str => s.cps.toList) z; simpa [txt] using this)
          rw [decide_eq_false hkx]
          exact beq_eq_false_iff_ne.2 this
      refine ⟨fun v' hv' => ?_, fun hn => ?_, ?_⟩
      · unfold lkS at hv'
        rw [List.find?_cons]
        show ∃ u e, (match Value.isStr (Value.str (txt k) t) (txt x) with | true => some _ | false => _) = some e ∧ _
        rw [hisS]
        by_cases hkx : k = x
        · rw [if_pos hkx] at hv'
          cases hv'
          rw [decide_eq_true hkx]
          exact ⟨_, _, rfl, rfl, ⟨t2, rfl⟩⟩
        · rw [if_neg hkx] at hv'
          rw [decide_eq_false hkx]
          exact q1 v' hv'
      · unfold lkS at hn
        rw [List.find?_cons]
        show (match Value.isStr (Value.str (txt k) t) (txt x) with | true => some _ | false => _) = none
        rw [hisS]
        by_cases hkx : k = x
        · rw [if_pos hkx] at hn; cases hn
        · rw [if_neg hkx] at hn
          rw [decide_eq_false hkx]
          exact q2 hn
      · rw [List.any_cons, q3]
        rfl
    · cases h
theorem gd_of {K : PySem.W.Frag} {w : World} {mg : Str → Option Value} {nm : Str} {p : Addr} {ks vs : List (List Nat)} {es : Array DictEntry} {n : Nat} (hm : mg nm = some (.ref p)) (hd : KDict K w p es n) (h : gdB K p ks vs = true) : GdOk K w mg nm ks vs := by
  refine ⟨p, es, n, hm, hd, fun x => ?_⟩
  unfold gdB at h
  rw [hd.at_] at h
  obtain ⟨q1, q2, q3⟩ := entB_ok es.toList ks vs h x
  unfold PySem.W.nsIn
  rw [hd.at_]
  refine ⟨fun v hv => ?_, fun hn => ?_⟩
  · obtain ⟨u, e, e1, e2, e3⟩ := q1 v hv
    refine ⟨u, ?_, e3⟩
    show (match es.toList.find? (·.key.isStr (txt x)) with | some e => some (some e.val) | none => _) = _
    rw [e1, ← e2]
  · show (match es.toList.find? (·.key.isStr (txt x)) with | some e => some (some e.val) | none => if es.toList.any (·.refKey) = true then none else some none) = _
    rw [q2 hn, q3]
    rfl
section
variable {X : Cx} {T : Tb} {W : WX} {O : List Nat} {σ : L2.St} {H G : Hp}
theorem se_gdx {nm : Str} {ks vs : List (List Nat)} {b : Expr} {fb : Env → Res D} {p pos : Pos} (g : GdOk X.K X.w X.mg nm ks vs) (hg : Gl X nm) (hdb : (nm == ("__debug__" : Str)) = false) (hs : plainIx b = true) (hb : SR X T W O b fb) :
    SE X T W O (.Subscript (.Name nm p) b pos) (fun e => (fb e).bd fun x => dGdx ks vs x) := by
  obtain ⟨q, es, n, hm, kd, hk⟩ := g.ex
  have pn : PE X (.Name nm p) (tC (.ref q)) := pe_glob hg hm rfl hdb
  refine PE.weak (pe_ix ix_kdict pn hb (plainIx_ok hs)) fun σ H Q qq => one (a := cE X T W O (fun _ => RR T X.K) fb) rfl qq fun G0 H0 G1 H1 e x v rl s rx p => ?_
  cases x with
  | str z =>
    obtain ⟨v', hv, p⟩ := pmat p
    obtain ⟨u, e1, e2⟩ := (hk z).1 v' hv
    rw [rx.str]
    exact ⟨q, txt z, .str (txt v'), rfl, rfl, ⟨es, n, u, kd.at_, kd.lit, e1, e2⟩, pv_str p rl.sub⟩
  | _ => exact False.elim p
def notO (neg : Bool) : CmpOp := if neg then .NotIn else .In
theorem gdi_run {neg : Bool} {ks vs : List (List Nat)} {q : Addr} {fa : Env → Res D} {Q : VK} {r : R2}
    (hr : ∀ (z : List Nat) (H : Hp) (Q : VK), Q (.bl ((lkS ks vs z).isSome != neg)) H → r (.str (txt z)) (.ref q) H Q)
    (qq : cE X T W O (fun _ => RV T X.K) (fun e => (fa e).bd fun x => dGdi neg ks vs x) σ H Q) : tOp r (cE X T W O (fun _ => RR T X.K) fa) (tC (.ref q)) σ H Q :=
  one (a := cE X T W O (fun _ => RR T X.K) fa) rfl qq fun G0 H0 G1 H1 e x v rl s rx p => by
    cases x with
    | str z =>
      rw [rx.str]
      exact hr z _ _ (pv_bl p rl.sub)
    | _ => exact False.elim p
theorem gdi_op {neg : Bool} {nm : Str} {ks vs : List (List Nat)} (g : GdOk X.K X.w X.mg nm ks vs) : ∃ q r, X.mg nm = some (.ref q) ∧ OpR X (compareOp (notO neg)) r ∧ ∀ (z : List Nat) (H : Hp) (Q : VK), Q (.bl ((lkS ks vs z).isSome != neg)) H → r (.str (txt z)) (.ref q) H Q := by
  obtain ⟨q, es, n, hm, kd, hk⟩ := g.ex
  have key : ∀ z : List Nat, ∃ r : Option Value, PySem.W.nsIn X.K q (txt z) = some r ∧ r.isSome = (lkS ks vs z).isSome := fun z => by
    cases h : lkS ks vs z with
    | some v =>
      obtain ⟨u, e1, _⟩ := (hk z).1 v h
      exact ⟨some u, e1, rfl⟩
    | none => exact ⟨none, (hk z).2 h, rfl⟩
  cases neg with
  | false =>
    refine ⟨q, _, hm, op_in_kd kd, fun z H Q h => ?_⟩
    obtain ⟨r, e1, e2⟩ := key z
    exact ⟨txt z, r, rfl, rfl, e1, by rw [e2]; simpa using h⟩
  | true =>
    refine ⟨q, _, hm, op_notIn_kd kd, fun z H Q h => ?_⟩
    obtain ⟨r, e1, e2⟩ := key z
    exact ⟨txt z, r, rfl, rfl, e1, by rw [e2]; simpa using h⟩
theorem se_gdi {neg : Bool} {nm : Str} {ks vs : List (List Nat)} {a : Expr} {fa : Env → Res D} {p pos : Pos} (g : GdOk X.K X.w X.mg nm ks vs) (hg : Gl X nm) (hdb : (nm == ("__debug__" : Str)) = false) (hb : behindInMarks (notO neg) (.Name nm p) = false) (ha : SR X T W O a fa) :
    SE X T W O (.Compare a [notO neg] [.Name nm p] pos) (fun e => (fa e).bd fun x => dGdi neg ks vs x) := by
  obtain ⟨q, r, hm, ho, hr⟩ := gdi_op (neg := neg) g
  exact PE.weak (pe_cmpR ho ha (pe_glob (v := .ref q) hg hm rfl hdb) hb) fun σ H Q qq => gdi_run hr qq
theorem sb_gdi {neg : Bool} {nm : Str} {ks vs : List (List Nat)} {a : Expr} {fa : Env → Res D} {p pos : Pos} (g : GdOk X.K X.w X.mg nm ks vs) (hg : Gl X nm) (hdb : (nm == ("__debug__" : Str)) = false) (hb : behindInMarks (notO neg) (.Name nm p) = false) (ha : SR X T W O a fa) :
    SB X T W O (.Compare a [notO neg] [.Name nm p] pos) (fun e => ((fa e).bd fun x => dGdi neg ks vs x).bd truth) := by
  obtain ⟨q, r, hm, ho, hr⟩ := gdi_op (neg := neg) g
  refine PT.weak (pt_cmpR ho ha (pe_glob (v := .ref q) hg hm rfl hdb) hb) fun σ H Q qq => gdi_run hr ?_
  obtain ⟨G0, H0, G, e, rl, p⟩ := qq
  refine ⟨G0, H0, G, e, rl, post_test p fun z hz => ?_⟩
  replace hz : ((fa e).bd fun x => dGdi neg ks vs x) = Res.ok z := hz
  cases q1 : fa e with
  | ok x =>
    rw [q1] at hz
    cases x <;> first | (cases hz; exact ⟨_, rfl⟩) | (cases hz; done)
  | err c l => rw [q1] at hz; cases hz
  | bad => rw [q1] at hz; cases hz
/-! ### isinstance of an own class -/
structure IscOk (K : PySem.W.Frag) (mg : Str → Option Value) (C : Addr) (nm : Str) : Prop where
  mg : mg nm = some (.ref C)
  ic : C8.InsC K C
theorem se_isc {k : Nat} {nm : Str} {a : Expr} {fa : Env → Res D} {p p2 pos : Pos} (i : IscOk X.K X.mg (T.ca k) nm) (hg : Gl X "isinstance") (hm : X.mg "isinstance" = none) (hg2 : Gl X nm) (hdb : (nm == ("__debug__" : Str)) = false) (hn : noStar a = true) (ha : SR X T W O a fa) :
    SE X T W O (.Call (.Name "isinstance" p) [a, .Name nm p2] [] pos) (fun e => (fa e).bd fun x => dIsc k x) := by
  have pn : PE X (.Name nm p2) (tC (.ref (T.ca k))) := pe_glob hg2 i.mg rfl hdb
  refine PE.weak (pe_callB (C8.call_isC i.ic) hg hm boot_isinstance (pa_cons ha (pa_cons pn pa_nil) (star_cons hn)) (by decide) (by decide) (star_cons hn) (star_any rfl)) fun σ H Q q => one (a := cE X T W O (fun _ => RR T X.K) fa) rfl q fun G0 H0 G1 H1 e x v rl s rx p => ?_
  cases x with
  | ins c l =>
    have p2 : c = k ∧ Pv T X.K W σ H1 G1 (.ok (.bl true)) Q := pif p
    obtain ⟨hc, p3⟩ := p2
    subst hc
    obtain ⟨a, dx, fs, rfl, h1, h2, h3⟩ := Rep.ins rx
    exact ⟨a, dx, fs, rfl, rl.sub _ _ h1, pv_bl p3 rl.sub⟩
  | _ => exact False.elim p
/-! ### f-strings -/
/-- a part: what it does, told by its value -/
structure FP (X : Cx) (T : Tb) (W : WX) (O : List Nat) (e : Expr) (f : Env → Res D) (t : TE) : Prop where
  pe : PE X e t
  ok : ∀ (σ : L2.St) (H : Hp) (P : VK), (∃ G0 H0 G env, Rel T X.K O G0 H0 σ H G env ∧ PostG T X.K (fun _ _ (s : List Nat) v => v = V.str (txt s)) W σ H G ((f env).bd fmt1) P) → t σ H P
theorem fp_str {y : Str} {k} {pos : Pos} {s : List Nat} (h : y.cps.toList = s) : ∃ t, FP X T W O (.Constant (.str y) k pos) (fun _ => .ok (.str s)) t := by
  refine ⟨_, (se_str (X := X) (T := T) (W := W) (O := O) h : SE X T W O (.Constant (.str y) k pos) _), fun σ H P ⟨G0, H0, G, env, rl, p⟩ => ⟨G0, H0, G, env, rl, ?_⟩⟩
  rw [bd_ok] at p
  obtain ⟨_, p⟩ := pif p
  intro v H' G' x rv
  exact p v H' G' x (Rep.str rv)
theorem fp_val {a : Expr} {fa : Env → Res D} {pos : Pos} (ha : SR X T W O a fa) : ∃ t, FP X T W O (.FormattedValue a (-1) none pos) fa t := by
  refine ⟨_, pe_fmt ha, fun σ H P ⟨G0, H0, G, env, rl, p⟩ => ⟨G0, H0, G, env, rl, p.bind fun x v H1 G1 x1 r1 p1 => ?_⟩⟩
  cases x with
  | str z =>
    obtain ⟨hl, p1⟩ := pif p1
    rw [show v = V.str (txt z) from RepR.str r1]
    exact .inl ⟨txt z, rfl, by rw [txt_len, ← LIM_eq]; exact hl, p1.ok (rl.ext x1).sub rfl⟩
  | int i =>
    obtain ⟨hl, p1⟩ := pif p1
    rw [show v = V.int i from RepR.int r1]
    refine .inr ⟨i, rfl, ?_, by
      have e := decI_txt i
      rw [e]
      exact p1.ok (rl.ext x1).sub rfl⟩
    by_cases h0 : i.natAbs = 0
    · rw [h0]; decide
    · exact Nat.lt_of_lt_of_le ((Nat.log2_lt h0).2 (by omega : _ < 2 ^ 64)) (by decide)
  | _ => exact False.elim p1
/-- the parts in a row -/
inductive FPs (X : Cx) (T : Tb) (W : WX) (O : List Nat) : List Expr → (List Nat → Env → Res (List Nat)) → List TE → Prop
  | nil : FPs X T W O [] (fun acc _ => .ok acc) []
  | cons {e : Expr} {es : List Expr} {f : Env → Res D} {g : List Nat → Env → Res (List Nat)} {t : TE} {ts : List TE} (h : FP X T W O e f t) (r : FPs X T W O es g ts) :
      FPs X T W O (e :: es) (fun acc env => (f env).bd fun x => (fmt1 x).bd fun s => if (acc ++ s).length ≤ LIM then g (acc ++ s) env else .bad) (t :: ts)
theorem FPs.pj {es : List Expr} {g : List Nat → Env → Res (List Nat)} {ts : List TE} (h : FPs X T W O es g ts) : PJ X es ts := by
  induction h with
  | nil => exact .nil
  | cons h _ ih => exact .cons h.pe ih
theorem FPs.run {es : List Expr} {g : List Nat → Env → Res (List Nat)} {ts : List TE} (h : FPs X T W O es g ts) : ∀ (acc : List Nat) (σ : L2.St) (H : Hp) (Q : VK),
    (∃ G0 H0 G env, Rel T X.K O G0 H0 σ H G env ∧ PostG T X.K (RV T X.K) W σ H G ((g acc env).bd fun s => .ok (.str s)) Q) → tJs ts (txt acc) σ H fun out H1 => Q (.str out) H1 := by
  induction h with
  | nil =>
    intro acc σ H Q ⟨G0, H0, G, env, rl, p⟩
    exact pv_str p rl.sub
  | @cons e es f g t ts h r ih =>
    intro acc σ H Q ⟨G0, H0, G, env, rl, p⟩
    refine h.ok σ H _ ⟨G0, H0, G, env, rl, ?_⟩
    have e1 : (((f env).bd fun x => (fmt1 x).bd fun s => if (acc ++ s).length ≤ LIM then g (acc ++ s) env else .bad).bd fun s => Res.ok (D.str s)) =
        (((f env).bd fmt1).bd fun s => if (acc ++ s).length ≤ LIM then (g (acc ++ s) env).bd fun s => Res.ok (D.str s) else .bad) := by
      cases f env with
      | ok x =>
        rw [bd_ok, bd_ok]
        cases fmt1 x with
        | ok s =>
          rw [bd_ok, bd_ok]
          by_cases hl : (acc ++ s).length ≤ LIM
          · rw [if_pos hl, if_pos hl]
          · rw [if_neg hl, if_neg hl]; rfl
        | err c l => rfl
        | bad => rfl
      | err c l => rfl
      | bad => rfl
    rw [e1] at p
    refine p.bind fun s v H1 G1 x1 r1 p1 => ?_
    obtain ⟨hl, p1⟩ := pif p1
    refine ⟨txt s, r1, ?_, ?_⟩
    · rw [txt_app, txt_len, ← LIM_eq]; exact hl
    · rw [txt_app]
      exact ih (acc ++ s) σ H1 Q ⟨G0, H0, G1, env, rl.ext x1, p1⟩
theorem se_fst {v1 v2 : Expr} {rest : List Expr} {g : List Nat → Env → Res (List Nat)} {ts : List TE} {pos : Pos} (h : FPs X T W O (v1 :: v2 :: rest) g ts) : SE X T W O (.JoinedStr (v1 :: v2 :: rest) pos) (fun e => (g [] e).bd fun s => .ok (.str s)) :=
  PE.weak (pe_joined h.pj) fun σ H Q q => h.run [] σ H Q q
end
end E

set_option autoImplicit false
set_option linter.all false
set_option Elab.async false
set_option maxRecDepth 100000
/-! E9: what a for goes over. -/
namespace PySem
open Sem (wp)
open AutoSeq1 (wpAny_loadPart')
set_option maxHeartbeats 1000000 in
theorem E_meets_enumerate_newT (l : Addr) (items : Array Value) (o : Obj) :
    Meets (Builtin.«enumerate.__new__» ⟨[.type "enumerate", .ref l], []⟩) (fun _ R s => (s.heap.get? l = some o ∧ s.heap.IsTuple l items) ∧
      R (.ok (.ret (.ref (s.heap.push { cls := .type "tuple_iterator", data := .fields #[.ref l, .int 0 0] }).objs.size)))
        { s with heap := (s.heap.push { cls := .type "tuple_iterator", data := .fields #[.ref l, .int 0 0] }).push { cls := .type "enumerate", data := .fields #[.none, .bool false, .ref s.heap.objs.size, rawInt 0, .none, .none] } }) :=
  .of_wp fun prog w A R s h => by
    obtain ⟨hp, g, d, tk, os⟩ := s; obtain ⟨⟨hl, hT⟩, h⟩ := h
    have hsub := sub_enumerate
    wp_walk using wpAny_loadPart' hl
    refine wpAny_stack_any fun st => wpAny_pure ?_
    split
    · rename_i c _ _ _ _ _
      cases (c == Value.type "enumerate")
      · wp_walk using wpAny_loadPart' hl, wpAny_pyIter_tuple hT
        exact ⟨_, rfl, h⟩
      · wp_walk using wpAny_loadPart' hl, wpAny_pyIter_tuple hT
        exact ⟨_, rfl, h⟩
    · wp_walk using wpAny_loadPart' hl, wpAny_pyIter_tuple hT
      exact ⟨_, rfl, h⟩
section
variable {prog : Program} {w : World} {A : Around} {E : Value → Shared → Prop} {s : Shared}
theorem E_call_enumerate_tuple {l : Addr} {items : Array Value} {Q : Value → Shared → Prop} (hT : s.heap.IsTuple l items)
    (h : ∀ h', IsEnum h' (s.heap.objs.size + 1) s.heap.objs.size 0 .none → h'.IsTupleIter s.heap.objs.size l 0 → h'.objs.size = s.heap.objs.size + 2 →
      (∀ b o, s.heap.get? b = some o → h'.get? b = some o) → Q (.ref (s.heap.objs.size + 1)) { s with heap := h' }) :
    wpAny (model prog w) A (call (.type "enumerate") [.ref l]) Q E s := by
  obtain ⟨o, hl, _⟩ := id hT
  refine callType_new F.called_enumerate (by decide) (F.typeCall_enumerate_1 _) (F.newCall_enumerate_1 _) (fun obj => F.args_object_init_2 obj _) F.entry_enumerate_new
    (E_meets_enumerate_newT l items o) ⟨⟨hl, hT⟩, ?_⟩
  have hz : (s.heap.push { cls := .type "tuple_iterator", data := .fields #[.ref l, .int 0 0] }).objs.size = s.heap.objs.size + 1 := Heap.size_push ..
  show _ ∧ _
  rw [hz]
  have he : IsEnum ((s.heap.push { cls := .type "tuple_iterator", data := .fields #[.ref l, .int 0 0] }).push
      { cls := .type "enumerate", data := .fields #[.none, .bool false, .ref s.heap.objs.size, rawInt 0, .none, .none] }) (s.heap.objs.size + 1) s.heap.objs.size 0 .none := by
    have := Heap.get?_push_size (s.heap.push { cls := .type "tuple_iterator", data := .fields #[.ref l, .int 0 0] })
      (o := { cls := .type "enumerate", data := .fields #[.none, .bool false, .ref s.heap.objs.size, rawInt 0, .none, .none] }) rfl
    rw [hz] at this; exact this
  refine ⟨⟨_, he, rfl⟩, h _ he ⟨_, Heap.get?_push_of_some _ (Heap.get?_push_size _ rfl), rfl, rfl⟩ (by rw [Heap.size_push, hz]) fun b o x => Heap.get?_push_of_some _ (Heap.get?_push_of_some _ x)⟩
end
end PySem
namespace E
open PySem PySem.Spec PyProof.Rows L2

/-- a later state -/
structure Lat (G H1 G1 : Hp) : Prop where
  g : Same G G1
  s : Same G1 H1
structure IterOf (T : Tb) (K : PySem.W.Frag) (J : It) (H G : Hp) (l : List D) : Prop where
  go : ∀ i H1 G1, Lat G H1 G1 → i < l.length → J.go i H1
  stop : ∀ i H1 G1, Lat G H1 G1 → l.length = i → J.stop i H1
  yld : ∀ i H1 G1 x H2, Lat G H1 G1 → i < l.length → J.yld i H1 x H2 → ∃ G2 d, Ext H1 G1 H2 G2 ∧ l[i]? = some d ∧ Rep T K G2 d x
abbrev RI (T : Tb) (K : PySem.W.Frag) : Hp → Hp → List D → It → Prop := fun H G l J => IterOf T K J H G l
def SI (X : Cx) (T : Tb) (W : WX) (O : List Nat) (tg it : Expr) (f : Env → Res (List D)) : Prop := PI X tg it fun σ H R => ∃ G0 H0 G e, Rel T X.K O G0 H0 σ H G e ∧ PostG T X.K (RI T X.K) W σ H G (f e) R
theorem PI.weak {X : Cx} {tg it : Expr} {t t' : TI} (h : PI X tg it t) (k : ∀ σ H Q, t' σ H Q → t σ H Q) : PI X tg it t' := ⟨fun pins s σ H Q I q => h.run pins s σ H Q I (k σ H Q q)⟩
section
variable {X : Cx} {T : Tb} {W : WX} {O : List Nat} {σ : L2.St} {H G : Hp} {tg : Expr}
def iAny (K : PySem.W.Frag) (t : TE) : TI := fun σ H R => t σ H fun x H1 => (∃ a, x = .ref a ∧ (∃ xs, SqL K H1 a xs) ∧ R (Itl K a) H1) ∨ (∃ a, x = .ref a ∧ (∃ xs, SqT K H1 a xs) ∧ R (Itt K a) H1) ∨ ∃ z, x = .str z ∧ R (Its z) H1
theorem pi_any {e : Expr} {te : TE} (he : PE X e te) : PI X tg e (iAny X.K te) := by
  refine ⟨fun pins s σ H R I h => ?_⟩
  refine thn (he.run pins s σ H _ I h) fun v s1 ⟨x, H1, I1, r1, q1⟩ => ?_
  rcases q1 with ⟨a, e, ⟨xs, hq⟩, q⟩ | ⟨a, e, ⟨xs, hq⟩, q⟩ | ⟨z, e, q⟩
  · subst e
    cases r1
    obtain ⟨its, rv, p, hz⟩ := I1.list hq
    refine wpAny_pyIter_list p.isList ?_
    refine ⟨s1.heap.objs.size, [s1.heap.objs.size], _, _, H1, rfl, I1.kept (t' := s1.toks) fun b o e => Heap.get?_push_of_some _ e, turn_list a _, ⟨_, Heap.get?_push_size _ rfl, rfl, rfl⟩, fun b hb => ?_, q⟩
    have e : b = s1.heap.objs.size := by simpa using hb
    subst e
    exact I1.fpOk (Nat.le_refl _) (I1.hok.fresh (Nat.le_refl _))
  · subst e
    cases r1
    obtain ⟨its, rv, p, hz⟩ := I1.tuple hq
    refine wpAny_pyIter_tuple (show s1.heap.IsTuple a its.toArray from p) ?_
    refine ⟨s1.heap.objs.size, [s1.heap.objs.size], _, _, H1, rfl, I1.kept (t' := s1.toks) fun b o e => Heap.get?_push_of_some _ e, turn_tuple a _, ⟨_, Heap.get?_push_size _ rfl, rfl, rfl⟩, fun b hb => ?_, q⟩
    have e : b = s1.heap.objs.size := by simpa using hb
    subst e
    exact I1.fpOk (Nat.le_refl _) (I1.hok.fresh (Nat.le_refl _))
  · subst e
    obtain ⟨t, rfl⟩ := r1
    cases ha : z.cps.all (· < 128)
    · exact wpAny_pyIter_wide ha (pi_one (tk := s1.toks) I1 _ (turn_str _ z t "str_iterator" (.inr rfl)) ⟨_, Heap.get?_push_size _ rfl, rfl, rfl⟩ q)
    · exact wpAny_pyIter_ascii ha (pi_one (tk := s1.toks) I1 _ (turn_str _ z t "str_ascii_iterator" (.inl rfl)) ⟨_, Heap.get?_push_size _ rfl, rfl, rfl⟩ q)
theorem sqL_uniq_R {a : Addr} {xs ys : List V} (h : G a = some (.lst xs)) (s : Same G H) (hy : SqL X.K H a ys) (hk : X.K.lookup a = none) : ys = xs := by
  rcases hy with (hy | ⟨o, hy⟩) | ⟨o, its, n, hy, _⟩
  · rw [s _ _ h] at hy; cases hy; rfl
  · rw [s _ _ h] at hy; cases hy
  · rw [hk] at hy; cases hy
theorem iter_list {a : Addr} {xs : List V} {l : List D} (hl : G a = some (.lst xs)) (r : RepL T X.K G l xs) : IterOf T X.K (Itl X.K a) H G l where
  go := fun i H1 G1 x hi => by
    have hlt : i < xs.length := by rw [← r.length]; exact hi
    exact ⟨xs, xs[i], SqL.of (x.s _ _ (x.g _ _ hl)), List.getElem?_eq_getElem hlt⟩
  stop := fun i H1 G1 x hi => ⟨xs, SqL.of (x.s _ _ (x.g _ _ hl)), by rw [← r.length]; omega⟩
  yld := fun i H1 G1 v H2 x hi ⟨e, hy⟩ => by
    subst e
    obtain ⟨w, h1, h2⟩ := r.get (List.getElem?_eq_getElem hi)
    have := hy xs (SqL.of (x.s _ _ (x.g _ _ hl)))
    rw [this] at h1
    cases h1
    exact ⟨G1, _, .refl x.s, List.getElem?_eq_getElem hi, h2.mono x.g⟩
theorem iter_tup {a : Addr} {xs : List V} {l : List D} (hl : SqT X.K G a xs) (r : RepL T X.K G l xs) : IterOf T X.K (Itt X.K a) H G l where
  go := fun i H1 G1 x hi => by
    have hlt : i < xs.length := by rw [← r.length]; exact hi
    exact ⟨xs, xs[i], Same.sqt x.s (Same.sqt x.g hl), List.getElem?_eq_getElem hlt⟩
  stop := fun i H1 G1 x hi => ⟨xs, Same.sqt x.s (Same.sqt x.g hl), by rw [← r.length]; omega⟩
  yld := fun i H1 G1 v H2 x hi ⟨e, hy⟩ => by
    subst e
    obtain ⟨w, h1, h2⟩ := r.get (List.getElem?_eq_getElem hi)
    have := hy xs (Same.sqt x.s (Same.sqt x.g hl))
    rw [this] at h1
    cases h1
    exact ⟨G1, _, .refl x.s, List.getElem?_eq_getElem hi, h2.mono x.g⟩
theorem iter_scr {a : Addr} {l : List Int} (s : Same G H) (hl : SqL X.K G a (l.map V.int)) : IterOf T X.K (Itl X.K a) H G (l.map D.int) where
  go := fun i H1 G1 x hi => ⟨_, .int l[i]!, Same.seq x.s (Same.seq x.g hl), by
    have hlt : i < l.length := by simpa using hi
    simp [hlt]⟩
  stop := fun i H1 G1 x hi => ⟨_, Same.seq x.s (Same.seq x.g hl), by rw [← hi]; simp⟩
  yld := fun i H1 G1 v H2 x hi ⟨e, hy⟩ => by
    subst e
    have hlt : i < l.length := by simpa using hi
    have := hy _ (Same.seq x.s (Same.seq x.g hl))
    simp [hlt] at this
    subst this
    exact ⟨G1, .int l[i], .refl x.s, by simp [hlt], by simp⟩
theorem iter_str {a : List Nat} : IterOf T X.K (Its (txt a)) H G (a.map fun c => D.str [c]) where
  go := fun i H1 G1 x hi => by
    show i < (txt a).cps.size
    rw [show (txt a).cps.size = a.length from txt_len a]
    simpa using hi
  stop := fun i H1 G1 x hi => by
    show (txt a).cps.size ≤ i
    rw [show (txt a).cps.size = a.length from txt_len a, ← hi]
    simp
  yld := fun i H1 G1 v H2 x hi ⟨e, c, hc, hv⟩ => by
    subst e hv
    have hlt : i < a.length := by simpa using hi
    have hc' : a[i]? = some c := by
      rw [← hc, ← Array.getElem?_toList, txt_list]
    exact ⟨G1, .str [c], .refl x.s, by simp [hc'], by simp [txt]⟩
theorem si_any {it : Expr} {f : Env → Res D} (h : SE X T W O it f) : SI X T W O tg it (fun e => (f e).bd fun x => om (items x) .ok) :=
  PI.weak (pi_any h) fun σ H R ⟨G0, H0, G, e, rl, p⟩ => ⟨G0, H0, G, e, rl, p.bind fun x v H1 G1 x1 r1 p1 => by
    have s1 := (rl.ext x1).sub
    obtain ⟨l, hl, p1⟩ := pmat p1
    cases x <;> first | (cases hl; done) | skip
    · cases hl
      exact .inr (.inr ⟨_, r1.str, p1.ok s1 iter_str⟩)
    · cases hl
      obtain ⟨a, xs, rfl, h1, r2⟩ := r1.tup
      exact .inr (.inl ⟨a, rfl, ⟨xs, Same.sqt s1 h1⟩, p1.ok s1 (iter_tup h1 r2)⟩)
    · cases hl
      obtain ⟨a, xs, rfl, h1, r2⟩ := r1.lst
      exact .inl ⟨a, rfl, ⟨xs, SqL.of (s1 _ _ h1)⟩, p1.ok s1 (iter_list h1 r2)⟩
    · cases hl
      obtain ⟨a, rfl, h1⟩ := r1.scr
      exact .inl ⟨a, rfl, ⟨_, Same.seq s1 h1⟩, p1.ok s1 (iter_scr s1 h1)⟩⟩
theorem iter_rng {lo : Int} {n : Nat} {l : List D} (hl : l.length = n) (hi : ∀ i, i < n → l[i]? = some (.int (lo + (i : Nat)))) : IterOf T X.K (Itr lo n) H G l where
  go := fun i H1 G1 x h => by rw [hl] at h; exact h
  stop := fun i H1 G1 x h => by rw [hl] at h; exact Nat.le_of_eq h
  yld := fun i H1 G1 v H2 x h ⟨e, hv⟩ => by
    subst e hv
    rw [hl] at h
    exact ⟨G1, _, .refl x.s, hi i h, by simp⟩
theorem range_len (a b : Int) : (rangeD a b).length = (b - a).toNat := by simp [rangeD]
theorem range_get (a b : Int) {i : Nat} (h : i < (b - a).toNat) : (rangeD a b)[i]? = some (.int (a + (i : Nat))) := by simp [rangeD, h]
theorem si_rng1 {a : Expr} {fa : Env → Res D} {p pos : Pos} (hg : Gl X "range") (hm : X.mg "range" = none) (hn : noStar a = true) (ha : SR X T W O a fa) : SI X T W O tg (.Call (.Name "range" p) [a] [] pos) (fun e => ((fa e).bd fun x => biF .rng1 [x]).bd fun x => om (items x) .ok) :=
  PI.weak (pi_range1 hg hm (pa_one hn ha) (star_cons hn)) fun σ H R ⟨G0, H0, G, e, rl, p⟩ => ⟨G0, H0, G, e, rl, by
    simp only [bd_bd] at p
    exact p.bind fun x v H1 G1 x1 r1 p1 => by
      cases x <;> try exact False.elim p1
      obtain ⟨hl, p2⟩ := pifb p1
      rw [r1.int]
      exact ⟨_, rfl, by omega, by omega, p2.ok (rl.ext x1).sub (iter_rng (by simp [range_len]) fun i hi => range_get _ _ (by simpa using hi))⟩⟩
theorem si_rng2 {a b : Expr} {fa fb : Env → Res D} {p pos : Pos} (hg : Gl X "range") (hm : X.mg "range" = none) (hn : noStar a = true) (hn2 : noStar b = true) (ha : SR X T W O a fa) (hb : SR X T W O b fb) :
    SI X T W O tg (.Call (.Name "range" p) [a, b] [] pos) (fun e => ((fa e).bd fun x => (fb e).bd fun y => biF .rng2 [x, y]).bd fun x => om (items x) .ok) :=
  PI.weak (pi_range2 hg hm (pa_two hn hn2 ha hb) (by rw [star_cons hn, star_cons hn2]; rfl) (star_cons hn2)) fun σ H R ⟨G0, H0, G, e, rl, p⟩ => ⟨G0, H0, G, e, rl, by
    simp only [bd_bd] at p
    exact p.bind fun x v H1 G1 x1 r1 p1 => ⟨G0, H0, G1, e, rl.ext x1, by
      exact p1.bind fun y w H2 G2 x2 r2 p2 => by
        cases x <;> cases y <;> try exact False.elim p2
        obtain ⟨hl, p3⟩ := pifb p2
        rw [r1.int, r2.int]
        exact ⟨_, _, rfl, by omega, p3.ok ((rl.ext x1).ext x2).sub (iter_rng (range_len _ _) fun i hi => range_get _ _ hi)⟩⟩⟩
/-! ### enumerate -/
theorem enum_get : ∀ (l : List D) (k : Int) (i : Nat) (d : D), l[i]? = some d → (enumD l k)[i]? = some (.tup [.int (k + (i : Nat)), d])
  | [], _, _, _, h => by simp at h
  | x :: r, k, 0, d, h => by
    have e : x = d := by simpa using h
    subst e
    simp [enumD]
  | x :: r, k, i + 1, d, h => by
    have := enum_get r (k + 1) i d (by simpa using h)
    simp only [enumD, List.getElem?_cons_succ, this]
    congr 4
    omega
theorem enum_len : ∀ (l : List D) (k : Int), (enumD l k).length = l.length
  | [], _ => rfl
  | _ :: r, k => by simp [enumD, enum_len r]
theorem pair_ext {p : Addr} {i : Int} {d : D} {v : V} {H1 G1 : Hp} (s : Same G1 H1) (hp : H1 p = none) (r : Rep T X.K G1 d v) : Ext H1 G1 (upd H1 p (.tup [.int i, v])) (upd G1 p (.tup [.int i, v])) ∧ Rep T X.K (upd G1 p (.tup [.int i, v])) (.tup [.int i, d]) (.ref p) :=
  ⟨Ext.new s hp, Rep.mk_tup (SqT.of upd_same) (.cons (by simp) (.cons (r.mono (same_new (Same.none s hp))) .nil))⟩
theorem iter_enumL {a : Addr} {xs : List V} {l : List D} (hl : G a = some (.lst xs)) (r : RepL T X.K G l xs) : IterOf T X.K (Ite X.K a) H G (enumD l 0) where
  go := fun i H1 G1 x hi => by
    rw [enum_len] at hi
    have hlt : i < xs.length := by rw [← r.length]; exact hi
    exact ⟨xs, xs[i], SqL.of (x.s _ _ (x.g _ _ hl)), List.getElem?_eq_getElem hlt⟩
  stop := fun i H1 G1 x hi => ⟨xs, SqL.of (x.s _ _ (x.g _ _ hl)), by rw [enum_len] at hi; rw [← r.length]; omega⟩
  yld := fun i H1 G1 v H2 x hi ⟨p, w, e1, hp, e2, hy⟩ => by
    subst e1 e2
    rw [enum_len] at hi
    obtain ⟨u, h1, h2⟩ := r.get (List.getElem?_eq_getElem hi)
    have := hy xs (SqL.of (x.s _ _ (x.g _ _ hl)))
    rw [this] at h1
    cases h1
    obtain ⟨q1, q2⟩ := pair_ext (X := X) (i := (i : Nat)) x.s hp (h2.mono x.g)
    exact ⟨_, _, q1, by rw [enum_get _ _ _ _ (List.getElem?_eq_getElem hi)]; simp, q2⟩
/-- enumerate of a tuple -/
def IteT (K : PySem.W.Frag) (a : Addr) : It :=
  ⟨fun i H => ∃ (xs : List V) (x : V), SqT K H a xs ∧ xs[i]? = some x, fun i H v H' => ∃ T x, v = .ref T ∧ H T = none ∧ H' = upd H T (.tup [.int (i : Nat), x]) ∧ ∀ xs, SqT K H a xs → xs[i]? = some x, fun i H => ∃ xs : List V, SqT K H a xs ∧ xs.length = i⟩
theorem turn_enumT {P : Program} {w : World} {K : PySem.W.Frag} {elts : List Expr} {kk : Nat} {tpos : Pos} (a e it : Addr) :
    Turn P w K (.Tuple elts kk tpos) (IteT K a) [e, it] e (fun i h => (∃ old, IsEnum h e it ((i : Nat) : Int) old) ∧ h.IsTupleIter it a i ∧ e ≠ it) where
  mem := by simp
  obj := fun i h st b hb => by
    obtain ⟨⟨old, he⟩, ⟨o, ho, hc, hd⟩, _⟩ := st
    have e' : b = e ∨ b = it := by simpa using hb
    rcases e' with z | z
    · rw [z]; exact ⟨_, he, fun v q => nomatch q⟩
    · rw [z]; exact ⟨o, ho, fun v q => by rw [hd] at q; cases q⟩
  keep := fun i h h' st k => let ⟨⟨old, he⟩, hi, hne⟩ := st; ⟨⟨old, k e (by simp) _ he⟩, hi.at fun o q => k it (by simp) o q, hne⟩
  item := by
    intro X hP hw hK hc i pins s σ H E I hf st hg
    subst hP hw hK
    obtain ⟨⟨old, he⟩, hit, hne⟩ := st
    obtain ⟨xs, x, hq, hx⟩ := hg
    obtain ⟨its, rv, p, hz⟩ := I.tuple hq
    have p : s.heap.IsTuple a its.toArray := p
    obtain ⟨oa, hoa, hca, na, hda⟩ := id p
    have hae : a ≠ e := fun z => by
      subst z
      rw [he] at hoa
      cases hoa
      simp at hca
    have hai : a ≠ it := fun z => by
      subst z
      obtain ⟨o, ho, hc2, _⟩ := hit
      rw [hoa] at ho
      cases ho
      rw [hca] at hc2
      simp at hc2
    have hlt : i < its.toArray.size := by
      have := rv.length
      have h2 := (List.getElem?_eq_some_iff.mp hx).1
      simp
      omega
    have hel : e < s.heap.objs.size := Heap.lt_size he
    have hil : it < s.heap.objs.size := by obtain ⟨_, q, _⟩ := hit; exact Heap.lt_size q
    have hal : a < s.heap.objs.size := Heap.lt_size hoa
    refine wpAny_pyNext_enum_itemD (Draws.tuple (prog := X.prog) (w := X.w) (A := X.A.in1) (I.ok.hd hc) it a hai its.toArray) he ⟨hit, p⟩ hlt hne (by simp [hne, Ne.symm hae]) fun u h' tk hu ho hit' hT hsz hk => ?_
    have ru : RelV x u := by
      obtain ⟨u', hu', ru⟩ := rv.get hx
      have : its.toArray[i]? = some u := hu
      rw [List.getElem?_toArray, hu'] at this
      cases this
      exact ru
    refine ⟨_, rfl, wpAny_letOwnedTupleGo_enum (s := { s with heap := h', toks := tk + 1 }) ho fun h'' he' sb => ?_⟩
    have hT2 : h''.get? s.heap.objs.size = some { cls := .type "tuple", data := .seq #[.int i tk, u] } := (sb.2 _ (Nat.ne_of_gt hel)).trans hT
    have new : ObjOk X.prog X.w (upd H s.heap.objs.size (.tup [.int (i : Nat), x])) h'' s.heap.objs.size (.tup [.int (i : Nat), x]) :=
      ⟨by show 2 ≤ sizeLine; decide, [.int i tk, u], .cons ⟨_, rfl⟩ (.cons ru .nil), ⟨_, hT2, rfl, _, rfl⟩⟩
    have I1 : Inv X pins σ (upd H s.heap.objs.size (.tup [.int (i : Nat), x])) { s with heap := h'', toks := tk + 1 } :=
      I.turnedNew (ch := [e, it]) (fun b ob hb q => (sb.2 b (fun z => hb (by simp [z]))).trans (hk b ob (fun z => hb (by simp [z])) (fun z => hb (by simp [z])) q)) hf (Nat.le_refl _) new
    refine ⟨.ref s.heap.objs.size, _, I1, rfl, ⟨_, x, rfl, I.hok.fresh (Nat.le_refl _), rfl, fun ys hy => by rw [I.tuple_inj hy hq]; exact hx⟩, ⟨⟨u, ?_⟩, hit'.1.at fun o q => (sb.2 it (Ne.symm hne)).trans q, hne⟩, fun b hb => ?_⟩
    · have e1 : ((i + 1 : Nat) : Int) = (i : Int) + 1 := by omega
      rw [e1]; exact he'
    · have hb' : b < s.heap.objs.size := by
        have e' : b = e ∨ b = it := by simpa using hb
        rcases e' with z | z
        · rw [z]; exact hel
        · rw [z]; exact hil
      rw [upd_ne (Nat.ne_of_lt hb')]
      exact (hf b hb).1
  done := by
    intro X hP hw hK hc i pins s σ H E I hf st hg
    subst hP hw hK
    obtain ⟨⟨old, he⟩, hit, hne⟩ := st
    obtain ⟨xs, hq, hx⟩ := hg
    obtain ⟨its, rv, p, hz⟩ := I.tuple hq
    have p : s.heap.IsTuple a its.toArray := p
    obtain ⟨oa, hoa, hca, na, hda⟩ := id p
    have hai : a ≠ it := fun z => by
      subst z
      obtain ⟨o, ho, hc2, _⟩ := hit
      rw [hoa] at ho
      cases ho
      rw [hca] at hc2
      simp at hc2
    obtain ⟨f0, f1, f2, f3, f4, f5⟩ := hf it (by simp)
    have hae : a ≠ e := fun z => by
      subst z
      rw [he] at hoa
      cases hoa
      simp at hca
    have hl := rv.length
    have e1 : its.toArray.size = i := by simp; omega
    exact wpAny_pyNext_enum_endD (Draws.tuple (prog := X.prog) (w := X.w) (A := X.A.in1) (I.ok.hd hc) it a hai its.toArray) he (by rw [e1]; exact ⟨hit, p⟩) fun h' eb => ⟨rfl, I.turned (t' := s.toks) (fun b o hb q => eb b o hb q) f0 f1 f3 f4 f5⟩
  self := fun A i s Q E st h => let ⟨⟨_, he⟩, _⟩ := st; wpAny_pyIter_enum he h
/-- enumerate of a text -/
def IteS (z : Str) : It :=
  ⟨fun i _ => i < z.cps.size, fun i H v H' => ∃ T c, v = .ref T ∧ H T = none ∧ H' = upd H T (.tup [.int (i : Nat), .str ⟨#[c]⟩]) ∧ z.cps[i]? = some c, fun i _ => z.cps.size = i⟩
theorem turn_enumS {P : Program} {w : World} {K : PySem.W.Frag} {elts : List Expr} {kk : Nat} {tpos : Pos} (z : Str) (t : Tok) (e it : Addr) :
    Turn P w K (.Tuple elts kk tpos) (IteS z) [e, it] e (fun i h => (∃ old, IsEnum h e it ((i : Nat) : Int) old) ∧ h.IsStrIter it (strIterType z) z t i ∧ e ≠ it) where
  mem := by simp
  obj := fun i h st b hb => by
    obtain ⟨⟨old, he⟩, ⟨o, ho, hc, hd⟩, _⟩ := st
    have e' : b = e ∨ b = it := by simpa using hb
    rcases e' with z | z
    · rw [z]; exact ⟨_, he, fun v q => nomatch q⟩
    · rw [z]; exact ⟨o, ho, fun v q => by rw [hd] at q; cases q⟩
  keep := fun i h h' st k => let ⟨⟨old, he⟩, ⟨o, ho, r⟩, hne⟩ := st; ⟨⟨old, k e (by simp) _ he⟩, ⟨o, k it (by simp) o ho, r⟩, hne⟩
  item := by
    intro X hP hw hK hc i pins s σ H E I hf st hg
    subst hP hw hK
    obtain ⟨⟨old, he⟩, hit, hne⟩ := st
    have hlt : i < z.cps.size := hg
    have hel : e < s.heap.objs.size := Heap.lt_size he
    have hil : it < s.heap.objs.size := by obtain ⟨_, q, _⟩ := hit; exact Heap.lt_size q
    refine wpAny_pyNext_enum_itemD (Draws.text (prog := X.prog) (w := X.w) (A := X.A.in1) (I.ok.hd hc) it z t) he hit hlt hne (by simp [hne]) fun u h' tk hu ho hit' hT hsz hk => ?_
    obtain ⟨c, tc, hcz, rfl⟩ := hu
    refine ⟨_, rfl, wpAny_letOwnedTupleGo_enum (s := { s with heap := h', toks := tk + 1 }) ho fun h'' he' sb => ?_⟩
    have hT2 : h''.get? s.heap.objs.size = some { cls := .type "tuple", data := .seq #[.int i tk, .str ⟨#[c]⟩ tc] } := (sb.2 _ (Nat.ne_of_gt hel)).trans hT
    have new : ObjOk X.prog X.w (upd H s.heap.objs.size (.tup [.int (i : Nat), .str ⟨#[c]⟩])) h'' s.heap.objs.size (.tup [.int (i : Nat), .str ⟨#[c]⟩]) :=
      ⟨by show 2 ≤ sizeLine; decide, [.int i tk, .str ⟨#[c]⟩ tc], .cons ⟨_, rfl⟩ (.cons ⟨_, rfl⟩ .nil), ⟨_, hT2, rfl, _, rfl⟩⟩
    have I1 : Inv X pins σ (upd H s.heap.objs.size (.tup [.int (i : Nat), .str ⟨#[c]⟩])) { s with heap := h'', toks := tk + 1 } :=
      I.turnedNew (ch := [e, it]) (fun b ob hb q => (sb.2 b (fun z => hb (by simp [z]))).trans (hk b ob (fun z => hb (by simp [z])) (fun z => hb (by simp [z])) q)) hf (Nat.le_refl _) new
    refine ⟨.ref s.heap.objs.size, _, I1, rfl, ⟨_, c, rfl, I.hok.fresh (Nat.le_refl _), rfl, hcz⟩, ⟨⟨.str ⟨#[c]⟩ tc, ?_⟩, ?_, hne⟩, fun b hb => ?_⟩
    · have e1 : ((i + 1 : Nat) : Int) = (i : Int) + 1 := by omega
      rw [e1]; exact he'
    · obtain ⟨o, ho, r⟩ := hit'
      exact ⟨o, (sb.2 it (Ne.symm hne)).trans ho, r⟩
    · have hb' : b < s.heap.objs.size := by
        have e' : b = e ∨ b = it := by simpa using hb
        rcases e' with z | z
        · rw [z]; exact hel
        · rw [z]; exact hil
      rw [upd_ne (Nat.ne_of_lt hb')]
      exact (hf b hb).1
  done := by
    intro X hP hw hK hc i pins s σ H E I hf st hg
    subst hP hw hK
    obtain ⟨⟨old, he⟩, hit, hne⟩ := st
    obtain ⟨f0, f1, f2, f3, f4, f5⟩ := hf it (by simp)
    have e1 : z.cps.size = i := hg
    exact wpAny_pyNext_enum_endD (Draws.text (prog := X.prog) (w := X.w) (A := X.A.in1) (I.ok.hd hc) it z t) he (by rw [e1]; exact hit) fun h' eb => ⟨rfl, I.turned (t' := s.toks) (fun b o hb q => eb b o hb q) f0 f1 f3 f4 f5⟩
  self := fun A i s Q E st h => let ⟨⟨_, he⟩, _⟩ := st; wpAny_pyIter_enum he h
def iEnumA (K : PySem.W.Frag) (ta : TA) : TI := fun σ H R => ta σ H fun vs H1 => ∃ v, vs = [v] ∧ ((∃ a xs, v = .ref a ∧ SqL K H1 a xs ∧ R (Ite K a) H1) ∨ (∃ a xs, v = .ref a ∧ SqT K H1 a xs ∧ R (IteT K a) H1) ∨ ∃ z, v = .str z ∧ R (IteS z) H1)
theorem pi_enumA {e : Expr} {ta : TA} {p pos tpos : Pos} {elts : List Expr} {kk : Nat} (hg : Gl X "enumerate") (hm : X.mg "enumerate" = none) (ha : PA X [e] ta) (hs : starEach [e] X.env = [(false, eval e X.env)]) :
    PI X (.Tuple elts kk tpos) (.Call (.Name "enumerate" p) [e] [] pos) (iEnumA X.K ta) := by
  refine ⟨fun pins s σ H R I h => ?_⟩
  refine Call_ (ld_blt I hg hm boot_enumerate (PyProof.Rows.callWith_type1 (thn (ha.run pos pins s σ H _ I h) fun us s1 ⟨vs, H1, I1, r1, q1⟩ => ?_) hs rfl))
  obtain ⟨v, ex, q1⟩ := q1
  subst ex
  cases r1 with
  | cons r rr =>
    cases rr
    have fp : ∀ b ∈ [s1.heap.objs.size + 1, s1.heap.objs.size], FpOk X pins H1 b := fun b hb => by
      have e' : b = s1.heap.objs.size + 1 ∨ b = s1.heap.objs.size := by simpa using hb
      have hle : s1.heap.objs.size ≤ b := by
        rcases e' with z | z
        · rw [z]; exact Nat.le_add_right _ _
        · rw [z]; exact Nat.le_refl _
      exact I1.fpOk hle (I1.hok.fresh hle)
    rcases q1 with ⟨a, xs, e, hq, q⟩ | ⟨a, xs, e, hq, q⟩ | ⟨z, e, q⟩
    · subst e
      cases r
      obtain ⟨its, rv, p', hz⟩ := I1.list hq
      refine call_enumerate_list p'.isList fun h' he hit hsz hk => wpAny_pyIter_enum he ?_
      have I2 : Inv X pins σ H1 { s1 with heap := h' } := I1.kept (t' := s1.toks) hk
      exact ⟨s1.heap.objs.size + 1, [s1.heap.objs.size + 1, s1.heap.objs.size], _, _, H1, rfl, I2, turn_enum a (s1.heap.objs.size + 1) s1.heap.objs.size, ⟨⟨.none, he⟩, hit, Nat.succ_ne_self _⟩, fp, q⟩
    · subst e
      cases r
      obtain ⟨its, rv, p', hz⟩ := I1.tuple hq
      refine E_call_enumerate_tuple (show s1.heap.IsTuple a its.toArray from p') fun h' he hit hsz hk => wpAny_pyIter_enum he ?_
      have I2 : Inv X pins σ H1 { s1 with heap := h' } := I1.kept (t' := s1.toks) hk
      exact ⟨s1.heap.objs.size + 1, [s1.heap.objs.size + 1, s1.heap.objs.size], _, _, H1, rfl, I2, turn_enumT a (s1.heap.objs.size + 1) s1.heap.objs.size, ⟨⟨.none, he⟩, hit, Nat.succ_ne_self _⟩, fp, q⟩
    · subst e
      obtain ⟨t, rfl⟩ := r
      refine call_enumerate_str fun h' he hit hsz hk => wpAny_pyIter_enum he ?_
      have I2 : Inv X pins σ H1 { s1 with heap := h' } := I1.kept (t' := s1.toks) hk
      exact ⟨s1.heap.objs.size + 1, [s1.heap.objs.size + 1, s1.heap.objs.size], _, _, H1, rfl, I2, turn_enumS z t (s1.heap.objs.size + 1) s1.heap.objs.size, ⟨⟨.none, he⟩, hit, Nat.succ_ne_self _⟩, fp, q⟩
theorem iter_enumT {a : Addr} {xs : List V} {l : List D} (hl : SqT X.K G a xs) (r : RepL T X.K G l xs) : IterOf T X.K (IteT X.K a) H G (enumD l 0) where
  go := fun i H1 G1 x hi => by
    rw [enum_len] at hi
    have hlt : i < xs.length := by rw [← r.length]; exact hi
    exact ⟨xs, xs[i], Same.sqt x.s (Same.sqt x.g hl), List.getElem?_eq_getElem hlt⟩
  stop := fun i H1 G1 x hi => ⟨xs, Same.sqt x.s (Same.sqt x.g hl), by rw [enum_len] at hi; rw [← r.length]; omega⟩
  yld := fun i H1 G1 v H2 x hi ⟨p, w, e1, hp, e2, hy⟩ => by
    subst e1 e2
    rw [enum_len] at hi
    obtain ⟨u, h1, h2⟩ := r.get (List.getElem?_eq_getElem hi)
    have := hy xs (Same.sqt x.s (Same.sqt x.g hl))
    rw [this] at h1
    cases h1
    obtain ⟨q1, q2⟩ := pair_ext (X := X) (i := (i : Nat)) x.s hp (h2.mono x.g)
    exact ⟨_, _, q1, by rw [enum_get _ _ _ _ (List.getElem?_eq_getElem hi)]; simp, q2⟩
theorem iter_enumS {a : List Nat} : IterOf T X.K (IteS (txt a)) H G (enumD (a.map fun c => D.str [c]) 0) where
  go := fun i H1 G1 x hi => by
    show i < (txt a).cps.size
    rw [show (txt a).cps.size = a.length from txt_len a]
    rw [enum_len] at hi
    simpa using hi
  stop := fun i H1 G1 x hi => by
    show (txt a).cps.size = i
    rw [show (txt a).cps.size = a.length from txt_len a, ← hi, enum_len]
    simp
  yld := fun i H1 G1 v H2 x hi ⟨p, c, e1, hp, e2, hc⟩ => by
    subst e1 e2
    rw [enum_len] at hi
    have hlt : i < a.length := by simpa using hi
    have hc' : a[i]? = some c := by
      rw [← hc, ← Array.getElem?_toList, txt_list]
    obtain ⟨q1, q2⟩ := pair_ext (T := T) (X := X) (d := .str [c]) (i := (i : Nat)) x.s hp (v := .str ⟨#[c]⟩) (by simp [txt])
    exact ⟨_, _, q1, by rw [enum_get _ _ _ (.str [c]) (by simp [hc'])]; simp, q2⟩
theorem si_enum {elts : List Expr} {kk : Nat} {tpos : Pos} {a : Expr} {fa : Env → Res D} {p pos : Pos} (hg : Gl X "enumerate") (hm : X.mg "enumerate" = none) (hn : noStar a = true) (ha : SE X T W O a fa) :
    SI X T W O (.Tuple elts kk tpos) (.Call (.Name "enumerate" p) [a] [] pos) (fun e => ((fa e).bd fun x => biF .enum [x]).bd fun x => om (items x) .ok) :=
  PI.weak (pi_enumA hg hm (pa_cons ha pa_nil (star_cons hn)) (star_cons hn)) fun σ H R ⟨G0, H0, G, e, rl, p⟩ => ⟨G0, H0, G, e, rl, by
    simp only [bd_bd] at p
    exact p.bind fun x v H1 G1 x1 r1 p1 => by
      have s1 := (rl.ext x1).sub
      have p2 : ∃ l, asList x = some l ∧ PostG T X.K (RI T X.K) W σ H1 G1 (.ok (enumD l 0)) R := by
        cases q : asList x with
        | none => simp only [biF, q] at p1; exact False.elim p1
        | some l => simp only [biF, q] at p1; exact ⟨l, rfl, p1⟩
      obtain ⟨l, hl, p2⟩ := p2
      refine ⟨v, rfl, ?_⟩
      cases x <;> first | (cases hl; done) | skip
      · cases hl
        exact .inr (.inr ⟨_, r1.str, p2.ok s1 iter_enumS⟩)
      · cases hl
        obtain ⟨a, xs, rfl, h1, r2⟩ := r1.tup
        exact .inr (.inl ⟨a, xs, rfl, Same.sqt s1 h1, p2.ok s1 (iter_enumT h1 r2)⟩)
      · cases hl
        obtain ⟨a, xs, rfl, h1, r2⟩ := r1.lst
        exact .inl ⟨a, xs, rfl, SqL.of (s1 _ _ h1), p2.ok s1 (iter_enumL h1 r2)⟩⟩
end
end E

set_option autoImplicit false
set_option linter.all false
set_option Elab.async false
set_option maxRecDepth 100000
/-! E10: targets, list comprehensions. -/
namespace E
open PySem PySem.Spec PyProof.Rows L2

def setV : List Nat → List V → L2.St → L2.St
  | i :: is, v :: vs, σ => setV is vs (σ.set i (some v))
  | _, _, σ => σ
theorem setV_len : ∀ (t : List Nat) (vs : List V) (σ : L2.St), (setV t vs σ).length = σ.length
  | [], _, _ => rfl
  | _ :: _, [], _ => rfl
  | i :: is, v :: vs, σ => by
    show (setV is vs (σ.set i (some v))).length = _
    rw [setV_len is vs]; simp
theorem setV_off : ∀ (t : List Nat) (vs : List V) (σ : L2.St) (j : Nat), j ∉ t → (setV t vs σ)[j]? = σ[j]?
  | [], _, _, _, _ => rfl
  | _ :: _, [], _, _, _ => rfl
  | i :: is, v :: vs, σ, j, h => by
    show (setV is vs (σ.set i (some v)))[j]? = _
    rw [setV_off is vs _ j (fun z => h (List.mem_cons_of_mem _ z)), List.getElem?_set_ne (fun z => h (by rw [z]; exact List.mem_cons_self))]
theorem setV_ext : ∀ (t : List Nat) (vs : List V) (σ σ' : L2.St), vs.length = t.length → σ.length = σ'.length → (∀ j, j ∉ t → σ[j]? = σ'[j]?) → setV t vs σ = setV t vs σ'
  | [], [], σ, σ', _, _, h => by
    show σ = σ'
    exact List.ext_getElem? fun j => h j (by simp)
  | [], _ :: _, _, _, e, _, _ => by simp at e
  | _ :: _, [], _, _, e, _, _ => by simp at e
  | i :: is, v :: vs, σ, σ', e, el, h => by
    refine setV_ext is vs _ _ (by simpa using e) (by simpa using el) fun j hj => ?_
    by_cases hi : i = j
    · subst hi
      by_cases hl : i < σ.length
      · rw [List.getElem?_set_self hl, List.getElem?_set_self (by omega)]
      · rw [List.getElem?_eq_none (by simp; omega), List.getElem?_eq_none (by simp; omega)]
    · rw [List.getElem?_set_ne hi, List.getElem?_set_ne hi]
      exact h j fun z => (List.mem_cons.mp z).elim (fun q => hi q.symm) hj
theorem wipe_len : ∀ (t : List Nat) (σ : L2.St), (wipe σ t).length = σ.length
  | [], _ => rfl
  | i :: t, σ => by simp [wipe, wipe_len t σ]
theorem wipe_off : ∀ (t : List Nat) (σ : L2.St) (j : Nat), j ∉ t → (wipe σ t)[j]? = σ[j]?
  | [], _, _, _ => rfl
  | i :: t, σ, j, h => by
    show ((wipe σ t).set i none)[j]? = _
    rw [List.getElem?_set_ne (fun z => h (by rw [z]; exact List.mem_cons_self)), wipe_off t σ j fun z => h (List.mem_cons_of_mem _ z)]
theorem wipe_in : ∀ (t : List Nat) (σ : L2.St) (j : Nat), j ∈ t → (wipe σ t)[j]? = if j < σ.length then some none else none
  | [], _, _, h => by simp at h
  | i :: t, σ, j, h => by
    show ((wipe σ t).set i none)[j]? = _
    by_cases hi : i = j
    · subst hi
      by_cases hl : i < σ.length
      · rw [List.getElem?_set_self (by rw [wipe_len]; exact hl), if_pos hl]
      · rw [List.getElem?_eq_none (by simp [wipe_len]; omega), if_neg hl]
    · rw [List.getElem?_set_ne hi]
      exact wipe_in t σ j ((List.mem_cons.mp h).elim (fun q => absurd q.symm hi) id)
theorem wipe_eq (t : List Nat) (σ σ' : L2.St) (el : σ.length = σ'.length) (h : ∀ j, j ∉ t → σ[j]? = σ'[j]?) : wipe σ t = wipe σ' t := by
  refine List.ext_getElem? fun j => ?_
  by_cases hj : j ∈ t
  · rw [wipe_in t σ j hj, wipe_in t σ' j hj, el]
  · rw [wipe_off t σ j hj, wipe_off t σ' j hj, h j hj]
theorem wipe_set (t : List Nat) (vs : List V) (σ : L2.St) : wipe (setV t vs (wipe σ t)) t = wipe σ t :=
  wipe_eq t _ _ (by rw [setV_len, wipe_len]) fun j hj => by rw [setV_off t vs _ j hj, wipe_off t σ j hj]
section
variable {T : Tb} {K : PySem.W.Frag} {O : List Nat} {G0 H0 : Hp} {σ : L2.St} {H G : Hp} {e : Env}
theorem Rel.set1 {i : Nat} {d : D} {v : V} (r : Rel T K O G0 H0 σ H G e) (rv : Rep T K G d v) (hi : i ∉ O) (hp : i ∉ T.pr) : Rel T K O G0 H0 (σ.set i (some v)) H G (e.set i (some d)) where
  x := r.x
  s0 := r.s0
  z := r.z
  ze := T.zs (fun j hj => by
    have hij : i ≠ j := fun z => hp (z ▸ hj)
    exact ⟨List.getElem?_set_ne hij, List.getElem?_set_ne hij⟩) r.ze
  po := r.po
  len := by simpa using r.len
  val := fun j d' hj ho => by
    by_cases hij : i = j
    · subst hij
      by_cases hl : i < e.length
      · rw [List.getElem?_set_self hl] at hj
        cases hj
        exact ⟨v, List.getElem?_set_self (by rw [r.len]; exact hl), rv⟩
      · rw [List.getElem?_eq_none (by simp; omega)] at hj
        cases hj
    · rw [List.getElem?_set_ne hij] at hj ⊢
      exact r.val j d' hj ho
  own := fun j hj => by
    have hij : i ≠ j := fun z => hi (by rw [z]; exact hj)
    rw [List.getElem?_set_ne hij, List.getElem?_set_ne hij]
    exact r.own j hj
  dis := fun j hj k hk hjk p q h1 h2 => by
    have hij : i ≠ j := fun z => hi (by rw [z]; exact hj)
    have hik : i ≠ k := fun z => hi (by rw [z]; exact hk)
    rw [List.getElem?_set_ne hij] at h1
    rw [List.getElem?_set_ne hik] at h2
    exact r.dis j hj k hk hjk p q h1 h2
theorem Rel.setAll : ∀ {t : List Nat} {ds : List D} {vs : List V} {σ : L2.St} {e e' : Env}, Rel T K O G0 H0 σ H G e → RepL T K G ds vs → E.setAll t ds e = some e' → (∀ i ∈ t, i ∉ O ∧ i ∉ T.pr) → Rel T K O G0 H0 (setV t vs σ) H G e'
  | [], [], _, _, _, _, r, rv, h, _ => by cases h; rw [rv.nil_inv]; exact r
  | [], _ :: _, _, _, _, _, _, _, h, _ => by cases h
  | _ :: _, [], _, _, _, _, _, _, h, _ => by cases h
  | i :: is, d :: ds, _, σ, e, e', r, rv, h, ho => by
    obtain ⟨v, vs, rfl, h1, h2⟩ := rv.cons_inv
    show Rel T K O G0 H0 (setV is vs (σ.set i (some v))) H G e'
    exact Rel.setAll (r.set1 h1 (ho i List.mem_cons_self).1 (ho i List.mem_cons_self).2) h2 h fun j hj => ho j (List.mem_cons_of_mem _ hj)
theorem setAll_len : ∀ {t : List Nat} {ds : List D} {e e' : Env}, E.setAll t ds e = some e' → ds.length = t.length
  | [], [], _, _, _ => rfl
  | [], _ :: _, _, _, h => by cases h
  | _ :: _, [], _, _, h => by cases h
  | i :: is, d :: ds, e, e', h => by simp [setAll_len (t := is) (ds := ds) h]
end
/-- the store of a value into the target -/
def gA (K : PySem.W.Frag) (t : List Nat) (one : Bool) : TG := fun v σ H Q => if one = true then Q (setV t [v] σ) H else ∃ a xs, v = .ref a ∧ (SqT K H a xs ∨ SqL K H a xs) ∧ xs.length = t.length ∧ Q (setV t xs σ) H
section
variable {X : Cx} {T : Tb} {W : WX} {O : List Nat} {σ : L2.St} {H G : Hp}
theorem asg_ok {G0 H0 : Hp} {t : List Nat} {one : Bool} {d : D} {v : V} {e e' : Env} {Q : L2.St → Hp → Prop} (r : Rel T X.K O G0 H0 σ H G e) (rv : Rep T X.K G d v) (h : asg t one d e = some e') (ho : ∀ i ∈ t, i ∉ O ∧ i ∉ T.pr) {σ' : L2.St} (hl : σ'.length = σ.length) (ht : ∀ j, j ∉ t → σ'[j]? = σ[j]?)
    (q : ∀ xs, xs.length = t.length → Rel T X.K O G0 H0 (setV t xs σ') H G e' → Q (setV t xs σ') H) : gA X.K t one v σ' H Q := by
  unfold gA
  unfold asg at h
  by_cases h1 : one = true
  · rw [if_pos h1] at h ⊢
    have hl2 := setAll_len h
    refine q [v] (by simpa using hl2) ?_
    rw [setV_ext t [v] σ' σ (by simpa using hl2) hl ht]
    exact r.setAll (.cons rv .nil) h ho
  · rw [if_neg h1] at h ⊢
    cases d <;> first | (cases h; done) | skip
    · obtain ⟨a, xs, rfl, h2, r2⟩ := rv.tup
      have hl2 := setAll_len h
      refine ⟨a, xs, rfl, .inl (Same.sqt r.sub h2), by rw [← r2.length, hl2], q xs (by rw [← r2.length, hl2]) ?_⟩
      rw [setV_ext t xs σ' σ (by rw [← r2.length, hl2]) hl ht]
      exact r.setAll r2 h ho
    · obtain ⟨a, xs, rfl, h2, r2⟩ := rv.lst
      have hl2 := setAll_len h
      refine ⟨a, xs, rfl, .inr (SqL.of (r.sub _ _ h2)), by rw [← r2.length, hl2], q xs (by rw [← r2.length, hl2]) ?_⟩
      rw [setV_ext t xs σ' σ (by rw [← r2.length, hl2]) hl ht]
      exact r.setAll r2 h ho
/-! ### list comprehension -/
def noW : WX := fun _ _ _ _ => False
theorem post_nox {α β : Type} {R : Hp → Hp → α → β → Prop} {r : Res α} {Q : β → Hp → Prop} (p : PostG T X.K R W σ H G (nox r) Q) : ∃ a, r = .ok a ∧ PostG T X.K R W σ H G (.ok a) Q := by
  cases r with
  | ok a => exact ⟨a, rfl, p⟩
  | err c l => exact False.elim p
  | bad => exact False.elim p
theorem PTs.weak {ifs : List Expr} {t t' : TT} (h : PTs X ifs t) (k : ∀ σ H Q, t' σ H Q → t σ H Q) : PTs X ifs t' := ⟨fun pins s σ H Q I q => h.run pins s σ H Q I (k σ H Q q)⟩
def STs (X : Cx) (T : Tb) (W : WX) (O : List Nat) (ifs : List Expr) (f : Env → Res Bool) : Prop := PTs X ifs (cE X T W O (fun _ => RB) f)
theorem st_nil : STs X T W O [] (fun _ => .ok true) := PTs.weak pts_nil fun σ H Q ⟨G0, H0, G, e, rl, p⟩ => p.ok rl.sub rfl
theorem st_one {c : Expr} {f : Env → Res Bool} (h : SB X T W O c f) : STs X T W O [c] f := pts_one h
theorem lc_key {t : List Nat} {one : Bool} {own : List (Str × Nat)} {fi : Env → Res (List D)} {fc : Env → Res Bool} {fe : Env → Res D} (hown : own.map (·.2) = t) (ho : ∀ i ∈ t, i ∉ O ∧ i ∉ T.pr) {σ : L2.St} {H : Hp} {Q : VK}
    (q0 : cE X T W O (RF T X.K) (fun e => ((fi e).bd fun l => if l.length < LIM then (lcL (fun d => om (asg t one d e) fun e' => (fc e').bd fun k => if k = true then (fe e').bd fun y => .ok (some y) else .ok none) l).bd fun ys => .ok (.lst ys) else .bad).bd onlyL) σ H Q) :
    tLc (fun σ H R => ∃ G0 H0 G e, Rel T X.K O G0 H0 σ H G e ∧ PostG T X.K (RI T X.K) W σ H G (fi e) R) (gA X.K t one) (cE X T noW O (fun _ => RB) fc) (cE X T noW O (fun _ => RV T X.K) fe) (own.map (·.2)) σ H Q := by
  obtain ⟨G0, H0, G, e, rl, p⟩ := q0
  simp only [bd_bd] at p
  refine ⟨G0, H0, G, e, rl, p.bind fun l J H1 G1 x1 it p1 => ?_⟩
  obtain ⟨hlim, p1⟩ := pifb p1
  rw [hown]
  intro D hD
  have rl1 := rl.ext x1
  -- the walk
  refine ⟨fun i m H2 => m = l.length - i ∧ i ≤ l.length ∧ ∃ G2 ys vs, Ext H1 G1 (upd H2 D (.lst vs)) G2 ∧ H2 = upd H2 D (.lst vs) ∧ G2 D = none ∧ RepL T X.K G2 ys vs ∧ vs.length ≤ i ∧
      PostG T X.K (RF T X.K H) W σ H1 G1 ((lcL (fun d => om (asg t one d e) fun e' => (fc e').bd fun k => if k = true then (fe e').bd fun y => .ok (some y) else .ok none) (l.drop i)).bd fun zs => .ok (.lst (ys ++ zs))) Q, ⟨l.length, by simp, Nat.zero_le _, G1, [], [], ?_, ?_, Same.none rl1.sub hD, .nil, Nat.le_refl _, ?_⟩, ?_⟩
  · rw [upd_upd]
    exact Ext.mine rl1.sub hD
  · rw [upd_upd]
  · simpa [onlyL, bd_bd] using p1
  rintro i m H2 ⟨rfl, hi, G2, ys, vs, x2, e2, hG2, ry, hv, p2⟩
  rw [← e2] at x2
  have hH2 : H2 D = some (.lst vs) := by rw [e2]; exact upd_same
  by_cases hlt : i < l.length
  · refine .inr ⟨it.go i _ _ ⟨x2.g, x2.s⟩ hlt, fun H' => ∃ G3 ys' vs', Ext H1 G1 H' G3 ∧ H' D = some (.lst vs') ∧ G3 D = none ∧ RepL T X.K G3 ys' vs' ∧ vs'.length ≤ i + 1 ∧
      PostG T X.K (RF T X.K H) W σ H1 G1 ((lcL (fun d => om (asg t one d e) fun e' => (fc e').bd fun k => if k = true then (fe e').bd fun y => .ok (some y) else .ok none) (l.drop (i + 1))).bd fun zs => .ok (.lst (ys' ++ zs))) Q, ?_, ?_⟩
    · rintro H' ⟨G3, ys', vs', a1, a2, a3, a4, a5, a6⟩
      have e3 : H' = upd H' D (.lst vs') := by
        funext b
        by_cases hb : b = D
        · subst hb; rw [upd_same]; exact a2
        · rw [upd_ne hb]
      exact ⟨l.length - (i + 1), by omega, rfl, hlt, G3, ys', vs', by rw [← e3]; exact a1, e3, a3, a4, a5, a6⟩
    · intro x H' y
      obtain ⟨G3, d, x3, hd, rd⟩ := it.yld i _ _ x H' ⟨x2.g, x2.s⟩ hlt y
      have x23 := x2.trans x3
      have rl3 := rl1.ext x23
      -- the body's value
      have hdrop : l.drop i = d :: l.drop (i + 1) := by
        rw [List.drop_eq_getElem_cons hlt]
        congr 1
        exact (List.getElem?_eq_some_iff.mp hd).2
      rw [hdrop, lcL, bd_bd] at p2
      have p3 : ∃ o, (om (asg t one d e) fun e' => (fc e').bd fun k => if k = true then (fe e').bd fun y => .ok (some y) else .ok none) = .ok o ∧ PostG T X.K (RF T X.K H) W σ H1 G1 ((lcL (fun d => om (asg t one d e) fun e' => (fc e').bd fun k => if k = true then (fe e').bd fun y => .ok (some y) else .ok none) (l.drop (i + 1))).bd fun zs => .ok (.lst ((match o with | some y => ys ++ [y] | none => ys) ++ zs))) Q := by
        cases q : (om (asg t one d e) fun e' => (fc e').bd fun k => if k = true then (fe e').bd fun y => .ok (some y) else .ok none) with
        | err c l => rw [q] at p2; exact False.elim p2
        | bad => rw [q] at p2; exact False.elim p2
        | ok o =>
          rw [q] at p2
          refine ⟨o, rfl, ?_⟩
          simp only [nox, bd_ok, bd_bd] at p2
          cases o with
          | none => simpa using p2
          | some y => simpa using p2
      obtain ⟨o, ho1, p3⟩ := p3
      cases ha : asg t one d e with
      | none => rw [ha] at ho1; cases ho1
      | some e' =>
        rw [ha] at ho1
        simp only [om_some] at ho1
        refine asg_ok (σ := σ) rl3 rd ha ho (by rw [wipe_len]) (fun j hj => wipe_off t σ j hj) fun xs hxs rl4 => ⟨wipe_set t xs σ, G0, H0, G3, e', rl4, ?_⟩
        have hH3 : H' D = some (.lst vs) := x3.h _ _ hH2
        have hG3 : G3 D = none := x3.n D (by rw [hH2]; simp) hG2
        cases qc : fc e' with
        | err c l => rw [qc] at ho1; cases ho1
        | bad => rw [qc] at ho1; cases ho1
        | ok k =>
          rw [qc] at ho1
          simp only [bd_ok] at ho1
          intro b H4 G4 x4 hb
          have hb : b = k := hb
          subst hb
          have rl5 := rl4.ext x4
          cases b with
          | false =>
            rw [if_neg (by simp)]
            rw [if_neg (by simp)] at ho1
            cases ho1
            exact ⟨G4, ys, vs, x23.trans x4, x4.h _ _ hH3, x4.n D (by rw [hH3]; simp) hG3, (ry.mono x3.g).mono x4.g, by omega, p3⟩
          | true =>
            rw [if_pos rfl]
            rw [if_pos rfl] at ho1
            refine ⟨G0, H0, G4, e', rl5, ?_⟩
            cases qe : fe e' with
            | err c l => rw [qe] at ho1; cases ho1
            | bad => rw [qe] at ho1; cases ho1
            | ok y =>
              rw [qe] at ho1
              cases ho1
              intro v H5 G5 x5 rv
              have hH5 : H5 D = some (.lst vs) := x5.h _ _ (x4.h _ _ hH3)
              have hG5 : G5 D = none := x5.n D (by rw [x4.h _ _ hH3]; simp) (x4.n D (by rw [hH3]; simp) hG3)
              have x15 := (x23.trans x4).trans x5
              refine ⟨vs, hH5, by rw [← LIM_eq]; omega, G5, ys ++ [y], vs ++ [v], ?_, upd_same, hG5, (((ry.mono x3.g).mono x4.g).mono x5.g).append (.cons rv .nil), by simp; omega, p3⟩
              exact ⟨fun b o hb => by
                have hbD : b ≠ D := fun z => by subst z; rw [hD] at hb; cases hb
                rw [upd_ne hbD]; exact x15.h _ _ hb, x15.g, fun b o hb => by
                have hbD : b ≠ D := fun z => by subst z; rw [hG5] at hb; cases hb
                rw [upd_ne hbD]; exact x15.s _ _ hb, x15.n⟩
  · have e3 : l.length = i := by omega
    refine .inl ⟨it.stop i _ _ ⟨x2.g, x2.s⟩ e3, ?_⟩
    rw [List.drop_eq_nil_of_le (by omega)] at p2
    simp only [lcL, bd_ok, List.append_nil] at p2
    refine p2 (.ref D) H2 G2 x2 ⟨ys, D, vs, rfl, rfl, hH2, hG2, ?_, ry⟩
    cases q : H D with
    | none => rfl
    | some o => rw [x1.h _ _ q] at hD; cases hD
theorem se_lc {t : List Nat} {one : Bool} {elt tg iter : Expr} {ifs : List Expr} {scope : Scope} {own : List (Str × Nat)} {pos : Pos} {fi : Env → Res (List D)} {fc : Env → Res Bool} {fe : Env → Res D}
    (hc : X.calm = true) (hN : X.N.Nodup) (hi : SI X T W O tg iter fi) (ok : BlkOk X.N X.env.scope scope own) (hown : own.map (·.2) = t) (ho : ∀ i ∈ t, i ∉ O ∧ i ∉ T.pr)
    (hg : ∀ (s : Shared) (H : Hp) (C : Addr) (cl : List (Str × Addr)) (fp : List Addr), PG (X.blk s H scope (compEnvC scope cl C X.env) fp) tg (gA X.K t one))
    (ht : ∀ (s : Shared) (H : Hp) (C : Addr) (cl : List (Str × Addr)) (fp : List Addr), STs (X.blk s H scope (compEnvC scope cl C X.env) fp) T noW O ifs fc)
    (he : ∀ (s : Shared) (H : Hp) (C : Addr) (cl : List (Str × Addr)) (fp : List Addr), SE (X.blk s H scope (compEnvC scope cl C X.env) fp) T noW O elt fe)
    (hs : ∀ x, foldedSetIterable iter X.env x = pure x) :
    SF X T W O (.ListComp elt [⟨tg, iter, ifs, 0⟩] scope pos) (fun e => (fi e).bd fun l => if l.length < LIM then (lcL (fun d => om (asg t one d e) fun e' => (fc e').bd fun k => if k = true then (fe e').bd fun y => .ok (some y) else .ok none) l).bd fun ys => .ok (.lst ys) else .bad) := by
  exact PE.weak (pe_lc (tt := cE X T noW O (fun _ => RB) fc) (te := cE X T noW O (fun _ => RV T X.K) fe) hc hN hi ok hg ht he hs) fun σ H Q q => lc_key hown ho q
end
end E

set_option autoImplicit false
set_option linter.all false
set_option Elab.async false
set_option maxRecDepth 100000
/-! E11: statements. -/
namespace E
open PySem PySem.Spec PyProof.Rows L2

section
variable {T : Tb} {K : PySem.W.Frag} {O O' : List Nat} {G0 H0 : Hp} {σ : L2.St} {H G : Hp} {e : Env}
theorem Rel.memb (r : Rel T K O G0 H0 σ H G e) (h : ∀ i, i ∈ O' ↔ i ∈ O) : Rel T K O' G0 H0 σ H G e where
  x := r.x
  s0 := r.s0
  z := r.z
  ze := r.ze
  po := fun i hi z => r.po i hi ((h i).mp z)
  len := r.len
  val := fun i d h1 h2 => r.val i d h1 fun z => h2 ((h i).mpr z)
  own := fun i hi => r.own i ((h i).mp hi)
  dis := fun i hi j hj => r.dis i ((h i).mp hi) j ((h j).mp hj)
/-- one list is given away -/
theorem Rel.drop1 (i : Nat) (r : Rel T K O G0 H0 σ H G e) : ∃ G', Same G G' ∧ Rel T K (O.filter (· != i)) G0 H0 σ H G' e := by
  have mem : ∀ j, j ∈ O.filter (· != i) ↔ j ∈ O ∧ j ≠ i := fun j => by simp
  by_cases hi : i ∈ O
  · obtain ⟨l, p, xs, h1, h2, h3, h4, h5, h6⟩ := r.own i hi
    have s2 : Same G (upd G p xs) := same_new h4
    refine ⟨_, s2, ⟨r.x.give h5 h3 h4, r.s0, T.zm s2 r.z, r.ze, fun j hj z => r.po j hj ((mem j).mp z).1, r.len, fun j d hj ho => ?_, fun j hj => ?_, fun j hj k hk => r.dis j ((mem j).mp hj).1 k ((mem k).mp hk).1⟩⟩
    · by_cases hij : j = i
      · subst hij
        rw [h1] at hj
        cases hj
        exact ⟨_, h2, (h6.mono s2).rep upd_same⟩
      · obtain ⟨v, q1, q2⟩ := r.val j d hj fun z => ho ((mem j).mpr ⟨z, hij⟩)
        exact ⟨v, q1, q2.mono s2⟩
    · obtain ⟨hj1, hj2⟩ := (mem j).mp hj
      obtain ⟨l2, p2, xs2, q1, q2, q3, q4, q5, q6⟩ := r.own j hj1
      have hne : p2 ≠ p := fun z => r.dis j hj1 i hi hj2 p2 p q2 h2 z
      exact ⟨l2, p2, xs2, q1, q2, q3, by rw [upd_ne hne]; exact q4, q5, q6.mono s2⟩
  · exact ⟨G, Same.refl _, r.memb fun j => by
      rw [mem]
      exact ⟨fun z => z.1, fun z => ⟨z, fun q => hi (q ▸ z)⟩⟩⟩
theorem Rel.drops : ∀ (is : List Nat) {O : List Nat} {G : Hp}, Rel T K O G0 H0 σ H G e → ∃ G', Same G G' ∧ Rel T K (O.filter fun j => !is.contains j) G0 H0 σ H G' e
  | [], O, G, r => ⟨G, Same.refl _, r.memb fun j => by simp⟩
  | i :: is, O, G, r => by
    obtain ⟨G1, s1, r1⟩ := r.drop1 i
    obtain ⟨G2, s2, r2⟩ := Rel.drops is r1
    refine ⟨G2, s1.trans s2, r2.memb fun j => ?_⟩
    simp only [List.mem_filter, List.contains_cons, Bool.not_or, Bool.and_eq_true, bne_iff_ne, ne_eq, Bool.not_eq_true', beq_eq_false_iff_ne]
    exact ⟨fun ⟨a, b, c⟩ => ⟨⟨a, b⟩, c⟩, fun ⟨⟨a, b⟩, c⟩ => ⟨a, b, c⟩⟩
theorem Rel.weaken (r : Rel T K O G0 H0 σ H G e) (h : ∀ i ∈ O', i ∈ O) : ∃ G', Same G G' ∧ Rel T K O' G0 H0 σ H G' e := by
  obtain ⟨G1, s1, r1⟩ := r.drops (O.filter fun j => !O'.contains j)
  refine ⟨G1, s1, r1.memb fun j => ?_⟩
  simp only [List.mem_filter, List.contains_eq_mem, Bool.not_eq_true', decide_eq_false_iff_not, List.mem_filter, not_and, Bool.not_eq_eq_eq_not, Bool.not_true, decide_eq_false_iff_not, Decidable.not_not]
  exact ⟨fun z => ⟨h j z, fun _ => z⟩, fun ⟨a, b⟩ => b a⟩
/-- a new list in a slot -/
theorem Rel.setO {i : Nat} {d0 : D} {p : Addr} {o : HO} (r : Rel T K O G0 H0 σ H G e) (hp : H p = some o) (hg : G p = none) (h0 : H0 p = none) (hd : ∀ j ∈ O, ∀ q, σ[j]? = some (some (.ref q)) → q ≠ p) (rl : OwnO T K G o d0) (hi : i < e.length) (hpr : i ∉ T.pr) :
    ∃ G', Same G G' ∧ Rel T K (i :: O.filter (· != i)) G0 H0 (σ.set i (some (.ref p))) H G' (e.set i (some d0)) := by
  have mem : ∀ j, j ∈ O.filter (· != i) ↔ j ∈ O ∧ j ≠ i := fun j => by simp
  -- the list that stood there is given away
  have key : ∃ G', Same G G' ∧ G' p = none ∧ Rel T K (O.filter (· != i)) G0 H0 σ H G' e := by
    by_cases hio : i ∈ O
    · obtain ⟨l', p', xs', h1, h2, h3, h4, h5, h6⟩ := r.own i hio
      have hne : p' ≠ p := hd i hio p' h2
      have s2 : Same G (upd G p' xs') := same_new h4
      refine ⟨_, s2, by rw [upd_ne (Ne.symm hne)]; exact hg, ⟨r.x.give h5 h3 h4, r.s0, T.zm s2 r.z, r.ze, fun j hj z => r.po j hj ((mem j).mp z).1, r.len, fun j d hj ho => ?_, fun j hj => ?_, fun j hj k hk => r.dis j ((mem j).mp hj).1 k ((mem k).mp hk).1⟩⟩
      · by_cases hij : j = i
        · subst hij
          rw [h1] at hj
          cases hj
          exact ⟨_, h2, (h6.mono s2).rep upd_same⟩
        · obtain ⟨v, q1, q2⟩ := r.val j d hj fun z => ho ((mem j).mpr ⟨z, hij⟩)
          exact ⟨v, q1, q2.mono s2⟩
      · obtain ⟨hj1, hj2⟩ := (mem j).mp hj
        obtain ⟨l2, p2, xs2, q1, q2, q3, q4, q5, q6⟩ := r.own j hj1
        have hne : p2 ≠ p' := fun z => r.dis j hj1 i hio hj2 p2 p' q2 h2 z
        exact ⟨l2, p2, xs2, q1, q2, q3, by rw [upd_ne hne]; exact q4, q5, q6.mono s2⟩
    · exact ⟨G, Same.refl _, hg, r.memb fun j => by
        rw [mem]
        exact ⟨fun z => z.1, fun z => ⟨z, fun q => hio (q ▸ z)⟩⟩⟩
  obtain ⟨G1, s1, g1, r1⟩ := key
  refine ⟨G1, s1, ⟨r1.x, r1.s0, r1.z, T.zs (fun j hj => by
    have hij : i ≠ j := fun z => hpr (z ▸ hj)
    exact ⟨List.getElem?_set_ne hij, List.getElem?_set_ne hij⟩) r1.ze, fun j hj z => (List.mem_cons.mp z).elim (fun q => hpr (q ▸ hj)) (r1.po j hj), by simpa using r1.len, fun j d hj ho => ?_, fun j hj => ?_, fun j hj k hk hjk a b ha hb => ?_⟩⟩
  · have hij : i ≠ j := fun z => ho (by rw [z]; exact List.mem_cons_self)
    rw [List.getElem?_set_ne hij] at hj ⊢
    exact r1.val j d hj fun z => ho (List.mem_cons_of_mem _ z)
  · by_cases hij : i = j
    · subst hij
      exact ⟨d0, p, o, List.getElem?_set_self hi, List.getElem?_set_self (by rw [r.len]; exact hi), hp, g1, h0, rl.mono s1⟩
    · rw [List.getElem?_set_ne hij, List.getElem?_set_ne hij]
      exact r1.own j ((List.mem_cons.mp hj).elim (fun z => absurd z.symm hij) id)
  · have hl : i < σ.length := by rw [r.len]; exact hi
    rcases List.mem_cons.mp hj with z1 | z1
    · subst z1
      rw [List.getElem?_set_self hl] at ha
      cases ha
      have hk' := (List.mem_cons.mp hk).elim (fun z => absurd z.symm hjk) id
      rw [List.getElem?_set_ne hjk] at hb
      exact fun z => hd k ((mem k).mp hk').1 b hb z.symm
    · rcases List.mem_cons.mp hk with z2 | z2
      · subst z2
        rw [List.getElem?_set_self hl] at hb
        cases hb
        rw [List.getElem?_set_ne (Ne.symm hjk)] at ha
        exact hd j ((mem j).mp z1).1 a ha
      · have n1 : i ≠ j := ((mem j).mp z1).2.symm
        have n2 : i ≠ k := ((mem k).mp z2).2.symm
        rw [List.getElem?_set_ne n1] at ha
        rw [List.getElem?_set_ne n2] at hb
        exact r1.dis j z1 k z2 hjk a b ha hb
theorem Rel.setF {i : Nat} {l : List D} {p : Addr} {xs : List V} (r : Rel T K O G0 H0 σ H G e) (hp : H p = some (.lst xs)) (hg : G p = none) (h0 : H0 p = none) (hd : ∀ j ∈ O, ∀ q, σ[j]? = some (some (.ref q)) → q ≠ p) (rl : RepL T K G l xs) (hi : i < e.length) (hpr : i ∉ T.pr) :
    ∃ G', Same G G' ∧ Rel T K (i :: O.filter (· != i)) G0 H0 (σ.set i (some (.ref p))) H G' (e.set i (some (.lst l))) := r.setO hp hg h0 hd ⟨xs, rfl, rl⟩ hi hpr
/-- a kept object is changed -/
theorem Rel.mutO {i : Nat} {d' : D} {p : Addr} {o' : HO} (r : Rel T K O G0 H0 σ H G e) (hi : i ∈ O) (hσ : σ[i]? = some (some (.ref p))) (rl : OwnO T K G o' d') :
    Rel T K O G0 H0 σ (upd H p o') G (e.set i (some d')) := by
  obtain ⟨l, p', xs2, h1, h2, h3, h4, h5, h6⟩ := r.own i hi
  rw [hσ] at h2
  cases h2
  have hie : i < e.length := (List.getElem?_eq_some_iff.mp h1).1
  refine ⟨⟨fun b u q => ?_, r.x.g, fun b u q => ?_, r.x.n⟩, r.s0, r.z, T.zs (fun j hj => by
    have hij : i ≠ j := fun z => r.po i (z ▸ hj) hi
    exact ⟨List.getElem?_set_ne hij, rfl⟩) r.ze, r.po, by simpa using r.len, fun j d hj ho => ?_, fun j hj => ?_, r.dis⟩
  · have hb : b ≠ p := fun z => by rw [z, h5] at q; cases q
    rw [upd_ne hb]
    exact r.x.h _ _ q
  · have hb : b ≠ p := fun z => by rw [z, h4] at q; cases q
    rw [upd_ne hb]
    exact r.sub _ _ q
  · have hij : i ≠ j := fun z => ho (z ▸ hi)
    rw [List.getElem?_set_ne hij] at hj
    exact r.val j d hj ho
  · by_cases hij : i = j
    · subst hij
      exact ⟨d', p, o', List.getElem?_set_self hie, hσ, upd_same, h4, h5, rl⟩
    · rw [List.getElem?_set_ne hij]
      obtain ⟨l2, p2, xs3, q1, q2, q3, q4, q5, q6⟩ := r.own j hj
      have hne : p2 ≠ p := r.dis j hj i hi (Ne.symm hij) p2 p q2 hσ
      exact ⟨l2, p2, xs3, q1, q2, by rw [upd_ne hne]; exact q3, q4, q5, q6⟩
theorem Rel.mut {i : Nat} {l' : List D} {p : Addr} {xs xs' : List V} (r : Rel T K O G0 H0 σ H G e) (hi : i ∈ O) (hσ : σ[i]? = some (some (.ref p))) (hp : H p = some (.lst xs)) (rl : RepL T K G l' xs') :
    Rel T K O G0 H0 σ (upd H p (.lst xs')) G (e.set i (some (.lst l'))) := r.mutO hi hσ ⟨xs', rfl, rl⟩
/-! ### what follows a statement -/
def PostS (T : Tb) (K : PySem.W.Frag) (W : WX) (O' L : List Nat) (G0 H0 Gs : Hp) (D : Ends) : Out → Prop
  | .nx e' => ∀ σ' H' G', Rel T K O' G0 H0 σ' H' G' e' → Same Gs G' → D.nx σ' H'
  | .rt d => ∀ v H' G', Ext H0 G0 H' G' → Rep T K G' d v → D.rt v H'
  | .bk e' => ∀ σ' H' G', Rel T K L G0 H0 σ' H' G' e' → Same Gs G' → D.bk σ' H'
  | .ct e' => ∀ σ' H' G', Rel T K L G0 H0 σ' H' G' e' → Same Gs G' → D.ct σ' H'
  | .ex e' c l => ∀ od σ' H' G', Rel T K [] G0 H0 σ' H' G' e' → Same Gs G' → ExcAt T K G' c l od → W (.ref (T.ca c)) od σ' H'
  | .bad => False
theorem out_bind {Gs : Hp} {α β : Type} {R : Hp → Hp → α → β → Prop} {W : WX} {L : List Nat} {D : Ends} {r : Res α} {f : α → Out} {P : β → Hp → Prop} (rl : Rel T K O G0 H0 σ H G e) (gs : Same Gs G) (p : PostS T K W O' L G0 H0 Gs D (r.out e f))
    (k : ∀ a b H' G', Ext H G H' G' → R H' G' a b → PostS T K W O' L G0 H0 Gs D (f a) → P b H') : PostG T K R W σ H G r P := by
  cases r with
  | ok a => exact fun b H' G' x q => k a b H' G' x q p
  | err c l =>
    intro od H' G' x q
    obtain ⟨G2, s2, r2⟩ := (rl.ext x).weaken (O' := []) (by simp)
    exact p od σ H' G2 r2 ((gs.trans x.g).trans s2) (q.mono s2)
  | bad => exact p
theorem PostS.weak {Gs : Hp} {W : WX} {L O2 : List Nat} {D : Ends} {o : Out} (p : PostS T K W O2 L G0 H0 Gs D o) (h : ∀ i ∈ O2, i ∈ O') : PostS T K W O' L G0 H0 Gs D o := by
  cases o with
  | nx e' =>
    intro σ' H' G' r gs
    obtain ⟨G2, s2, r2⟩ := r.weaken h
    exact p σ' H' G2 r2 (gs.trans s2)
  | rt d => exact p
  | bk e' => exact p
  | ct e' => exact p
  | ex e' c l => exact p
  | bad => exact p
end
def cS (X : Cx) (T : Tb) (W : WX) (O O' L : List Nat) (f : Env → Out) : TS := fun D σ H => ∃ G0 H0 Gs G e, Rel T X.K O G0 H0 σ H G e ∧ Same Gs G ∧ PostS T X.K W O' L G0 H0 Gs D (f e)
def SS (X : Cx) (T : Tb) (W : WX) (O O' L : List Nat) (st : Stmt) (f : Env → Out) : Prop := PS X st (cS X T W O O' L f)
def SSs (X : Cx) (T : Tb) (W : WX) (O O' L : List Nat) (st : List Stmt) (f : Env → Out) : Prop := PSs X st (cS X T W O O' L f)
theorem PS.weak {X : Cx} {st : Stmt} {t t' : TS} (h : PS X st t) (k : ∀ D σ H, t' D σ H → t D σ H) : PS X st t' := ⟨fun pins s σ H D I q => h.run pins s σ H D I (k D σ H q)⟩
theorem PSs.weak {X : Cx} {st : List Stmt} {t t' : TS} (h : PSs X st t) (k : ∀ D σ H, t' D σ H → t D σ H) : PSs X st t' := ⟨fun pins s σ H D I q => h.run pins s σ H D I (k D σ H q)⟩
section
variable {X : Cx} {T : Tb} {W : WX} {O O' O1 O2 L : List Nat}
theorem SSs.out {st : List Stmt} {f : Env → Out} (h : SSs X T W O O1 L st f) (hw : ∀ i ∈ O', i ∈ O1) : SSs X T W O O' L st f := PSs.weak h fun D σ H ⟨G0, H0, Gs, G, e, r, gs, p⟩ => ⟨G0, H0, Gs, G, e, r, gs, p.weak hw⟩
theorem SSs.inn {st : List Stmt} {f : Env → Out} (h : SSs X T W O1 O' L st f) (hw : ∀ i ∈ O1, i ∈ O) : SSs X T W O O' L st f := PSs.weak h fun D σ H ⟨G0, H0, Gs, G, e, r, gs, p⟩ => by
  obtain ⟨G2, s2, r2⟩ := r.weaken hw
  exact ⟨G0, H0, Gs, G2, e, r2, gs.trans s2, p⟩
theorem SS.inn {st : Stmt} {f : Env → Out} (h : SS X T W O1 O' L st f) (hw : ∀ i ∈ O1, i ∈ O) : SS X T W O O' L st f := PS.weak h fun D σ H ⟨G0, H0, Gs, G, e, r, gs, p⟩ => by
  obtain ⟨G2, s2, r2⟩ := r.weaken hw
  exact ⟨G0, H0, Gs, G2, e, r2, gs.trans s2, p⟩
theorem ss_nil : SSs X T W O O L [] .nx := PSs.weak pss_nil fun D σ H ⟨G0, H0, Gs, G, e, r, gs, p⟩ => p σ H G r gs
def seqO (f g : Env → Out) : Env → Out := fun e => match f e with
  | .nx e' => g e'
  | o => o
theorem ss_cons {st : Stmt} {rest : List Stmt} {f g : Env → Out} (h1 : SS X T W O O1 L st f) (h2 : SSs X T W O1 O' L rest g) : SSs X T W O O' L (st :: rest) (seqO f g) :=
  PSs.weak (pss_cons h1 h2) fun D σ H ⟨G0, H0, Gs, G, e, r, gs, p⟩ => by
    refine ⟨G0, H0, Gs, G, e, r, gs, ?_⟩
    unfold seqO at p
    cases q : f e with
    | nx e' =>
      rw [q] at p
      exact fun σ' H' G' r' gs' => ⟨G0, H0, Gs, G', e', r', gs', p⟩
    | rt d => rw [q] at p; exact p
    | bk e' => rw [q] at p; exact p
    | ct e' => rw [q] at p; exact p
    | ex e' c l => rw [q] at p; exact p
    | bad => rw [q] at p; exact p
theorem ss_if {c : Expr} {a b : List Stmt} {pos : Pos} {fc : Env → Res Bool} {fa fb : Env → Out} (hc : SB X T W O c fc) (ha : SSs X T W O O' L a fa) (hb : SSs X T W O O' L b fb) :
    SS X T W O O' L (.If c a b pos) (fun e => (fc e).out e fun k => if k = true then fa e else fb e) :=
  PS.weak (ps_if hc ha hb) fun D σ H ⟨G0, H0, Gs, G, e, r, gs, p⟩ => ⟨G0, H0, G, e, r, out_bind r gs p fun k v H1 G1 x1 r1 p1 => by
    have r1 : v = k := r1
    subst r1
    cases v with
    | true => exact ⟨G0, H0, Gs, G1, e, r.ext x1, gs.trans x1.g, p1⟩
    | false => exact ⟨G0, H0, Gs, G1, e, r.ext x1, gs.trans x1.g, p1⟩⟩
theorem ss_ret {x : Expr} {pos : Pos} {f : Env → Res D} (h : SE X T W O x f) : SS X T W O O' L (.Return (some x) pos) (fun e => (f e).out e .rt) :=
  PS.weak (ps_ret h) fun D σ H ⟨G0, H0, Gs, G, e, r, gs, p⟩ => ⟨G0, H0, G, e, r, out_bind r gs p fun d v H1 G1 x1 r1 p1 => p1 v H1 G1 (r.x.trans x1) r1⟩
theorem ss_retN {pos : Pos} : SS X T W O O' L (.Return none pos) (fun _ => .rt .non) :=
  PS.weak ps_retN fun D σ H ⟨G0, H0, Gs, G, e, r, gs, p⟩ => p .non H G r.x (by simp)
theorem ss_pass {pos : Pos} : SS X T W O O L (.Pass pos) .nx := PS.weak ps_pass fun D σ H ⟨G0, H0, Gs, G, e, r, gs, p⟩ => p σ H G r gs
theorem ss_brk {pos : Pos} (hw : ∀ i ∈ L, i ∈ O) : SS X T W O O' L (.Break pos) .bk := PS.weak ps_break fun D σ H ⟨G0, H0, Gs, G, e, r, gs, p⟩ => by
  obtain ⟨G2, s2, r2⟩ := r.weaken hw
  exact p σ H G2 r2 (gs.trans s2)
theorem ss_cont {pos : Pos} (hw : ∀ i ∈ L, i ∈ O) : SS X T W O O' L (.Continue pos) .ct := PS.weak ps_continue fun D σ H ⟨G0, H0, Gs, G, e, r, gs, p⟩ => by
  obtain ⟨G2, s2, r2⟩ := r.weaken hw
  exact p σ H G2 r2 (gs.trans s2)
theorem ss_expr {x : Expr} {pos : Pos} {f : Env → Res D} (h : SE X T W O x f) (hs : swapsWith x none pos.line X.env = pure false) : SS X T W O O L (.Expr x pos) (fun e => (f e).out e fun _ => .nx e) :=
  PS.weak (ps_expr h hs) fun D σ H ⟨G0, H0, Gs, G, e, r, gs, p⟩ => ⟨G0, H0, G, e, r, out_bind r gs p fun d v H1 G1 x1 r1 p1 => p1 σ H1 G1 (r.ext x1) (gs.trans x1.g)⟩
theorem ss_asg {t : List Nat} {one : Bool} {tg x : Expr} {pos : Pos} {f : Env → Res D} (ho : ∀ i ∈ t, i ∉ O ∧ i ∉ T.pr) (key : PS X (.Assign [tg] x pos) (tAsg (cE X T W O (fun _ => RV T X.K) f) (gA X.K t one))) : SS X T W O O L (.Assign [tg] x pos) (fun e => (f e).out e fun d => omO (asg t one d e) .nx) :=
  PS.weak key fun D σ H ⟨G0, H0, Gs, G, e, r, gs, p⟩ => ⟨G0, H0, G, e, r, out_bind r gs p fun d v H1 G1 x1 r1 p1 => by
    cases q : asg t one d e with
    | none => rw [q] at p1; exact False.elim p1
    | some e' =>
      rw [q] at p1
      exact asg_ok (r.ext x1) r1 q ho rfl (fun _ _ => rfl) fun xs _ r2 => p1 _ _ _ r2 (gs.trans x1.g)⟩
/-- a name, a new list -/
theorem ss_own {i : Nat} {y : Str} {x : Expr} {pos py : Pos} {f : Env → Res D} (key : PS X (.Assign [.Name y py] x pos) (tAsg (cE X T W O (RF T X.K) fun e => (f e).bd onlyL) (gName i))) (hi : ∀ (s : Shared) (σ : L2.St) (H : Hp) (pins : List (Addr × Obj)), Inv X pins σ H s → i < σ.length) (hpr : i ∉ T.pr) :
    SS X T W O (i :: O.filter (· != i)) L (.Assign [.Name y py] x pos) (fun e => ((f e).bd onlyL).out e fun d => .nx (e.set i (some d))) := by
  refine ⟨fun pins s σ H D I ⟨G0, H0, Gs, G, e, r, gs, p⟩ => key.run pins s σ H D I ⟨G0, H0, G, e, r, out_bind (R := RF T X.K H) r gs p fun d v H1 G1 x1 ⟨l, q, xs, e1, e2, q1, q2, q3, q4⟩ p1 => ?_⟩⟩
  subst e1 e2
  have rl1 := r.ext x1
  obtain ⟨G2, s2, r2⟩ := rl1.setF (i := i) q1 q2 (by
    cases z : H0 q with
    | none => rfl
    | some o => rw [r.x.h _ _ z] at q3; cases q3) (fun j hj b hb => by
    obtain ⟨_, p', _, _, h2, h3, _⟩ := r.own j hj
    rw [h2] at hb
    cases hb
    intro z
    rw [z, q3] at h3
    cases h3) q4 (by rw [← r.len]; exact hi s σ H pins I) hpr
  exact p1 _ _ _ r2 ((gs.trans x1.g).trans s2)
end
end E

set_option autoImplicit false
set_option linter.all false
set_option Elab.async false
set_option maxRecDepth 100000
/-! E12: loops, changes of lists. -/
namespace E
open PySem PySem.Spec PyProof.Rows L2

theorem upd_self {H : Hp} {p : Addr} {o : HO} (h : H p = some o) : upd H p o = H := by
  funext b
  by_cases hb : b = p
  · subst hb; rw [upd_same, h]
  · rw [upd_ne hb]
theorem out_items {r : Res D} {e : Env} {g : List D → Out} : (r.out e fun x => omO (items x) g) = (r.bd fun x => om (items x) .ok).out e g := by
  cases r with
  | ok a => simp only [out_ok, bd_ok]; cases items a <;> rfl
  | err c l => rfl
  | bad => rfl
section
variable {X : Cx} {T : Tb} {W : WX} {O O' O1 O2 L L2 : List Nat}
theorem ss_for {t : List Nat} {one : Bool} {tg it : Expr} {body : List Stmt} {pos : Pos} {fi : Env → Res (List D)} {fb : Env → Out} (hp : PassesOwn (model X.prog X.w) X.A X.env X.xe) (hc : X.calm = true) (hi : SI X T W L tg it fi) (hg : PG X tg (gA X.K t one)) (ho : ∀ i ∈ t, i ∉ L ∧ i ∉ T.pr)
    (hb : SSs X T W L L L body fb) (hs : ∀ x, foldedSetIterable it X.env x = pure x) : SS X T W L L L2 (.For tg it body [] pos) (fun e => (fi e).out e fun l => forL (fun d e => omO (asg t one d e) fb) l e) :=
  PS.weak (ps_for hp hc hi hg hb hs) fun D σ H ⟨G0, H0, Gs, G, e, r, gs, p⟩ => ⟨G0, H0, G, e, r, out_bind r gs p fun l J H1 G1 x1 it p1 => by
    refine ⟨fun i m σ' H' => m = l.length - i ∧ i ≤ l.length ∧ ∃ G' e', Rel T X.K L G0 H0 σ' H' G' e' ∧ Same G1 G' ∧ PostS T X.K W L L2 G0 H0 Gs D (forL (fun d e => omO (asg t one d e) fb) (l.drop i) e'),
      ⟨l.length, by simp, Nat.zero_le _, G1, e, r.ext x1, Same.refl _, by simpa using p1⟩, ?_⟩
    rintro i m σ' H' ⟨rfl, hi, G', e', r', g', p'⟩
    by_cases hlt : i < l.length
    · refine .inr ⟨it.go i _ _ ⟨g', r'.sub⟩ hlt, fun σ2 H2 => ∃ G2 e2, Rel T X.K L G0 H0 σ2 H2 G2 e2 ∧ Same G1 G2 ∧ PostS T X.K W L L2 G0 H0 Gs D (forL (fun d e => omO (asg t one d e) fb) (l.drop (i + 1)) e2), ?_, ?_⟩
      · rintro σ2 H2 ⟨G2, e2, a, b, c⟩
        exact ⟨l.length - (i + 1), by omega, rfl, hlt, G2, e2, a, b, c⟩
      · intro x H2 y
        obtain ⟨G2, d, x2, hd, rd⟩ := it.yld i _ _ x H2 ⟨g', r'.sub⟩ hlt y
        have hdrop : l.drop i = d :: l.drop (i + 1) := by
          rw [List.drop_eq_getElem_cons hlt]
          congr 1
          exact (List.getElem?_eq_some_iff.mp hd).2
        rw [hdrop] at p'
        unfold forL at p'
        cases ha : asg t one d e' with
        | none => rw [ha] at p'; exact False.elim p'
        | some e2 =>
          rw [ha] at p'
          simp only [omO_some] at p'
          refine asg_ok (r'.ext x2) rd ha ho rfl (fun _ _ => rfl) fun xs _ r2 => ⟨G0, H0, G1, G2, e2, r2, g'.trans x2.g, ?_⟩
          have gs1 : Same Gs G1 := gs.trans x1.g
          cases q : fb e2 with
          | nx e3 => rw [q] at p'; exact fun σ3 H3 G3 r3 g3 => ⟨G3, e3, r3, g3, p'⟩
          | ct e3 => rw [q] at p'; exact fun σ3 H3 G3 r3 g3 => ⟨G3, e3, r3, g3, p'⟩
          | bk e3 => rw [q] at p'; exact fun σ3 H3 G3 r3 g3 => p' σ3 H3 G3 r3 (gs1.trans g3)
          | rt d => rw [q] at p'; exact p'
          | ex e3 c l => rw [q] at p'; exact fun od σ3 H3 G3 r3 g3 w => p' od σ3 H3 G3 r3 (gs1.trans g3) w
          | bad => rw [q] at p'; exact p'
    · have e3 : l.length = i := by omega
      rw [List.drop_eq_nil_of_le (by omega)] at p'
      exact .inl ⟨it.stop i _ _ ⟨g', r'.sub⟩ e3, p' σ' H' G' r' ((gs.trans x1.g).trans g')⟩⟩
theorem ss_while {c : Expr} {body : List Stmt} {pos : Pos} {fc : Env → Res Bool} {fb : Env → Out} (n : Nat) (hp : PassesOwn (model X.prog X.w) X.A X.env X.xe) (hc : SB X T W L c fc) (hb : SSs X T W L L L body fb) :
    SS X T W L L L2 (.While c body [] pos) (fun e => whL fc fb n e) :=
  PS.weak (ps_while hp hc hb) fun D σ H ⟨G0, H0, Gs, G, e, r, gs, p⟩ => by
    refine ⟨fun m σ' H' => ∃ G' e', Rel T X.K L G0 H0 σ' H' G' e' ∧ Same Gs G' ∧ PostS T X.K W L L2 G0 H0 Gs D (whL fc fb m e'), ⟨n, G, e, r, gs, p⟩, ?_⟩
    rintro m σ' H' ⟨G', e', r', g', p'⟩
    cases m with
    | zero => exact False.elim p'
    | succ m =>
      unfold whL at p'
      refine ⟨G0, H0, G', e', r', out_bind r' g' p' fun k v H1 G1 x1 r1 p1 => ?_⟩
      have r1 : v = k := r1
      subst r1
      cases v with
      | false => exact p1 σ' H1 G1 (r'.ext x1) (g'.trans x1.g)
      | true =>
        rw [if_pos rfl]
        refine ⟨fun σ2 H2 => ∃ G2 e2, Rel T X.K L G0 H0 σ2 H2 G2 e2 ∧ Same Gs G2 ∧ PostS T X.K W L L2 G0 H0 Gs D (whL fc fb m e2), fun σ2 H2 q => ⟨m, Nat.lt_succ_self _, q⟩, G0, H0, Gs, G1, e', r'.ext x1, g'.trans x1.g, ?_⟩
        rw [if_pos rfl] at p1
        cases q : fb e' with
        | nx e3 => rw [q] at p1; exact fun σ3 H3 G3 r3 g3 => ⟨G3, e3, r3, g3, p1⟩
        | ct e3 => rw [q] at p1; exact fun σ3 H3 G3 r3 g3 => ⟨G3, e3, r3, g3, p1⟩
        | bk e3 => rw [q] at p1; exact p1
        | rt d => rw [q] at p1; exact p1
        | ex e3 c l => rw [q] at p1; exact p1
        | bad => rw [q] at p1; exact p1
/-! ### xs.append(x), xs.extend(ys), xs.reverse() -/
def muF (m : Mu) (i : Nat) (fs : Env → Res (List D)) : Env → Out := fun e => (look i e).out e fun x => match x with
    | .lst l => (fs e).out e fun xs => (muD m l xs).out e fun l' => .nx (e.set i (some (.lst l')))
    | _ => .bad
theorem swap_none (x : Expr) (hx : ∀ (a : Expr) (b : List Comprehension) (c : Scope) (d : Pos), x ≠ .ListComp a b c d) : True := trivial
theorem ss_mu {m : Mu} {i : Nat} {y : Str} {a : Expr} {py apos cpos pos : Pos} {fs : Env → Res (List D)} (hm : m = .append ∨ m = .extend) (hi : i ∈ O) (hN : X.N[i]? = some y) (hv : Vis X.env.scope y) (hd : (y == ("__debug__" : Str)) = false) (hcd : (y == ("__classdict__" : Str)) = false)
    (hn : noStar a = true) (hline : (apos.endLine == cpos.line) = true) (ha : SA X T W O [a] fs) :
    SS X T W O O L (.Expr (.Call (.Attribute (.Name y py) (match m with | .append => "append" | _ => "extend") apos) [a] [] cpos) pos) (muF m i fs) := by
  have hst : starEach [a] X.env = (false, eval a X.env) :: starEach [] X.env := star_cons hn
  have base : ∀ {id : String} {nm : Str} {r : V → List V → Hp → VK → Prop}, PySem.Slot "list" nm id → typeOf (.builtin id) = pure (.type "method_descriptor") → MtR X id r → PS X (.Expr (.Call (.Attribute (.Name y py) nm apos) [a] [] cpos) pos) (tDrop (tBM X.K "list" r (tVar i) (cE X T W O (fun _ => RL T X.K) fs))) := fun sl ty mt =>
    ps_expr (pe_bm F.plainAttrs_list sl ty mt (pe_var hN hv hd hcd) ha rfl (by rw [hst]; rfl) hline hst rfl) rfl
  have go : ∀ {id : String} {nm : Str} {r : V → List V → Hp → VK → Prop}, PySem.Slot "list" nm id → typeOf (.builtin id) = pure (.type "method_descriptor") → MtR X id r →
      (∀ (H G : Hp) (p : Addr) (xs vs : List V) (l ds : List D) (l' : List D) (Q : VK), Same G H → H p = some (.lst xs) → RepL T X.K G l xs → RepL T X.K G ds vs → muD m l ds = .ok l' → (∀ xs', RepL T X.K G l' xs' → Q .non (upd H p (.lst xs'))) → r (.ref p) vs H Q) →
      SS X T W O O L (.Expr (.Call (.Attribute (.Name y py) nm apos) [a] [] cpos) pos) (muF m i fs) := fun {id nm r} sl ty mt ok => by
    refine PS.weak (base sl ty mt) fun D σ H ⟨G0, H0, Gs, G, e, r, gs, p⟩ => ?_
    obtain ⟨d0, q, o0, h1, h2, h3, h4, h5, h6⟩ := r.own i hi
    unfold muF look at p
    rw [h1] at p
    simp only [out_ok] at p
    cases d0 <;> try exact False.elim p
    rename_i l
    obtain ⟨xs, rfl, h6⟩ := h6
    refine ⟨.ref q, h2, .inl ⟨rfl, xs, SqL.of h3⟩, G0, H0, G, e, r, out_bind r gs p fun ds vs H1 G1 x1 r1 p1 => ?_⟩
    cases hmu : muD m l ds with
    | err c l => cases m <;> simp only [muD] at hmu <;> first | (split at hmu <;> first | cases hmu | (split at hmu <;> cases hmu)) | cases hmu
    | bad => rw [hmu] at p1; exact False.elim p1
    | ok l' =>
      rw [hmu] at p1
      simp only [out_ok] at p1
      exact ok H1 G1 q xs vs l ds l' _ x1.s (x1.h _ _ h3) (h6.mono x1.g) r1 hmu fun xs' rx => p1 _ _ _ ((r.ext x1).mut hi h2 (x1.h _ _ h3) rx) (gs.trans x1.g)
  rcases hm with rfl | rfl
  · refine go F.slot_list_append F.type_list_append mt_append fun H G p xs vs l ds l' Q s hp rl rd h q => ?_
    rcases ds with _ | ⟨d, _ | ⟨d2, ds⟩⟩ <;> try cases h
    obtain ⟨v, vr, rfl, r1, r2⟩ := rd.cons_inv
    rw [r2.nil_inv]
    simp only [muD] at h
    split at h <;> cases h
    rename_i hl
    rw [LIM_eq, rl.length] at hl
    exact ⟨p, xs, v, rfl, rfl, hp, hl, q _ (rl.append (.cons r1 .nil))⟩
  · refine go F.slot_list_extend F.type_list_extend mt_extend fun H G p xs vs l ds l' Q s hp rl rd h q => ?_
    rcases ds with _ | ⟨d, _ | ⟨d2, ds⟩⟩
    · cases h
    rotate_left
    · exact absurd (show Res.bad = Res.ok l' by cases d <;> exact h) (by simp)
    cases d <;> try cases h
    obtain ⟨v, vr, rfl, r1, r2⟩ := rd.cons_inv
    rw [r2.nil_inv]
    simp only [muD] at h
    split at h <;> cases h
    rename_i hl
    obtain ⟨b, zs, rfl, b1, b2⟩ := r1.lst
    rw [LIM_eq, rl.length, b2.length] at hl
    exact ⟨p, b, xs, zs, rfl, rfl, hp, s _ _ b1, hl, q _ (rl.append b2)⟩
theorem ss_rev {i : Nat} {y : Str} {py apos cpos pos : Pos} (hi : i ∈ O) (hN : X.N[i]? = some y) (hv : Vis X.env.scope y) (hd : (y == ("__debug__" : Str)) = false) (hcd : (y == ("__classdict__" : Str)) = false) (hline : (apos.endLine == cpos.line) = true) :
    SS X T W O O L (.Expr (.Call (.Attribute (.Name y py) "reverse" apos) [] [] cpos) pos) (muF .reverse i fun _ => .ok []) := by
  have pe := pe_bm0 F.plainAttrs_list F.slot_list_reverse F.type_list_reverse mt_reverse (pe_var (X := X) (pos := py) hN hv hd hcd) rfl hline
  refine PS.weak (ps_expr pe rfl) fun D σ H ⟨G0, H0, Gs, G, e, r, gs, p⟩ => ?_
  obtain ⟨d0, q, o0, h1, h2, h3, h4, h5, h6⟩ := r.own i hi
  unfold muF look at p
  rw [h1] at p
  simp only [out_ok] at p
  cases d0 <;> try exact False.elim p
  rename_i l
  obtain ⟨xs, rfl, h6⟩ := h6
  simp only [out_ok, muD] at p
  exact ⟨.ref q, h2, .inl ⟨rfl, xs, SqL.of h3⟩, q, xs, rfl, rfl, h3, p _ _ _ (r.mut hi h2 h3 h6.reverse) gs⟩
/-! ### xs[i] = x -/
theorem RepL.putL {G : Hp} {l l' : List D} {xs : List V} {d : D} {v : V} {j : Int} (r : RepL T X.K G l xs) (rv : Rep T X.K G d v) (h : E.putL l j d = some l') : ∃ k, ixN xs.length j = some k ∧ RepL T X.K G l' (xs.set k v) := by
  unfold E.putL at h
  rw [← r.length]
  rw [ixN_eq]
  cases q : ixOf l.length j with
  | none => rw [q] at h; cases h
  | some k =>
    rw [q] at h
    cases h
    exact ⟨k, rfl, r.set k rv⟩
def rSetLD : TSet := fun o i v H Q => rSetL o i v H Q ∨ rSetD o i v H Q
theorem set_ld (hu : X.A.units + 65 < cLine) : PSet X rSetLD := by
  intro pins s σ H o i v ov iv u Q I ro ri rv h
  rcases h with h | h
  · exact set_list pins s σ H o i v ov iv u Q I ro ri rv h
  · exact set_dict (by omega) pins s σ H o i v ov iv u Q I ro ri rv h
theorem ss_put (hu : X.A.units + 65 < cLine) {i : Nat} {y : Str} {a b : Expr} {py tp pos : Pos} {fa fb : Env → Res D} (hi : i ∈ O) (hN : X.N[i]? = some y) (hv : Vis X.env.scope y) (hd : (y == ("__debug__" : Str)) = false) (hcd : (y == ("__classdict__" : Str)) = false) (hpl : plainIx a = true) (ha : SE X T W O a fa) (hb : SE X T W O b fb) :
    SS X T W O O L (.Assign [.Subscript (.Name y py) a tp] b pos) (fun e => (fb e).out e fun y => (look i e).out e fun x => (fa e).out e fun k => match x, k with
    | .lst l, .int j => omO (putL l j y) fun l' => .nx (e.set i (some (.lst l')))
    | .dic ks vs, k => if isKey k = true ∧ ks.length < LIM then .nx (e.set i (some (dPut ks vs k y))) else .bad
    | _, _ => .bad) := by
  have pg := pg_sub (pos := tp) (pe_var (X := X) (pos := py) hN hv hd hcd) ha (set_ld hu) (by intro v; cases a <;> first | rfl | exact Bool.noConfusion (show false = true from hpl))
  refine PS.weak (ps_asg hb pg (by cases b <;> rfl) (by cases b <;> rfl) rfl) fun D σ H ⟨G0, H0, Gs, G, e, r, gs, p⟩ => ⟨G0, H0, G, e, r, out_bind r gs p fun d v H1 G1 x1 r1 p1 => ?_⟩
  have rl := r.ext x1
  obtain ⟨d0, q, o0, h1, h2, h3, h4, h5, h6⟩ := rl.own i hi
  unfold look at p1
  rw [h1] at p1
  simp only [out_ok] at p1
  refine ⟨.ref q, h2, G0, H0, G1, e, rl, out_bind rl (gs.trans x1.g) p1 fun k w H2 G2 x2 r2 p2 => ?_⟩
  cases d0 <;> try exact False.elim p2
  rotate_left
  · rename_i ks vs
    obtain ⟨kvs, rfl, h6, h7⟩ := h6
    have p3 : PostS T X.K W O L G0 H0 Gs D (if isKey k = true ∧ ks.length < LIM then .nx (e.set i (some (dPut ks vs k d))) else .bad) := p2
    by_cases hh : isKey k = true ∧ ks.length < LIM
    · rw [if_pos hh] at p3
      obtain ⟨kk, hk⟩ := isKey_k hh.1
      have e := kOf_v hk (RepR.of (rl.ext x2).sub r2)
      subst e
      have hlen : kvs.length < sizeLine := by
        have := congrArg List.length h6
        rw [List.length_map, List.length_map] at this
        rw [← LIM_eq]
        omega
      exact .inr ⟨q, _, rfl, DPut.k (x2.h _ _ h3) hlen, p3 _ _ _ ((rl.ext x2).mutO hi h2 (dPut_ok hk (r1.mono x2.g) h6 (h7.mono x2.g))) ((gs.trans x1.g).trans x2.g)⟩
    · rw [if_neg hh] at p3
      exact p3.elim
  rename_i l
  obtain ⟨xs, rfl, h6⟩ := h6
  cases k <;> try exact False.elim p2
  rename_i j
  have p3 : PostS T X.K W O L G0 H0 Gs D (omO (putL l j d) fun l' => .nx (e.set i (some (.lst l')))) := p2
  cases hq : putL l j d with
  | none => rw [hq] at p3; exact False.elim p3
  | some l' =>
    rw [hq] at p3
    obtain ⟨k, hk, rk⟩ := (h6.mono x2.g).putL (r1.mono x2.g) hq
    exact .inl ⟨q, xs, j, k, rfl, r2.int, x2.h _ _ h3, hk, p3 _ _ _ ((rl.ext x2).mut hi h2 (x2.h _ _ h3) rk) ((gs.trans x1.g).trans x2.g)⟩
end
end E

set_option autoImplicit false
set_option linter.all false
set_option Elab.async false
set_option maxRecDepth 100000
/-! E12p: new dicts, for x in a[xs.pop()]. -/
namespace E
open PySem PySem.Spec PyProof.Rows L2
section
variable {T : Tb} {K : PySem.W.Frag} {O : List Nat} {G0 H0 : Hp} {σ : L2.St} {H G : Hp} {e : Env}
/-- an object that nobody has is changed -/
theorem Rel.scratch {p : Addr} {o : HO} (r : Rel T K O G0 H0 σ H G e) (hg : G p = none) (h0 : H0 p = none) (hd : ∀ j ∈ O, ∀ q, σ[j]? = some (some (.ref q)) → q ≠ p) : Rel T K O G0 H0 σ (upd H p o) G e where
  x := ⟨fun b u q => by
      have hb : b ≠ p := fun z => by rw [z, h0] at q; cases q
      rw [upd_ne hb]
      exact r.x.h _ _ q, r.x.g, fun b u q => by
      have hb : b ≠ p := fun z => by rw [z, hg] at q; cases q
      rw [upd_ne hb]
      exact r.sub _ _ q, r.x.n⟩
  s0 := r.s0
  z := r.z
  ze := r.ze
  po := r.po
  len := r.len
  val := r.val
  own := fun j hj => by
    obtain ⟨d, q, o', h1, h2, h3, h4, h5, h6⟩ := r.own j hj
    exact ⟨d, q, o', h1, h2, by rw [upd_ne (hd j hj q h2)]; exact h3, h4, h5, h6⟩
  dis := r.dis
end
section
variable {X : Cx} {T : Tb} {W : WX} {O L Lx : List Nat}
theorem fresh_own {G0 H0 : Hp} {σ : L2.St} {H G : Hp} {e : Env} {q : Addr} (r : Rel T X.K O G0 H0 σ H G e) (hq : H q = none) : G q = none ∧ H0 q = none ∧ ∀ j ∈ O, ∀ p, σ[j]? = some (some (.ref p)) → p ≠ q := by
  refine ⟨Same.none r.sub hq, ?_, fun j hj b hb => ?_⟩
  · cases z : H0 q with
    | none => rfl
    | some o => rw [r.x.h _ _ z] at hq; cases hq
  · obtain ⟨_, p', _, _, h2, h3, _⟩ := r.own j hj
    rw [h2] at hb
    cases hb
    intro z
    rw [z, hq] at h3
    cases h3
theorem ss_dnew {i : Nat} {y : Str} {pos py pd : Pos} (hN : X.N.Nodup) (h1 : X.N[i]? = some y) (h2 : Loc X.env.scope y) (h3 : X.fn y = true ∨ X.env.scope.names.lookup y = some .local) (hpr : i ∉ T.pr) :
    SS X T W O (i :: O.filter (· != i)) L (.Assign [.Name y py] (.Dict [] [] pd) pos) (fun e => .nx (e.set i (some (.dic [] [])))) := by
  have key := ps_set (pos := pos) (pos' := py) hN h1 h2 (pe_dnewK (X := X) (pos := pd)) rfl h3
  refine ⟨fun pins s σ H D I ⟨G0, H0, Gs, G, e, r, gs, p⟩ => key.run pins s σ H D I fun q hq => ?_⟩
  obtain ⟨f1, f2, f3⟩ := fresh_own r hq
  obtain ⟨G2, s2, r2⟩ := (r.ext (Ext.mine (o := .dK []) r.sub hq)).setO (i := i) (d0 := .dic [] []) upd_same f1 f2 f3 ⟨[], rfl, rfl, .nil⟩ (by rw [← r.len, I.len]; exact (List.getElem?_eq_some_iff.mp h1).1) hpr
  exact p _ _ _ r2 (gs.trans s2)
theorem ss_dnew1 {i : Nat} {y : Str} {k v : Expr} {fk fv : Env → Res D} {pos py pd : Pos} (hN : X.N.Nodup) (h1 : X.N[i]? = some y) (h2 : Loc X.env.scope y) (h3 : X.fn y = true ∨ X.env.scope.names.lookup y = some .local) (hpr : i ∉ T.pr) (hk : SE X T W O k fk) (hv : SE X T W O v fv) :
    SS X T W O (i :: O.filter (· != i)) L (.Assign [.Name y py] (.Dict [some k] [v] pd) pos) (fun e => (fk e).out e fun x => (fv e).out e fun y => if isKey x = true then .nx (e.set i (some (.dic [x] [y]))) else .bad) := by
  have key := ps_set (pos := pos) (pos' := py) hN h1 h2 (pe_disp (X := X) (pos := pd) (pps_cons hk hv pps_nil) rfl rfl (by simp) (by simp)) rfl h3
  refine ⟨fun pins s σ H D I ⟨G0, H0, Gs, G, e, r, gs, p⟩ => key.run pins s σ H D I fun q hq => ?_⟩
  obtain ⟨f1, f2, f3⟩ := fresh_own r hq
  have r0 := r.ext (Ext.mine (o := .dK []) r.sub hq)
  refine ⟨G0, H0, G, e, r0, out_bind r0 gs p fun x vx H1 G1 x1 rx p1 => ?_⟩
  have r1 := r0.ext x1
  refine ⟨G0, H0, G1, e, r1, out_bind r1 (gs.trans x1.g) p1 fun z vz H2 G2 x2 rz p2 => ?_⟩
  have r2 := r1.ext x2
  by_cases hx : isKey x = true
  · rw [if_pos hx] at p2
    obtain ⟨kk, hkk⟩ := isKey_k hx
    have e1 := kOf_v hkk (RepR.of r1.sub rx)
    subst e1
    have q1 : H1 q = some (.dK []) := x1.h _ _ upd_same
    have q2 : H2 q = some (.dK []) := x2.h _ _ q1
    have g1 : G1 q = none := x1.n q (by rw [upd_same]; simp) f1
    have g2 : G2 q = none := x2.n q (by rw [q1]; simp) g1
    refine ⟨q2, [(kk, vz)], rfl, by simp, ?_⟩
    obtain ⟨G3, s3, r3⟩ := (r2.scratch (o := .dK (mergeK [] [(kk, vz)])) g2 f2 f3).setO (i := i) (d0 := .dic [x] [z]) upd_same g2 f2 f3 ⟨[(kk, vz)], rfl, by simp [hkk], .cons rz .nil⟩ (by rw [← r.len, I.len]; exact (List.getElem?_eq_some_iff.mp h1).1) hpr
    exact p2 _ _ _ r3 (((gs.trans x1.g).trans x2.g).trans s3)
  · rw [if_neg hx] at p2
    exact p2.elim
/-! ### for x in a[xs.pop()] -/
theorem list_last {l : List D} {j : D} (h : l.getLast? = some j) : l[l.length - 1]? = some j := by rw [← h, List.getLast?_eq_getElem?]
theorem RepL.dropLast {G : Hp} {l : List D} {xs : List V} (r : RepL T X.K G l xs) : RepL T X.K G l.dropLast xs.dropLast := by
  rw [List.dropLast_eq_take, List.dropLast_eq_take, r.length]
  exact r.take _
theorem dIdx_ne (x y : D) (c : Nat) (l : List D) : dIdx x y ≠ .err c l := by
  intro h
  cases x <;> cases y <;> simp only [dIdx] at h <;> first
    | (cases h; done)
    | (rename_i z w; cases q : at_ z w <;> rw [q] at h <;> cases h)
    | (split at h <;> first | (cases h; done) | (rename_i z w _; cases q : at_ z w <;> rw [q] at h <;> cases h))
/-- the loop itself -/
theorem for_go {t : List Nat} {one : Bool} {fb : Env → Out} {G0 H0 Gs H1 G1 : Hp} {σ : L2.St} {e : Env} {l : List D} {J : It} {D : Ends} (ho : ∀ i ∈ t, i ∉ L ∧ i ∉ T.pr) (r : Rel T X.K L G0 H0 σ H1 G1 e) (gs : Same Gs G1) (it : IterOf T X.K J H1 G1 l)
    (p1 : PostS T X.K W L Lx G0 H0 Gs D (forL (fun d e => omO (asg t one d e) fb) l e)) :
    ∃ V1 : Nat → Nat → L2.St → Hp → Prop, (∃ m, V1 0 m σ H1) ∧ ∀ i m σ H, V1 i m σ H → (J.stop i H ∧ D.nx σ H) ∨ (J.go i H ∧ ∃ N : L2.St → Hp → Prop, (∀ σ' H', N σ' H' → ∃ m', m' < m ∧ V1 (i + 1) m' σ' H') ∧ ∀ x H', J.yld i H x H' → gA X.K t one x σ H' fun σ2 H2 => cS X T W L L L fb { D with nx := N, ct := N, bk := D.nx } σ2 H2) := by
  refine ⟨fun i m σ' H' => m = l.length - i ∧ i ≤ l.length ∧ ∃ G' e', Rel T X.K L G0 H0 σ' H' G' e' ∧ Same G1 G' ∧ PostS T X.K W L Lx G0 H0 Gs D (forL (fun d e => omO (asg t one d e) fb) (l.drop i) e'),
    ⟨l.length, by simp, Nat.zero_le _, G1, e, r, Same.refl _, by simpa using p1⟩, ?_⟩
  rintro i m σ' H' ⟨rfl, hi, G', e', r', g', p'⟩
  by_cases hlt : i < l.length
  · refine .inr ⟨it.go i _ _ ⟨g', r'.sub⟩ hlt, fun σ2 H2 => ∃ G2 e2, Rel T X.K L G0 H0 σ2 H2 G2 e2 ∧ Same G1 G2 ∧ PostS T X.K W L Lx G0 H0 Gs D (forL (fun d e => omO (asg t one d e) fb) (l.drop (i + 1)) e2), ?_, ?_⟩
    · rintro σ2 H2 ⟨G2, e2, a, b, c⟩
      exact ⟨l.length - (i + 1), by omega, rfl, hlt, G2, e2, a, b, c⟩
    · intro x H2 y
      obtain ⟨G2, d, x2, hd, rd⟩ := it.yld i _ _ x H2 ⟨g', r'.sub⟩ hlt y
      have hdrop : l.drop i = d :: l.drop (i + 1) := by
        rw [List.drop_eq_getElem_cons hlt]
        congr 1
        exact (List.getElem?_eq_some_iff.mp hd).2
      rw [hdrop] at p'
      unfold forL at p'
      cases ha : asg t one d e' with
      | none => rw [ha] at p'; exact False.elim p'
      | some e2 =>
        rw [ha] at p'
        simp only [omO_some] at p'
        refine asg_ok (r'.ext x2) rd ha ho rfl (fun _ _ => rfl) fun xs _ r2 => ⟨G0, H0, G1, G2, e2, r2, g'.trans x2.g, ?_⟩
        cases q : fb e2 with
        | nx e3 => rw [q] at p'; exact fun σ3 H3 G3 r3 g3 => ⟨G3, e3, r3, g3, p'⟩
        | ct e3 => rw [q] at p'; exact fun σ3 H3 G3 r3 g3 => ⟨G3, e3, r3, g3, p'⟩
        | bk e3 => rw [q] at p'; exact fun σ3 H3 G3 r3 g3 => p' σ3 H3 G3 r3 (gs.trans g3)
        | rt d => rw [q] at p'; exact p'
        | ex e3 c l => rw [q] at p'; exact fun od σ3 H3 G3 r3 g3 w => p' od σ3 H3 G3 r3 (gs.trans g3) w
        | bad => rw [q] at p'; exact p'
  · have e3 : l.length = i := by omega
    rw [List.drop_eq_nil_of_le (by omega)] at p'
    exact .inl ⟨it.stop i _ _ ⟨g', r'.sub⟩ e3, p' σ' H' G' r' (gs.trans g')⟩
theorem ss_fpop {t : List Nat} {one : Bool} {tg a : Expr} {i : Nat} {y : Str} {py apos cpos spos pos : Pos} {body : List Stmt} {fa : Env → Res D} {fb : Env → Out} (hp : PassesOwn (model X.prog X.w) X.A X.env X.xe) (hc : X.calm = true) (ha : SE X T W L a fa) (hi : i ∈ L)
    (hN : X.N[i]? = some y) (hv : Vis X.env.scope y) (hd : (y == ("__debug__" : Str)) = false) (hcd : (y == ("__classdict__" : Str)) = false) (hline : (apos.endLine == cpos.line) = true) (hg : PG X tg (gA X.K t one)) (ho : ∀ i ∈ t, i ∉ L ∧ i ∉ T.pr) (hb : SSs X T W L L L body fb) :
    SS X T W L L Lx (.For tg (.Subscript a (.Call (.Attribute (.Name y py) "pop" apos) [] [] cpos) spos) body [] pos) (fun e => (fa e).out e fun x => (look i e).out e fun z => match z with
    | .lst l => omO l.getLast? fun j => (dIdx x j).out e fun y => omO (items y) fun ys => forL (fun d e => omO (asg t one d e) fb) ys (e.set i (some (.lst l.dropLast)))
    | _ => .bad) := by
  have pop := pe_bm0 F.plainAttrs_list F.slot_list_pop F.type_list_pop mt_pop (pe_var (X := X) (pos := py) hN hv hd hcd) rfl hline
  have ix := pe_ix (pos := spos) ix_all ha pop (fun _ _ => rfl)
  refine PS.weak (ps_for hp hc (pi_any (tg := tg) ix) hg hb (fun _ => rfl)) fun D σ H ⟨G0, H0, Gs, G, e, r, gs, p⟩ => ⟨G0, H0, G, e, r, out_bind r gs p fun x v H1 G1 x1 rx p1 => ?_⟩
  have r1 := r.ext x1
  obtain ⟨d0, q, o0, h1, h2, h3, h4, h5, h6⟩ := r1.own i hi
  unfold look at p1
  rw [h1] at p1
  simp only [out_ok] at p1
  cases d0 <;> try exact False.elim p1
  rename_i l
  obtain ⟨xs, rfl, h6⟩ := h6
  have p1 : PostS T X.K W L Lx G0 H0 Gs D (omO l.getLast? fun j => (dIdx x j).out e fun y => omO (items y) fun ys => forL (fun d e => omO (asg t one d e) fb) ys (e.set i (some (.lst l.dropLast)))) := p1
  cases hlast : l.getLast? with
  | none => rw [hlast] at p1; exact False.elim p1
  | some j =>
    rw [hlast] at p1
    simp only [omO_some] at p1
    obtain ⟨u, hu, ru⟩ := h6.get (list_last hlast)
    rw [h6.length] at hu
    refine ⟨.ref q, h2, .inl ⟨rfl, xs, SqL.of h3⟩, q, xs, u, rfl, rfl, h3, hu, ?_⟩
    have r2 := r1.mut hi h2 h3 h6.dropLast
    cases hix : dIdx x j with
    | err c l2 => exact absurd hix (dIdx_ne x j c l2)
    | bad => rw [hix] at p1; exact p1.elim
    | ok d =>
      rw [hix] at p1
      simp only [out_ok] at p1
      refine idx_ok (W := W) (σ := σ) r2.sub (RepR.of r2.sub rx) (RepR.of r2.sub ru) (show Pv T X.K W σ _ G1 (dIdx x j) _ from ?_)
      rw [hix]
      intro w H3 G3 x3 r3
      cases hit : items d with
      | none => rw [hit] at p1; exact False.elim p1
      | some ys =>
        rw [hit] at p1
        simp only [omO_some] at p1
        have rl3 := r2.ext x3
        have s3 := rl3.sub
        have g3 := (gs.trans x1.g).trans x3.g
        cases d <;> first | (cases hit; done) | skip
        · cases hit
          exact .inr (.inr ⟨_, r3.str, for_go ho rl3 g3 iter_str p1⟩)
        · cases hit
          obtain ⟨b, zs, rfl, q1, q2⟩ := r3.tup
          exact .inr (.inl ⟨b, rfl, ⟨zs, Same.sqt s3 q1⟩, for_go ho rl3 g3 (iter_tup q1 q2) p1⟩)
        · cases hit
          obtain ⟨b, zs, rfl, q1, q2⟩ := r3.lst
          exact .inl ⟨b, rfl, ⟨zs, SqL.of (s3 _ _ q1)⟩, for_go ho rl3 g3 (iter_list q1 q2) p1⟩
        · cases hit
          obtain ⟨b, rfl, q1⟩ := r3.scr
          exact .inl ⟨b, rfl, ⟨_, Same.seq s3 q1⟩, for_go ho rl3 g3 (iter_scr s3 q1) p1⟩
end
end E

set_option autoImplicit false
set_option linter.all false
set_option Elab.async false
set_option maxRecDepth 100000
/-! E13: calls of defs. -/
namespace E
open PySem PySem.Spec PyProof.Rows L2

section
variable {T T' : Tb} {K : PySem.W.Frag} {H G : Hp}
mutual
theorem rep_T (h1 : T.ca = T'.ca) (h2 : T.fl = T'.fl) : ∀ (d : D) (v : V), Rep T K G d v → Rep T' K G d v
  | .non, _, h => by simpa only [Rep] using h
  | .bl _, _, h => by simpa only [Rep] using h
  | .int _, _, h => by simpa only [Rep] using h
  | .str _, _, h => by simpa only [Rep] using h
  | .tup l, v, h => by
    simp only [Rep] at h ⊢
    obtain ⟨a, xs, q1, q2, q3⟩ := h
    exact ⟨a, xs, q1, q2, repL_T h1 h2 l xs q3⟩
  | .lst l, v, h => by
    simp only [Rep] at h ⊢
    obtain ⟨a, xs, q1, q2, q3⟩ := h
    exact ⟨a, xs, q1, q2, repL_T h1 h2 l xs q3⟩
  | .scr l, v, h => by simpa only [Rep] using h
  | .ins c l, v, h => by
    simp only [Rep] at h ⊢
    obtain ⟨a, dx, fs, q1, q2, q3, q4⟩ := h
    exact ⟨a, dx, fs, q1, by rw [← h1]; exact q2, by rw [← h2]; exact q3, repL_T h1 h2 l _ q4⟩
  | .dic ks vs, v, h => by
    simp only [Rep] at h ⊢
    obtain ⟨a, kvs, q1, q2, q3, q4⟩ := h
    exact ⟨a, kvs, q1, q2, q3, repL_T h1 h2 vs _ q4⟩
  | .set _, _, h => by simp only [Rep] at h
  | .exc _ _, _, h => by simp only [Rep]
theorem repL_T (h1 : T.ca = T'.ca) (h2 : T.fl = T'.fl) : ∀ (l : List D) (xs : List V), RepL T K G l xs → RepL T' K G l xs
  | [], _, h => by simpa only [RepL] using h
  | d :: ds, v, h => by
    simp only [RepL] at h ⊢
    obtain ⟨x, xs, q1, q2, q3⟩ := h
    exact ⟨x, xs, q1, rep_T h1 h2 d x q2, repL_T h1 h2 ds xs q3⟩
end
theorem exc_T (h1 : T.ca = T'.ca) (h2 : T.fl = T'.fl) {c : Nat} {l : List D} {od : Option Addr} (h : ExcAt T K G c l od) : ExcAt T' K G c l od := by
  rcases h with ⟨a, b, c⟩ | ⟨dd, fs, q1, q2, q3, q4⟩
  · exact .inl ⟨by rw [← h2]; exact a, b, c⟩
  · refine .inr ⟨dd, fs, q1, q2, by rw [← h2]; exact q3, fun j nm d a b => ?_⟩
    obtain ⟨v, r1, r2⟩ := q4 j nm d (by rw [h2]; exact a) b
    exact ⟨v, r1, rep_T h1 h2 _ _ r2⟩
/-- what a def does, as the kit's word of it -/
def spOf (T : Tb) (K : PySem.W.Frag) (F : List D → Res D) (n : Nat) : Sp := fun vs H Q E => vs.length = n ∧ ∃ G ds, Same G H ∧ RepL T K G ds vs ∧ PostG T K (RV T K) (fun c d _ H => E c d H) [] H G (F ds) Q
theorem spOf_len {F : List D → Res D} {n : Nat} (vs : List V) (H : Hp) (Q : VK) (E : XK) (h : spOf T K F n vs H Q E) : vs.length = n := h.1
/-- a call in this context does what F says -/
structure CallOk (X : Cx) (T : Tb) (W : WX) (F : List D → Res D) (x : Str) (n : Nat) : Prop where
  c0 : n = 0 → Gl X x → ∀ (O : List Nat) (q pos : Pos), SE X T W O (.Call (.Name x q) [] [] pos) (fun _ => F [])
  c1 : Gl X x → ∀ (O : List Nat) (e : Expr) (es : List Expr) (q pos : Pos) (f : Env → Res (List D)), (∀ e' xs, f e' = .ok xs → xs.length = n) → noStar e = true → es.all noStar = true → SA X T W O (e :: es) f → SE X T W O (.Call (.Name x q) (e :: es) [] pos) (fun e => (f e).bd F)
theorem post_call {F : Res D} {W : WX} {σ : L2.St} {Q : VK} (h1 : T.ca = T'.ca) (h2 : T.fl = T'.fl) (p : PostG T' K (RV T' K) W σ H G F Q) : PostG T K (RV T K) (fun c d _ H => W c d σ H) [] H G F Q := by
  cases F with
  | ok d => exact fun v H' G' x r => p v H' G' x (rep_T h1 h2 _ _ r)
  | err c l =>
    intro od H' G' x q
    show W (.ref (T.ca c)) od σ H'
    rw [h1]
    exact p od H' G' x (exc_T h1 h2 q)
  | bad => exact p
theorem callOk {X : Cx} {W : WX} {F : List D → Res D} {x : Str} {n k : Nat} {f : Addr} {fd : FuncData} {ps : List Str} (Fn : FnOk X.prog X.w X.K X.mg X.base (L2N.CX X.prog X.w) k f fd ps (spOf T X.K F n)) (h1 : T.ca = T'.ca) (h2 : T.fl = T'.fl)
    (hr : Room k X.A) (hm : X.mg x = some (.ref f)) (hk : PySem.W.keepIn X.K (.ref f) = true) (hb : Binds X.K fd ps []) (tk : L2N.Takes X W) (hdb : (x == ("__debug__" : Str)) = false) : CallOk X T' W F x n where
  c0 := fun hn hg O q pos => by
    subst hn
    have pe : PE X (.Call (.Name x q) [] [] pos) (tCallS (spOf T X.K F 0) (WE W) tNil) := ⟨fun pins s σ H Q I h => wpAny_Call_Name_kw (ld_glob I hg hm (PySem.W.callWith_K0 I.kIn hk (run_fnS (us := []) Fn hr hb (L2N.passAt tk σ) I .nil h)) hdb)⟩
    exact PE.weak pe fun σ H Q ⟨G0, H0, G, e, rl, p⟩ => ⟨rfl, G, [], rl.sub, .nil, post_call h1 h2 p⟩
  c1 := fun hg O e es q pos f hl hn hns ha =>
    PE.weak (pe_callS (E := WE W) Fn hr hg hm hk hb (fun σ => L2N.passAt tk σ) ha hdb (star_cons hn) (star_any hns)) fun σ H Q ⟨G0, H0, G, e, rl, p⟩ => ⟨G0, H0, G, e, rl, by
      cases q : f e with
      | err c l => simp only [q] at p; exact p
      | bad => simp only [q] at p; exact p
      | ok ds =>
        simp only [q, bd_ok] at p
        intro vs H1 G1 x1 r1
        exact ⟨by rw [← r1.length]; exact hl e ds q, G1, ds, (rl.ext x1).sub, repL_T h1.symm h2.symm _ _ r1, post_call h1 h2 (p.ext x1)⟩⟩
/-- the same within the suite of a caught exception -/
theorem callOkH {X : Cx} {W : WX} {F : List D → Res D} {x : Str} {n k : Nat} {f : Addr} {fd : FuncData} {ps : List Str} (Fn : L2H.FnH X.prog X.w X.K X.mg X.base (L2N.CX X.prog X.w) k f fd ps (spOf T X.K F n)) (h1 : T.ca = T'.ca) (h2 : T.fl = T'.fl)
    (hr : L2H.RoomH k X.A) (hh : L2H.HotC X) (hm : X.mg x = some (.ref f)) (hk : PySem.W.keepIn X.K (.ref f) = true) (hb : Binds X.K fd ps []) (tk : L2N.Takes X W) (hdb : (x == ("__debug__" : Str)) = false) : CallOk X T' W F x n where
  c0 := fun hn hg O q pos => by
    subst hn
    have pe : PE X (.Call (.Name x q) [] [] pos) (tCallS (spOf T X.K F 0) (WE W) tNil) := ⟨fun pins s σ H Q I h => wpAny_Call_Name_kw (ld_glob I hg hm (PySem.W.callWith_K0 I.kIn hk (L2H.run_fnH (us := []) Fn hr hh hb (L2N.passAt tk σ) I .nil h)) hdb)⟩
    exact PE.weak pe fun σ H Q ⟨G0, H0, G, e, rl, p⟩ => ⟨rfl, G, [], rl.sub, .nil, post_call h1 h2 p⟩
  c1 := fun hg O e es q pos f hl hn hns ha =>
    PE.weak (L2H.pe_callH (E := WE W) Fn hr hh hg hm hk hb (fun σ => L2N.passAt tk σ) ha hdb (star_cons hn) (star_any hns)) fun σ H Q ⟨G0, H0, G, e, rl, p⟩ => ⟨G0, H0, G, e, rl, by
      cases q : f e with
      | err c l => simp only [q] at p; exact p
      | bad => simp only [q] at p; exact p
      | ok ds =>
        simp only [q, bd_ok] at p
        intro vs H1 G1 x1 r1
        exact ⟨by rw [← r1.length]; exact hl e ds q, G1, ds, (rl.ext x1).sub, repL_T h1.symm h2.symm _ _ r1, post_call h1 h2 (p.ext x1)⟩⟩
/-! ### a def's body -/
theorem start_rel {N : List Str} {ds : List D} {vs : List V} (s : Same G H) (hz : T.z G) (hze : ∀ e σ, T.ze e σ) (hpr : T.pr = []) (r : RepL T K G ds vs) (n : Nat) (hn : n = N.length) : Rel T K [] G H (L2.start N vs) H G (ds.map some ++ List.replicate (n - ds.length) none) where
  x := .refl s
  s0 := s
  z := hz
  ze := hze _ _
  po := fun i hi => by rw [hpr] at hi; simp at hi
  len := by
    unfold L2.start
    subst hn
    simp [r.length]
  val := fun i d h _ => by
    by_cases hi : i < ds.length
    · rw [List.getElem?_append_left (by simpa using hi), List.getElem?_map] at h
      cases q : ds[i]? with
      | none => rw [q] at h; cases h
      | some d' =>
        rw [q] at h
        cases h
        obtain ⟨v, h1, h2⟩ := r.get q
        refine ⟨v, ?_, h2⟩
        unfold L2.start
        rw [List.getElem?_append_left (by rw [List.length_map, ← r.length]; exact hi), List.getElem?_map, h1]
        rfl
    · rw [List.getElem?_append_right (by simp; omega), List.getElem?_replicate] at h
      split at h <;> cases h
  own := fun i hi => by simp at hi
  dis := fun i hi => by simp at hi
end
section
variable {P : Program} {w : World} {K : PySem.W.Frag} {mg : Str → Option Value} {base : Heap}
theorem okN {x qual : Str} {st : Stmt} {f : Addr} {fd : FuncData} {N ps : List Str} {k : Nat} {sp : Sp} (F : Fun K x qual st f fd) (S : FnScope N ps (defScope st)) (len : ∀ vs H Q E, sp vs H Q E → vs.length = ps.length)
    (hb : ∀ (c : Value) (A : Around) (outer : List PySem.Env) (s : Shared) (H : Hp) (vs : List V) (Q : VK) (E : XK), Room k (A.deeper (envOfC qual (defScope st) s.heap.objs.size f c)) → sp vs H Q E →
      ∃ t, PSs (cxOf (L2N.CX P w) P w K mg base N qual (defScope st) f c A outer s H E) (defBody st) t ∧ t { nx := fun _ H' => Q .non H', rt := Q } (L2.start N vs) H) : FnOk P w K mg base (L2N.CX P w) (k + 1) f fd ps sp := by
  obtain ⟨x1, x2, x3, x4, x5, x6, c, x8, x9, rfl, lk, hc⟩ := F.ex
  exact fn_of lk hc S len fun A outer s H vs Q E hr hsp => hb c A outer s H vs Q E hr hsp
theorem fn_body {T : Tb} {x qual : Str} {st : Stmt} {f : Addr} {fd : FuncData} {N ps : List Str} {k n : Nat} {g : Env → Out} (F : Fun K x qual st f fd) (S : FnScope N ps (defScope st)) (hz : ∀ G, T.z G) (hze : ∀ e σ, T.ze e σ) (hpr : T.pr = []) (hn : n = N.length)
    (h : ∀ (cdv : Value) (A : Around) (outer : List PySem.Env) (s : Shared) (H : Hp) (E : XK), Room k (A.deeper (envOfC qual (defScope st) s.heap.objs.size f cdv)) →
      SSs (cxOf (L2N.CX P w) P w K mg base N qual (defScope st) f cdv A outer s H E) T (fun cls d _ H => E cls d H) [] [] [] (defBody st) g) :
    FnOk P w K mg base (L2N.CX P w) (k + 1) f fd ps (spOf T K (fun ds => fin (g (ds.map some ++ List.replicate (n - ds.length) none))) ps.length) :=
  okN F S (fun vs H Q E h => h.1) fun cdv A outer s H vs Q E hr ⟨hl, G, ds, sm, r, p⟩ => ⟨_, h cdv A outer s H E hr, G, H, G, G, _, start_rel sm (hz G) hze hpr r n hn, Same.refl _, by
    replace p : PostG T K (RV T K) (fun c d _ H => E c d H) [] H G (fin (g (ds.map some ++ List.replicate (n - ds.length) none))) Q := p
    cases q : g (ds.map some ++ List.replicate (n - ds.length) none) with
    | nx e' =>
      rw [q] at p
      exact fun σ' H' G' r' _ => p .non H' G' r'.x (by simp)
    | rt d =>
      rw [q] at p
      exact fun v H' G' x rv => p v H' G' x rv
    | ex e' c l =>
      rw [q] at p
      exact fun od σ' H' G' r' _ ea => p od H' G' r'.x ea
    | bk e' => rw [q] at p; exact p.elim
    | ct e' => rw [q] at p; exact p.elim
    | bad => rw [q] at p; exact p.elim⟩
theorem fn_bodyH {T : Tb} {x qual : Str} {st : Stmt} {f : Addr} {fd : FuncData} {N ps : List Str} {k n : Nat} {g : Env → Out} (F : Fun K x qual st f fd) (S : FnScope N ps (defScope st)) (hz : ∀ G, T.z G) (hze : ∀ e σ, T.ze e σ) (hpr : T.pr = []) (hn : n = N.length)
    (h : ∀ (cdv : Value) (A : Around) (outer : List PySem.Env) (s : Shared) (H : Hp) (E : XK) (p : Addr × Obj), L2H.Hot1 A p → L2H.RoomH k (A.deeper (envOfC qual (defScope st) s.heap.objs.size f cdv)) →
      SSs (L2H.cxH (L2N.CX P w) P w K mg base N qual (defScope st) f cdv A outer s H E p) T (fun cls d _ H => E cls d H) [] [] [] (defBody st) g) :
    L2H.FnH P w K mg base (L2N.CX P w) (k + 1) f fd ps (spOf T K (fun ds => fin (g (ds.map some ++ List.replicate (n - ds.length) none))) ps.length) := by
  obtain ⟨oc, od, kV, doc, pm, an, cdv, ct, osl, rfl, lk, hcd⟩ := F.ex
  refine L2H.fn_ofH lk hcd S (fun vs H Q E h => h.1) fun A outer s H vs Q E p hot hr ⟨hl, G, ds, sm, r, p2⟩ => ⟨_, h cdv A outer s H E p hot hr, G, H, G, G, _, start_rel sm (hz G) hze hpr r n hn, Same.refl _, ?_⟩
  replace p2 : PostG T K (RV T K) (fun c d _ H => E c d H) [] H G (fin (g (ds.map some ++ List.replicate (n - ds.length) none))) Q := p2
  cases q : g (ds.map some ++ List.replicate (n - ds.length) none) with
  | nx e' =>
    rw [q] at p2
    exact fun σ' H' G' r' _ => p2 .non H' G' r'.x (by simp)
  | rt d =>
    rw [q] at p2
    exact fun v H' G' x rv => p2 v H' G' x rv
  | ex e' c l =>
    rw [q] at p2
    exact fun od σ' H' G' r' _ ea => p2 od H' G' r'.x ea
  | bk e' => rw [q] at p2; exact p2.elim
  | ct e' => rw [q] at p2; exact p2.elim
  | bad => rw [q] at p2; exact p2.elim
end
end E

set_option autoImplicit false
set_option linter.all false
set_option Elab.async false
set_option maxRecDepth 100000
/-! E13o: objects of plain classes: C(..), __init__, o.m(..). -/
namespace E
open PySem PySem.Spec PyProof.Rows L2
/-- C(..), an exception may come out of __init__ -/
def tMakeS (C : Addr) (sp : Sp) (E : L2.St → XK) (t : TA) : TE := fun σ H Q => t σ H fun vs H1 => ∀ y dy, H1 y = none → H1 dy = none → dy ≠ y → sp (.ref y :: vs) (upd (upd H1 dy (.own y)) y (.ins C dy [])) (fun v H2 => v = .non ∧ Q (.ref y) H2) (E σ)
section
variable {X : Cx} {A0 : CXT} {k : Nat} {C f : Addr} {fd : FuncData} {ps : List Str} {sp : Sp} {E1 : L2.St → XK} {x : Str} {q pos : Pos} {e : Expr} {es : List Expr} {t : TA}
theorem run_mkS {ip : List (Addr × Obj)} {σ : L2.St} {H : Hp} {s : Shared} {Q : VK} {us : List Value} {vs : List V} (M : Mk X.K C f) (F : FnOk X.prog X.w X.K X.mg X.base A0 k f fd ps sp) (hr : Room (k + 1) X.A) (hb : Binds X.K fd ps []) (hx : PassesAt A0 X σ (E1 σ)) (I : Inv X ip σ H s) (r : Vals vs us)
    (h : ∀ y dy, H y = none → H dy = none → dy ≠ y → sp (.ref y :: vs) (upd (upd H dy (.own y)) y (.ins C dy [])) (fun v H2 => v = .non ∧ Q (.ref y) H2) (E1 σ)) : wpAny (model X.prog X.w) X.A (call (.ref C) us) (EP X ip σ Q) X.xe s := by
  have hq := h _ _ (I.hok.fresh (Nat.le_succ _)) (I.hok.fresh (Nat.le_refl _)) (Nat.ne_of_lt (Nat.lt_succ_self s.heap.objs.size))
  have I2 := Inv.made (C := C) I
  have r2 : Vals (V.ref (s.heap.objs.size + 1) :: vs) (Value.ref (s.heap.objs.size + 1) :: us) := .cons rfl r
  have hl : (Value.ref (s.heap.objs.size + 1) :: us ++ []).length = ps.length := by rw [List.append_nil, ← r2.length]; exact F.len _ _ _ _ hq
  have b2 := hb _ (Value.ref (s.heap.objs.size + 1) :: us) I2.kIn hl
  rw [List.append_nil] at b2
  refine wpAny_call (make_map (f := f) I.kIn M.makes M.init (beq_iff_eq.mp M.fn) (codeAny_mono (F.run _ X.stack _ _ ⟨Value.ref (s.heap.objs.size + 1) :: us, []⟩ (Value.ref (s.heap.objs.size + 1) :: us) _ _ (E1 σ) (hr.make C us []) (I2.env0.make C us []) b2 r2 hq) fun rr t1 hq1 => ?_))
  cases rr with
  | error er => exact hx ip _ _ er t1 I2 hq1
  | ok fl =>
    cases fl with
    | ret u =>
      obtain ⟨v, Hn, I3, rv, ev, q3⟩ := I2.after hq1
      subst ev
      exact ⟨rv, V.ref (s.heap.objs.size + 1), Hn, I3, rfl, q3⟩
    | next => cases hq1
    | brk => cases hq1
    | cont => cases hq1
theorem pe_mkS (M : Mk X.K C f) (F : FnOk X.prog X.w X.K X.mg X.base A0 k f fd ps sp) (hr : Room (k + 1) X.A) (hg : Gl X x) (hm : X.mg x = some (.ref C)) (hb : Binds X.K fd ps []) (hx : ∀ σ, PassesAt A0 X σ (E1 σ)) (ha : PA X (e :: es) t)
    (hdb : (x == ("__debug__" : Str)) = false) (he : starEach (e :: es) X.env = (false, eval e X.env) :: starEach es X.env) (hpl : (backTo pos (starEach es X.env)).any (·.1) = false) : PE X (.Call (.Name x q) (e :: es) [] pos) (tMakeS C sp E1 t) :=
  ⟨fun ip s σ H Q I h => wpAny_Call_Name_kw (ld_glob I hg hm (PySem.W.callWith_K (h₀ := X.base) I.ok.mod.kin M.kp (thn (ha.run pos ip s σ H _ I h) fun us s1 ⟨vs, H1, I1, r, q1⟩ => ⟨I1.kIn, run_mkS M F hr hb (hx σ) I1 r q1⟩) he hpl) hdb)⟩
end
/-- __init__'s word: what F says, the object in the heap ahead of it -/
def spI (T : Tb) (K : PySem.W.Frag) (C : Addr) (F : List D → Res D) (n : Nat) : Sp := fun vs H Q E => vs.length = n + 1 ∧ ∃ (H1 G : Hp) (ds : List D) (a dx : Addr) (us : List V), vs = .ref a :: us ∧ H = upd (upd H1 dx (.own a)) a (.ins C dx []) ∧ H1 a = none ∧ H1 dx = none ∧ dx ≠ a ∧ Same G H1 ∧ RepL T K G ds us ∧
  PostG T K (RV T K) (fun c d _ H => E c d H) [] H1 G (F ds) (fun v H2 => v = .ref a → Q .non H2)
theorem mkOk {X : Cx} {T T' : Tb} {W : WX} {F : List D → Res D} {x : Str} {n k : Nat} {C f : Addr} {fd : FuncData} {ps : List Str} (M : Mk X.K C f) (Fn : FnOk X.prog X.w X.K X.mg X.base (L2N.CX X.prog X.w) k f fd ps (spI T X.K C F n)) (h1 : T.ca = T'.ca) (h2 : T.fl = T'.fl)
    (hn0 : n ≠ 0) (hr : Room (k + 1) X.A) (hm : X.mg x = some (.ref C)) (hb : Binds X.K fd ps []) (tk : L2N.Takes X W) (hdb : (x == ("__debug__" : Str)) = false) : CallOk X T' W F x n where
  c0 := fun hn => absurd hn hn0
  c1 := fun hg O e es q pos f hl hn hns ha =>
    PE.weak (pe_mkS (E1 := WE W) M Fn hr hg hm hb (fun σ => L2N.passAt tk σ) ha hdb (star_cons hn) (star_any hns)) fun σ H Q ⟨G0, H0, G, e, rl, p⟩ => ⟨G0, H0, G, e, rl, by
      cases q : f e with
      | err c l => simp only [q] at p; exact p
      | bad => simp only [q] at p; exact p
      | ok ds =>
        simp only [q, bd_ok] at p
        intro vs H1 G1 x1 r1 y dy hy hdy hne
        exact ⟨by rw [List.length_cons, ← r1.length, hl e ds q], H1, G1, ds, y, dy, vs, rfl, rfl, hy, hdy, hne, (rl.ext x1).sub, repL_T h1.symm h2.symm _ _ r1, (post_call h1 h2 (p.ext x1)).imp fun v H2 qv ev => ⟨rfl, ev ▸ qv⟩⟩⟩
/-! ### __init__ -/
/-- the table while __init__ runs: slot 0 holds the object -/
def inT (T : Tb) (a : Addr) : Tb := { T with ze := fun _ σ => σ[0]? = some (some (.ref a)), pr := [0], zs := fun h q => by rw [(h 0 (by simp)).2]; exact q }
section
variable {T : Tb} {K : PySem.W.Frag} {H G H1 G1 : Hp}
/-- what is new since H1, but for a and dx -/
structure Since (H1 G1 H G : Hp) (a dx : Addr) : Prop where
  h : ∀ b o, H1 b = some o → H b = some o
  g : Same G1 G
  s : Same G H
  n : ∀ b, H1 b ≠ none → G1 b = none → G b = none
  ga : G a = none
  gd : G dx = none
  hd : H dx = some (.own a)
theorem Since.ext {a dx : Addr} {H' G' : Hp} (x : Since H1 G1 H G a dx) (y : Ext H G H' G') (ha : ∃ o, H a = some o) : Since H1 G1 H' G' a dx where
  h := fun b o z => y.h _ _ (x.h b o z)
  g := x.g.trans y.g
  s := y.s
  n := fun b h1 h2 => y.n b (by
    cases q : H1 b with
    | none => exact absurd q h1
    | some o => rw [x.h b o q]; simp) (x.n b h1 h2)
  ga := y.n a (by obtain ⟨o, e⟩ := ha; rw [e]; simp) x.ga
  gd := y.n dx (by rw [x.hd]; simp) x.gd
  hd := y.h _ _ x.hd
theorem Since.put {a dx : Addr} {o : HO} (x : Since H1 G1 H G a dx) (h1 : H1 a = none) (hne : dx ≠ a) : Since H1 G1 (upd H a o) G a dx where
  h := fun b u z => by
    have : b ≠ a := fun e => by rw [e, h1] at z; cases z
    rw [upd_ne this]; exact x.h b u z
  g := x.g
  s := fun b u z => by
    have : b ≠ a := fun e => by rw [e, x.ga] at z; cases z
    rw [upd_ne this]; exact x.s b u z
  n := x.n
  ga := x.ga
  gd := x.gd
  hd := by rw [upd_ne hne]; exact x.hd
theorem Since.toExt {a dx : Addr} (x : Since H1 G1 H G a dx) : Ext H1 G1 H G := ⟨x.h, x.g, x.s, x.n⟩
/-- the same slots, the heap as it stands for the beginning -/
theorem Rel.reset {O : List Nat} {G0 H0 : Hp} {σ : L2.St} {e : Env} (hO : O = []) (r : Rel T K O G0 H0 σ H G e) : Rel T K [] G H σ H G e where
  x := .refl r.sub
  s0 := r.sub
  z := r.z
  ze := r.ze
  po := fun i _ h => by simp at h
  len := r.len
  val := fun i d h _ => r.val i d h (by rw [hO]; simp)
  own := fun i hi => by simp at hi
  dis := fun i hi => by simp at hi
theorem Rel.putA {σ : L2.St} {e : Env} {a : Addr} {o : HO} (r : Rel T K [] G H σ H G e) (hg : G a = none) : Rel T K [] G (upd H a o) σ (upd H a o) G e where
  x := .refl fun b u z => by
    have : b ≠ a := fun q => by rw [q, hg] at z; cases z
    rw [upd_ne this]; exact r.sub b u z
  s0 := fun b u z => by
    have : b ≠ a := fun q => by rw [q, hg] at z; cases z
    rw [upd_ne this]; exact r.sub b u z
  z := r.z
  ze := r.ze
  po := r.po
  len := r.len
  val := r.val
  own := fun i hi => by simp at hi
  dis := fun i hi => by simp at hi
theorem putF_new {f : Str} {v : V} : ∀ {fs : List (Str × V)}, f ∉ fs.map (·.1) → putF f v fs = fs ++ [(f, v)]
  | [], _ => rfl
  | (g, x) :: r, h => by
    simp only [List.map_cons, List.mem_cons, not_or] at h
    have : ¬ g = f := fun e => h.1 e.symm
    rw [putF, if_neg this, putF_new h.2]
    rfl
end
/-- self.f = e -/
def stoSt : Stmt → Option (Str × Str × Expr)
  | .Assign [.Attribute (.Name s _) f _] x _ => some (s, f, x)
  | _ => none
theorem stoSt_inv {st : Stmt} {s f : Str} {x : Expr} (h : stoSt st = some (s, f, x)) : ∃ p1 p2 p3, st = .Assign [.Attribute (.Name s p1) f p2] x p3 := by
  unfold stoSt at h
  split at h
  · cases h
    exact ⟨_, _, _, rfl⟩
  · cases h
/-- the field stores, from the j-th field on -/
inductive Stos (X : Cx) (T : Tb) (W : WX) (C : Addr) : List Str → List Stmt → (Env → Res (List D)) → Prop
  | nil : Stos X T W C [] [] (fun _ => .ok [])
  | cons {s f : Str} {x : Expr} {p1 p2 p3 : Pos} {fl : List Str} {ss : List Stmt} {fe : Env → Res D} {fr : Env → Res (List D)} (hs : PE X (.Name s p1) (tVar 0)) (hn : NoAttr X.K C f) (hx : SE X T W [] x fe) (hw : swapsWith x (some (.Attribute (.Name s p1) f p2)) p3.line X.env = pure false) (r : Stos X T W C fl ss fr) :
      Stos X T W C (f :: fl) (.Assign [.Attribute (.Name s p1) f p2] x p3 :: ss) (fun e => (fe e).bd fun d => (fr e).bd fun l => .ok (d :: l))
/-- what is asked of the fields' values -/
def PostI (T : Tb) (K : PySem.W.Frag) (W : WX) (C : Addr) (H1 G1 : Hp) (a dx : Addr) (names : List Str) (l : List D) (Dn : Ends) (σ : L2.St) : Res (List D) → Prop
  | .ok rest => ∀ H' G' fs, Since H1 G1 H' G' a dx → H' a = some (.ins C dx fs) → fs.map (·.1) = names → RepL T K G' (l ++ rest) (fs.map (·.2)) → Dn.nx σ H'
  | .err c ld => ∀ od H' G', Since H1 G1 H' G' a dx → ExcAt T K G' c ld od → W (.ref (T.ca c)) od σ H'
  | .bad => False
def tSto (X : Cx) (T : Tb) (W : WX) (C a : Addr) (fl : List Str) (g : Env → Res (List D)) : TS := fun Dn σ H => ∃ (H1 G1 G : Hp) (dx : Addr) (fs : List (Str × V)) (l : List D) (e : Env), Rel T X.K [] G H σ H G e ∧ Since H1 G1 H G a dx ∧ H1 a = none ∧ dx ≠ a ∧ H a = some (.ins C dx fs) ∧ RepL T X.K G l (fs.map (·.2)) ∧
  (fs.map (·.1) ++ fl).Nodup ∧ (fs.map (·.1) ++ fl).length ≤ 900 ∧ PostI T X.K W C H1 G1 a dx (fs.map (·.1) ++ fl) l Dn σ (g e)
theorem stos_ok {X : Cx} {T : Tb} {W : WX} {C a : Addr} (cl : Cls X.K C) (hze : ∀ e σ, T.ze e σ → σ[0]? = some (some (.ref a))) {fl : List Str} {ss : List Stmt} {g : Env → Res (List D)} (h : Stos X T W C fl ss g) : PSs X ss (tSto X T W C a fl g) := by
  induction h with
  | nil => exact PSs.weak pss_nil fun Dn σ H ⟨H1, G1, G, dx, fs, l, e, r, sc, n1, n2, ha, rl, nd, len, p⟩ => p H G fs sc ha (by simp) (by simpa using rl)
  | @cons s f x p1 p2 p3 fl ss fe fr hs hn hx hw r ih =>
    refine PSs.weak (pss_cons (ps_fld hs hx hw) ih) fun Dn σ H ⟨H1, G1, G, dx, fs, l, e, r, sc, n1, n2, ha, rl, nd, len, p0⟩ => ⟨G, H, G, e, r, ?_⟩
    have p : PostI T X.K W C H1 G1 a dx (fs.map (·.1) ++ f :: fl) l Dn σ ((fe e).bd fun d => (fr e).bd fun l => .ok (d :: l)) := p0
    clear p0
    cases q : fe e with
    | bad => rw [q] at p; exact p
    | err c ld => rw [q] at p; exact fun od H' G' y ea => p od H' G' (sc.ext y ⟨_, ha⟩) ea
    | ok d =>
      rw [q] at p
      simp only [bd_ok] at p
      intro v H' G' y rv
      have ha' := y.h _ _ ha
      have sc' := sc.ext y ⟨_, ha⟩
      have nf : f ∉ fs.map (·.1) := fun z => (List.nodup_append.1 nd).2.2 f z f List.mem_cons_self rfl
      have hl : fs.length < 1000 := by
        have := len
        simp only [List.length_append, List.length_map] at this
        omega
      refine ⟨.ref a, hze _ _ r.ze, a, C, dx, fs, rfl, ha', cl, hn, hl, H1, G1, G', dx, putF f v fs, l ++ [d], e, ((r.ext y).reset rfl).putA sc'.ga, sc'.put n1 n2, n1, n2, upd_same, ?_, ?_, ?_, ?_⟩
      · rw [putF_new nf, List.map_append]
        exact (rl.mono y.g).append (.cons rv .nil)
      · rw [putF_new nf, List.map_append]; simpa using nd
      · rw [putF_new nf, List.map_append]; simpa using len
      · have e1 : (putF f v fs).map (·.1) ++ fl = fs.map (·.1) ++ f :: fl := by rw [putF_new nf, List.map_append]; simp
        rw [e1]
        cases q2 : fr e with
        | bad => rw [q2] at p; exact p
        | err c ld => rw [q2] at p; exact p
        | ok rest =>
          rw [q2] at p
          simp only [bd_ok] at p
          exact fun H' G' fs' a1 a2 a3 a4 => p H' G' fs' a1 a2 a3 (by simpa using a4)
end E

set_option autoImplicit false
set_option linter.all false
set_option Elab.async false
set_option maxRecDepth 100000
/-! E14: own exceptions: __init__, raise. -/
namespace E
open PySem PySem.Spec PyProof.Rows L2

def spInit (C : Addr) (fl : List Str) : Sp := fun vs H Q _ => ∃ a us, vs = .ref a :: us ∧ us.length = fl.length ∧ H a = some (exo a C none) ∧ ∀ d, H d = none → d ≠ a → Q .non (upd (upd H d (exd d (fl.zip us).reverse)) a (exo a C (some d)))
/-- self.f = p -/
def iniSt : Stmt → Option (Str × Str × Str)
  | .Assign [.Attribute (.Name s _) f _] (.Name p _) _ => some (s, f, p)
  | _ => none
theorem iniSt_inv {st : Stmt} {s f p : Str} (h : iniSt st = some (s, f, p)) : ∃ p1 p2 p3 p4, st = .Assign [.Attribute (.Name s p1) f p2] (.Name p p3) p4 := by
  unfold iniSt at h
  split at h
  · cases h
    exact ⟨_, _, _, _, rfl⟩
  · cases h
def okNm (sc : Scope) (p : Str) : Bool := decide (sc.names.lookup p = some .local) && !(p == ("__debug__" : Str)) && !(p == ("__classdict__" : Str))
def chkInit (N : List Str) (sc : Scope) : Nat → List Str → List Stmt → Bool
  | _, [], [] => true
  | j, f :: fl, st :: rest => (match iniSt st with
    | some (s, f', p) => decide (N[0]? = some s) && decide (f' = f) && decide (N[j]? = some p) && okNm sc s && okNm sc p
    | none => false) && chkInit N sc (j + 1) fl rest
  | _, _, _ => false
section
variable {X : Cx} {C : Addr}
theorem okNm_inv {p : Str} {j : Nat} {pos : Pos} (hN : X.N[j]? = some p) (h : okNm X.env.scope p = true) : PE X (.Name p pos) (tVar j) := by
  unfold okNm at h
  simp only [Bool.and_eq_true, decide_eq_true_eq, Bool.not_eq_true'] at h
  exact pe_var hN (.inl h.1.1) h.1.2 h.2
def tIni (C : Addr) (j : Nat) (fl : List Str) : TS := fun D σ H => ∃ a d fs us, σ[0]? = some (some (.ref a)) ∧ a ≠ d ∧ H a = some (exo a C (some d)) ∧ H d = some (exd d fs) ∧ fs.length + fl.length ≤ 900 ∧ us.length = fl.length ∧ (∀ i u, us[i]? = some u → σ[j + i]? = some (some u)) ∧ D.nx σ (upd H d (exd d ((fl.zip us).reverse ++ fs)))
theorem ini_step {f : Str} {fl : List Str} {st : Stmt} {rest : List Stmt} {j : Nat} (h : chkInit X.N X.env.scope j (f :: fl) (st :: rest) = true) :
    ∃ s p p1 p2 p3 p4, st = .Assign [.Attribute (.Name s p1) f p2] (.Name p p3) p4 ∧ PE X (.Name s p1) (tVar 0) ∧ PE X (.Name p p3) (tVar j) ∧ chkInit X.N X.env.scope (j + 1) fl rest = true := by
  unfold chkInit at h
  cases q : iniSt st with
  | none => rw [q] at h; cases h
  | some z =>
    obtain ⟨s, f', p⟩ := z
    rw [q] at h
    simp only [Bool.and_eq_true, decide_eq_true_eq] at h
    obtain ⟨⟨⟨⟨⟨h1, h2⟩, h3⟩, h4⟩, h5⟩, h6⟩ := h
    subst h2
    obtain ⟨p1, p2, p3, p4, e⟩ := iniSt_inv q
    exact ⟨s, p, p1, p2, p3, p4, e, okNm_inv h1 h4, okNm_inv h3 h5, h6⟩
theorem ini_old (T : OexC X.K C) : ∀ (fl : List Str) (body : List Stmt) (j : Nat), (∀ f ∈ fl, PySem.W.findIn X.K (.ref C) f = some none) → chkInit X.N X.env.scope j fl body = true → PSs X body (tIni C j fl)
  | [], [], j, _, _ => PSs.weak pss_nil fun D σ H ⟨a, d, fs, us, h1, hne, h2, h3, h4, h5, h6, q⟩ => by
    have e : us = [] := List.length_eq_zero_iff.mp h5
    subst e
    have q' : D.nx σ (upd H d (exd d fs)) := by simpa using q
    rw [upd_self h3] at q'
    exact q'
  | [], _ :: _, _, _, h => by cases h
  | f :: fl, [], _, _, h => by cases h
  | f :: fl, st :: rest, j, hno, h => by
    obtain ⟨s, p, p1, p2, p3, p4, e, es, ep, hr⟩ := ini_step h
    subst e
    refine PSs.weak (pss_cons (ps_ost es ep rfl) (ini_old T fl rest (j + 1) (fun g hg => hno g (List.mem_cons_of_mem _ hg)) hr)) fun D σ H ⟨a, d, fs, us, h1, hne, h2, h3, h4, h5, h6, q⟩ => ?_
    cases us with
    | nil => simp at h5
    | cons u us =>
      have hd : (upd H d (exd d ((f, u) :: fs))) d = some (exd d ((f, u) :: fs)) := upd_same
      refine ⟨u, h6 0 u rfl, .ref a, h1, a, C, rfl, T, hno f List.mem_cons_self, .inr ⟨d, fs, h2, h3, by simp at h4; omega, a, d, (f, u) :: fs, us, h1, hne, by rw [upd_ne hne]; exact h2, hd, by simp at h4 ⊢; omega, by simpa using h5, fun i w hw => ?_, ?_⟩⟩
      · have := h6 (i + 1) w (by simpa using hw)
        rw [show j + 1 + i = j + (i + 1) by omega]
        exact this
      · rw [upd_upd]
        have q' := q
        simp only [List.zip_cons_cons, List.reverse_cons, List.append_assoc, List.cons_append, List.nil_append] at q'
        exact q'
def tIniN (C : Addr) (fl : List Str) : TS := fun D σ H => ∃ a us, σ[0]? = some (some (.ref a)) ∧ H a = some (exo a C none) ∧ fl.length ≤ 900 ∧ us.length = fl.length ∧ (∀ i u, us[i]? = some u → σ[1 + i]? = some (some u)) ∧ ∀ d, H d = none → d ≠ a → D.nx σ (upd (upd H d (exd d (fl.zip us).reverse)) a (exo a C (some d)))
theorem ini_new (T : OexC X.K C) {f : Str} {fl : List Str} {body : List Stmt} (hno : ∀ g ∈ f :: fl, PySem.W.findIn X.K (.ref C) g = some none) (h : chkInit X.N X.env.scope 1 (f :: fl) body = true) : PSs X body (tIniN C (f :: fl)) := by
  cases body with
  | nil => cases h
  | cons st rest =>
    obtain ⟨s, p, p1, p2, p3, p4, e, es, ep, hr⟩ := ini_step h
    subst e
    refine PSs.weak (pss_cons (ps_ost es ep rfl) (ini_old T fl rest 2 (fun g hg => hno g (List.mem_cons_of_mem _ hg)) hr)) fun D σ H ⟨a, us, h1, h2, h4, h5, h6, q⟩ => ?_
    cases us with
    | nil => simp at h5
    | cons u us =>
      refine ⟨u, h6 0 u rfl, .ref a, h1, a, C, rfl, T, hno f List.mem_cons_self, .inl ⟨h2, fun d hd hda => ⟨a, d, [(f, u)], us, h1, Ne.symm hda, upd_same, by rw [upd_ne hda]; exact upd_same, by simp at h4 ⊢; omega, by simpa using h5, fun i w hw => ?_, ?_⟩⟩⟩
      · have := h6 (i + 1) w (by simpa using hw)
        rw [show 2 + i = 1 + (i + 1) by omega]
        exact this
      · have q' := q d hd hda
        simp only [List.zip_cons_cons, List.reverse_cons] at q'
        have e : upd (upd (upd H d (exd d [(f, u)])) a (exo a C (some d))) d (exd d ((fl.zip us).reverse ++ [(f, u)])) = upd (upd H d (exd d ((fl.zip us).reverse ++ [(f, u)]))) a (exo a C (some d)) := by
          funext b
          by_cases hb : b = d
          · subst hb
            rw [upd_same, upd_ne hda, upd_same]
          · rw [upd_ne hb]
            by_cases hb2 : b = a
            · subst hb2; rw [upd_same, upd_same]
            · rw [upd_ne hb2, upd_ne hb2, upd_ne hb, upd_ne hb]
        rw [e]
        exact q'
end
section
variable {P : Program} {w : World} {K : PySem.W.Frag} {mg : Str → Option Value} {base : Heap}
theorem init_fn {C : Addr} {x qual : Str} {st : Stmt} {f : Addr} {fd : FuncData} {N ps : List Str} {k : Nat} {g : Str} {fl : List Str} (F : Fun K x qual st f fd) (S : FnScope N ps (defScope st)) (T : OexC K C) (hno : ∀ h ∈ g :: fl, PySem.W.findIn K (.ref C) h = some none)
    (hc : chkInit N (defScope st) 1 (g :: fl) (defBody st) = true) (hl : (g :: fl).length ≤ 900) (hps : ps.length = (g :: fl).length + 1) : FnOk P w K mg base CX0 (k + 1) f fd ps (spInit C (g :: fl)) :=
  Fun.ok F S (fun vs H Q E ⟨a, us, e, h, _⟩ => by subst e; simp only [List.length_cons] at h ⊢; rw [hps, h]; rfl) fun cdv A outer s H vs Q E hr ⟨a, us, e, h1, h2, q⟩ => ⟨_, ini_new (X := (cxOf CX0 P w K mg base N qual (defScope st) f cdv A outer s H E).nox) T hno hc, by
    subst e
    refine ⟨a, us, rfl, h2, hl, h1, fun i u hu => ?_, fun d hd hda => q d hd hda⟩
    unfold L2.start
    have hi : i < us.length := (List.getElem?_eq_some_iff.mp hu).1
    rw [List.getElem?_append_left (by simp; omega), List.getElem?_map, show 1 + i = i + 1 by omega, List.getElem?_cons_succ, hu]
    rfl⟩
end
/-! ### raise C(..) -/
theorem pmk_oexN {X : Cx} {A0 : CXT} {x : Str} {e : Expr} {es : List Expr} {ta : TA} {p pos : Pos} {C fI : Addr} {k : Nat} {fd : FuncData} {ps : List Str} {sp : Sp} (T : OexC X.K C) (iC : PySem.W.findIn X.K (.ref C) "__init__" = some (some (.ref fI))) (tI : PySem.W.typeIn X.K (.ref fI) = some (.type "function"))
    (F1 : FnOk X.prog X.w X.K X.mg X.base A0 k fI fd ps sp) (hr : Room (k + 1) X.A) (hb : Binds X.K fd ps []) (hx : Passes A0 X (fun _ _ _ => False)) (hg : Gl X x) (hm : X.mg x = some (.ref C)) (ha : PA X (e :: es) ta)
    (hdb : (x == ("__debug__" : Str)) = false) (he : starEach (e :: es) X.env = (false, eval e X.env) :: starEach es X.env) (hpl : (backTo pos (starEach es X.env)).any (·.1) = false) : L2N.PMk X (.Call (.Name x p) (e :: es) [] pos) (tMkO C sp [] ta) := by
  intro ip s0 st0 Hq Qq Iv hh
  obtain ⟨n1, n2, n3, n4, bm, n5, n6, n7, n8, n9, m0, m1, m2, m3, m5, hC, hbm⟩ := T.cls
  refine wpAny_Call_Name_kw (ld_glob Iv hg hm (PySem.W.callWith_K (h₀ := X.base) Iv.ok.mod.kin T.kC (thn (ha.run pos ip s0 st0 Hq _ Iv hh) fun us s1 ⟨vs, H1, I1, r1, hz, q1⟩ => ⟨I1.kIn, ?_⟩) he hpl) hdb)
  show wpAny _ _ (call (.ref C) us) _ _ _
  obtain ⟨hp, g, dr, tk, os⟩ := s1
  have hsz : hp.objs.size ≤ hp.objs.size + 1 := Nat.le_succ _
  have hn : H1 (hp.objs.size + 1) = none := I1.hok.fresh hsz
  have hq := q1 _ hn
  rw [List.append_nil] at hq
  have kk : ∀ b o, hp.get? b = some o → ((hp.push (PySem.W.kdv_tup us)).push (PySem.HandSPX.excO C hp.objs.size)).get? b = some o := fun b o z => Heap.get?_push_of_some _ (Heap.get?_push_of_some _ z)
  have I2 := I1.laid (t' := tk) (a := hp.objs.size + 1) (o := exo (hp.objs.size + 1) C none) (h' := (hp.push (PySem.W.kdv_tup us)).push (PySem.HandSPX.excO C hp.objs.size)) kk hsz (exo_ok (by heap_get))
  have r2 : Vals (V.ref (hp.objs.size + 1) :: vs) (Value.ref (hp.objs.size + 1) :: us) := .cons rfl r1
  have hl : (Value.ref (hp.objs.size + 1) :: us ++ []).length = ps.length := by rw [List.append_nil, ← r2.length]; exact F1.len _ _ _ _ hq
  have b2 := hb _ (Value.ref (hp.objs.size + 1) :: us) I2.kIn hl
  rw [List.append_nil] at b2
  refine wpAny_call (PySem.HandSPX.call_own F.excBase_ValueError (fun Y => PySem.HandSPX.refsVE_contains Y bm hbm) (I1.kIn _ _ hC) (PySem.W.looks_findIn I1.kIn iC) (fun self => PySem.W.bind_fn I1.kIn self tI) (by rw [← Paired.length r1, sizeLine_eq]; omega)
    (codeAny_mono (F1.run _ X.stack _ _ ⟨Value.ref (hp.objs.size + 1) :: us, []⟩ (Value.ref (hp.objs.size + 1) :: us) _ _ (fun _ _ _ => False) (hr.make C us []) (I2.env0.make C us []) b2 r2 hq) fun rr s3 hq3 => ?_))
  cases rr with
  | error er => exact hx ip st0 _ _ er s3 I2 hq3
  | ok fl =>
    cases fl with
    | ret u =>
      obtain ⟨v, H2, os2, ba2, un2, ok2, rv, ev, d, fs, ea, ed, hd1, q2⟩ := hq3
      subst ev
      obtain ⟨h2, g2, d2, t2, os3⟩ := s3
      obtain ⟨t0, G, J, kG, ge, hoe, na⟩ := mk_end0 (d2 := d2) (t2 := t2) I1 hsz kk un2 ok2 os2 ba2 ea ed hd1
      exact ⟨rv, hp.objs.size + 1, _, _, ⟨G, g2, d2, t2, os3⟩, _, .ref C, some d, rfl, J, kG, ge, hoe, ⟨rfl, rfl, fun vs hv => by cases hv; rfl⟩, rfl, rfl, na, rfl, ba2, raises_own T.exC T.tyC, q2⟩
    | next => cases hq3
    | brk => cases hq3
    | cont => cases hq3
structure RaiseOk (X : Cx) (T : Tb) (x : Str) (c : Nat) : Prop where
  pm : Gl X x → ∀ (e : Expr) (es : List Expr) (ta : TA) (p pos : Pos), PA X (e :: es) ta → noStar e = true → es.all noStar = true → L2N.PMk X (.Call (.Name x p) (e :: es) [] pos) (tMkO (T.ca c) (spInit (T.ca c) (T.fl c)) [] ta)
  nd : (T.fl c).Nodup
  len : (T.fl c).length ≤ 900
section
variable {X : Cx} {T : Tb} {W : WX} {O O' L : List Nat}
theorem raiseOk {x : Str} {c k : Nat} {fI : Addr} {fd : FuncData} {ps : List Str} (Tc : OexC X.K (T.ca c)) (iC : PySem.W.findIn X.K (.ref (T.ca c)) "__init__" = some (some (.ref fI))) (tI : PySem.W.typeIn X.K (.ref fI) = some (.type "function"))
    (F1 : FnOk X.prog X.w X.K X.mg X.base CX0 k fI fd ps (spInit (T.ca c) (T.fl c))) (hr : Room (k + 1) X.A) (hb : Binds X.K fd ps []) (hm : X.mg x = some (.ref (T.ca c))) (hd : (x == ("__debug__" : Str)) = false) (nd : (T.fl c).Nodup) (len : (T.fl c).length ≤ 900) : RaiseOk X T x c where
  pm := fun hg e es ta p pos ha hn hns => pmk_oexN Tc iC tI F1 hr hb (fun _ _ _ _ _ _ _ h => h.elim) hg hm ha hd (star_cons hn) (star_any hns)
  nd := nd
  len := len
theorem zip_look : ∀ {fl : List Str} {us : List V} {j : Nat} {nm : Str} {v : V}, fl.Nodup → fl[j]? = some nm → us[j]? = some v → (nm, v) ∈ fl.zip us
  | [], _, _, _, _, _, h, _ => by simp at h
  | _ :: _, [], _, _, _, _, _, h => by simp at h
  | f :: fl, u :: us, 0, nm, v, _, h1, h2 => by
    have e1 : f = nm := by simpa using h1
    have e2 : u = v := by simpa using h2
    subst e1 e2
    simp
  | f :: fl, u :: us, j + 1, nm, v, nd, h1, h2 => by
    rw [List.zip_cons_cons]
    exact List.mem_cons_of_mem _ (zip_look (List.nodup_cons.mp nd).2 (by simpa using h1) (by simpa using h2))
theorem look_mem : ∀ {fs : List (Str × V)} {nm : Str} {v : V}, (fs.map (·.1)).Nodup → (nm, v) ∈ fs → fs.lookup nm = some v
  | [], _, _, _, h => by simp at h
  | (f, u) :: fs, nm, v, nd, h => by
    simp only [List.map_cons, List.nodup_cons] at nd
    rcases List.mem_cons.mp h with e | h2
    · cases e; simp [List.lookup]
    · have hne : ¬ nm = f := by
        intro e
        subst e
        exact nd.1 (List.mem_map.mpr ⟨(nm, v), h2, rfl⟩)
      show List.lookup nm ((f, u) :: fs) = _
      rw [List.lookup, beq_eq_false_iff_ne.mpr hne]
      exact look_mem nd.2 h2
theorem ss_raise {x : Str} {c : Nat} {e : Expr} {es : List Expr} {p pos rp : Pos} {fs : Env → Res (List D)} (hc : X.calm = true) (tk : L2N.Takes X W) (R : RaiseOk X T x c) (hg : Gl X x) (hn : noStar e = true) (hns : es.all noStar = true) (hl : ∀ e' xs, fs e' = .ok xs → xs.length = (T.fl c).length)
    (ha : SA X T W O (e :: es) fs) : SS X T W O O' L (.Raise (some (.Call (.Name x p) (e :: es) [] pos)) none rp) (fun e => (fs e).out e fun xs => .ex e c xs) :=
  PS.weak (L2N.ps_raise hc tk (R.pm hg e es _ p pos ha hn hns)) fun D σ H ⟨G0, H0, Gs, G, e, r, gs, p⟩ => ⟨G0, H0, G, e, r, by
    replace p : PostS T X.K W O' L G0 H0 Gs D ((fs e).out e fun xs => .ex e c xs) := p
    cases q : fs e with
    | err c' l =>
      rw [q] at p
      intro od H' G' x q
      obtain ⟨G2, s2, r2⟩ := (r.ext x).weaken (O' := []) (by simp)
      exact p od σ H' G2 r2 ((gs.trans x.g).trans s2) (q.mono s2)
    | bad => rw [q] at p; exact p
    | ok ds =>
      rw [q] at p
      intro vs H1 G1 x1 r1
      have hlen : vs.length = (T.fl c).length := by rw [← r1.length]; exact hl e ds q
      have hle := R.len
      have rl := r.ext x1
      refine ⟨by omega, fun a ha => ⟨a, vs, by simp, hlen, upd_same, fun d hd hda => ⟨rfl, d, _, upd_same, by rw [upd_ne hda]; exact upd_same, ?_, ?_⟩⟩⟩
      · rw [upd_ne hda] at hd; exact hd
      · have hd1 : H1 d = none := by rw [upd_ne hda] at hd; exact hd
        have g1 : G1 d = none := Same.none rl.sub hd1
        obtain ⟨G2, s2, r2⟩ := rl.weaken (O' := []) (by simp)
        have g2 : G2 d = none := by
          cases z : G2 d with
          | none => rfl
          | some o => rw [r2.sub _ _ z] at hd1; cases hd1
        have xx : Ext H1 G2 (upd (del (upd (upd (upd H1 a (exo a (T.ca c) none)) d (exd d ((T.fl c).zip vs).reverse)) a (exo a (T.ca c) (some d))) a) d (.xd ((T.fl c).zip vs).reverse)) (upd G2 d (.xd ((T.fl c).zip vs).reverse)) := by
          have val : ∀ b, b ≠ a → b ≠ d → (upd (del (upd (upd (upd H1 a (exo a (T.ca c) none)) d (exd d ((T.fl c).zip vs).reverse)) a (exo a (T.ca c) (some d))) a) d (.xd ((T.fl c).zip vs).reverse)) b = H1 b := fun b hb1 hb2 => by
            rw [upd_ne hb2, del_ne hb1, upd_ne hb1, upd_ne hb2, upd_ne hb1]
          refine ⟨fun b o z => ?_, same_new g2, fun b o z => ?_, fun b hb hn => ?_⟩
          · have hb1 : b ≠ a := fun y => by rw [y, ha] at z; cases z
            have hb2 : b ≠ d := fun y => by rw [y, hd1] at z; cases z
            rw [val b hb1 hb2]; exact z
          · by_cases hb2 : b = d
            · subst hb2; rw [upd_same] at z ⊢; exact z
            · rw [upd_ne hb2] at z
              have z1 := r2.sub _ _ z
              have hb1 : b ≠ a := fun y => by rw [y, ha] at z1; cases z1
              rw [val b hb1 hb2]; exact z1
          · by_cases hb2 : b = d
            · subst hb2; exact absurd hd1 hb
            · rw [upd_ne hb2]; exact hn
        refine p (some d) σ _ _ (r2.ext xx) (((gs.trans x1.g).trans s2).trans xx.g) (.inr ⟨d, ((T.fl c).zip vs).reverse, rfl, upd_same, hl e ds q, fun j nm dd h1 h2 => ?_⟩)
        obtain ⟨v, hv, rv⟩ := r1.get h2
        refine ⟨v, look_mem ?_ (List.mem_reverse.mpr (zip_look R.nd h1 hv)), (rv.mono s2).mono xx.g⟩
        rw [List.map_reverse, List.map_fst_zip (by omega)]
        exact List.pairwise_reverse.mpr (R.nd.imp fun h => Ne.symm h)⟩
end
end E

set_option autoImplicit false
set_option linter.all false
set_option Elab.async false
set_option maxRecDepth 100000
/-! E15: try, except .. as e: isinstance(e, C), e.f. -/
namespace PySem.W
open PySem PySem.Spec PySem.Calls PyProof.Rows
section
variable {prog : Program} {w : World} {A : Around} {E : Value → Shared → Prop} {s : Shared} {K : Frag} {x D : Addr} {ox : Obj} {od : Option Obj}
theorem E_findObj {C : Addr} {name : Str} {a g : Value} (hc : (clsIn K C).isSome = true) (ha : findIn K (.ref C) name = some (some a)) (hg : specialIn K a "__get__" = some (some g)) (ht : takesIn K a = some true) : findObj K C od name = some (.bind g a) := by
  obtain ⟨cd, hc⟩ := Option.isSome_iff_exists.mp hc
  unfold findObj
  rw [hc, Option.bind_some, ha, Option.bind_some]
  simp [hg, ht]
theorem E_classE {Q : Option Value → Shared → Prop} (hga : findIn K (.ref D) "__getattribute__" = some (some (.builtin "BaseException.__getattribute__"))) (hgt : findIn K (.ref D) "__getattr__" = some none) (hsub : subIn K (.ref D) (.type "BaseException") = some true)
    (hdct : hasDictIn K D = true) (ha : findIn K (.ref D) "__class__" = some (some (.builtin "object.__class__")))
    (hn : specialIn K (.builtin "object.__class__") "__get__" = some (some (.builtin "getset_descriptor.__get__"))) (htk : takesIn K (.builtin "object.__class__") = some true) (hm : mroIn K D (.type "object") = some true)
    (X : K.In s.heap) (I : InstAt s.heap x ox D od) (h : Q (some (.ref D)) { s with toks := s.toks + 1 }) : wpAny (model prog w) A (getAttr? (.ref x) "__class__") Q E s := by
  have hf : findObj K D od "__class__" = some (.bind (.builtin "getset_descriptor.__get__") (.builtin "object.__class__")) := E_findObj (by obtain ⟨cd, hc, _⟩ := any_some hdct; rw [hc]; rfl) ha hn htk
  obtain ⟨hp, g, d, t, os⟩ := s
  have L0 := I.type (M := model prog w)
  have L1 := looks_findIn (M := model prog w) X hga
  have L2 := looks_findIn (M := model prog w) X hgt
  have L3 := looks_find (M := model prog w) X I hf
  have sub : Looks (model prog w) hp (isInstance (.ref x) (.type "BaseException")) true := L0.andThen (looks_subIn X hsub)
  have hx0 : (false && onTheHeap (Value.builtin "BaseException.__getattribute__")) = false := rfl
  have hx1 : (onTheHeap (Value.ref D) && Value.builtin "BaseException.__getattribute__" == Value.builtin "object.__getattribute__") = false := by
    rw [show (Value.builtin "BaseException.__getattribute__" == Value.builtin "object.__getattribute__") = false by decide +kernel]
    rfl
  unfold getAttr? getAttrBy? getAttrBy
  refine wpAny_bind (wpAny_mkText (wpAny_bind (wpAny_attempt (wpAny_holding (wpAny_bind (L0.at (wpAny_bind (L1.at ?_))))))))
  show wpAny _ _ (if (onTheHeap (Value.ref D) && Value.builtin "BaseException.__getattribute__" == Value.builtin "object.__getattribute__") = true then _ else _) _ _ _
  rw [hx1, if_neg Bool.false_ne_true]
  unfold getAttrByItsOwn hookBefore
  refine wpAny_bind ?_
  rw [if_pos (show onTheHeap (Value.ref D) = true from rfl)]
  refine L2.at ?_
  refine wpAny_bind (wpAny_attempt (wpAny_holding ?_))
  unfold callGetattribute
  rw [hx0, if_neg Bool.false_ne_true]
  unfold boundAndCalled
  rw [PySem.F.excAttr_ValueError.ga.bind (.ref x)]
  refine wpAny_bind (wpAny_pure ?_)
  show wpAny _ _ (call (.builtin "BaseException.__getattribute__") [.ref x, .str "__class__" t]) _ _ _
  refine wpAny_call (codeAny_call_builtin PySem.F.excAttr_ValueError.ga.plain PySem.F.entry_bexc_ga ?_)
  refine @check_slot (model prog w) _ _ ⟨hp, g, d, t + 1, os⟩ "BaseException.__getattribute__" "BaseException" "__getattribute__" (.ref x) [.str "__class__" t] [] _ (by decide +kernel) (by decide +kernel) sub (PySem.F.args_bexc_ga (.ref x) (.str "__class__" t)) ?_
  unfold Builtin.«object.__getattribute__»
  refine wpAny_bind (wpAny_of_eq (a := ((Value.ref x : Value), [Value.str "__class__" t])) (by first | rfl | (simp only [slotArgs]; rfl)) ?_)
  refine wpAny_bind (wpAny_pure (wpAny_bind (L0.at (wpAny_bind (L3.at ?_)))))
  show wpAny _ _ (holding [Value.builtin "object.__class__"] (call (.builtin "getset_descriptor.__get__") [.builtin "object.__class__", .ref x, .ref D]) >>= ret) _ _ _
  refine wpAny_bind (wpAny_holding (wpAny_call (class_get (s := ⟨hp, g, d, t + 1, os⟩) (ox := ox) (od := od) X I hm ?_)))
  refine wpAny_pure ?_
  show wpAny _ _ (handedOut (.ref D)) _ _ _
  rw [handedOut_of (v := .ref D) rfl]
  first
    | exact wpAny_pure (wpAny_pure h)
    | exact wpAny_pure h
    | exact wpAny_pure (wpAny_bind (wpAny_pure (wpAny_pure h)))
theorem E_kitx (hga : findIn K (.ref D) "__getattribute__" = some (some (.builtin "BaseException.__getattribute__"))) (hgt : findIn K (.ref D) "__getattr__" = some none) (hsub : subIn K (.ref D) (.type "BaseException") = some true) (hdct : hasDictIn K D = true) (ha : findIn K (.ref D) "__class__" = some (some (.builtin "object.__class__")))
    (hn : specialIn K (.builtin "object.__class__") "__get__" = some (some (.builtin "getset_descriptor.__get__"))) (htk : takesIn K (.builtin "object.__class__") = some true) (hm : mroIn K D (.type "object") = some true) :
    KitX K (.ref x) (.ref D) (fun h => InstAt h x ox D od) where
  ty := fun _ _ _ I => I.type
  it := fun _ _ X _ => by
    obtain ⟨cdD, hcD, _⟩ := any_some hdct
    unfold clsIn at hcD
    split at hcD
    · rename_i c' d' cd' sl' ho
      intro A' Q' E' s' k q
      unfold isType loadHead
      exact wpAny_bind (wpAny_loadPart (k _ _ (X _ _ ho)) (wpAny_pure q))
    · cases hcD
  ne := (handS_kitx_exc (x := x) (ox := ox) hga hgt hsub hdct ha hn htk hm).ne
  ca := fun X I k => E_classE hga hgt hsub hdct ha hn htk hm X I k
end
end PySem.W
namespace E
open PySem PySem.Spec PyProof.Rows L2

def rIsX (K : PySem.W.Frag) (C a : Addr) (d : Option Addr) : List V → Hp → VK → Prop := fun xs H Q => ∃ (c : V) (cv : Value) (b : Bool), xs = [.ref a, c] ∧ (∀ u, RelV c u → u = cv) ∧ PySem.W.kitOne K (.ref C) cv = some b ∧ (d = none ∨ ∃ dd fs, d = some dd ∧ H dd = some (.xd fs)) ∧ Q (.bl b) H
theorem call_isX {X : Cx} {a C : Addr} {d : Option Addr} {oe : Obj} {pn : List (Addr × Obj)} (c : ExcC X.K C) (hz : Zc (.ref C) d oe) (hf : ∃ vs, oe.data = .fields vs) : CallR (X.suite a ((a, oe) :: pn)) (.builtin "isinstance") (rIsX X.K C a d) := by
  intro pins s σ H xs us Q I r h
  obtain ⟨cc, cv, b, rfl, hcv, e, hd, q⟩ := h
  cases r with
  | cons rx rr =>
    cases rr with
    | cons rt rr =>
      cases rr
      cases rx
      have ec := hcv _ rt
      subst ec
      obtain ⟨hget, _⟩ := I.pin (a, oe) (List.mem_append.mpr (.inl List.mem_cons_self))
      obtain ⟨vs, hv⟩ := hf
      have J : ∃ o', PySem.W.InstAt s.heap a oe C o' := by
        rcases hd with hd | ⟨dd, fs, hd, ha⟩
        · refine ⟨none, hget, hz.1, by unfold PySem.W.notCls; rw [hv] <;> rfl, ?_⟩
          rw [hz.2, hd]
          trivial
        · have hx : ObjOk X.prog X.w H s.heap dd (.xd fs) := I.hok dd _ ha
          obtain ⟨mA, hns, hr⟩ := hx
          obtain ⟨od, ho, hl⟩ := lookIn_ns hns
          exact ⟨some od, hget, hz.1, by unfold PySem.W.notCls; rw [hv] <;> rfl, by rw [hz.2, hd]; exact ho⟩
      obtain ⟨o', J⟩ := J
      exact PySem.W.kia_one (PySem.W.E_kitx c.hg c.hk c.hs c.hd c.ha c.hn c.ht c.hm) I.kIn J e (fun z => nomatch z) fun tk => ⟨.bl b, H, I.kept (t' := tk) fun _ _ z => z, rfl, q⟩
/-- the table of the suite of a caught error -/
def suT (T : Tb) (K : PySem.W.Frag) (i : Nat) (a : Addr) (c : Nat) (l : List D) (od : Option Addr) : Tb :=
  { T with z := fun G => ExcAt T K G c l od, zm := fun s h => h.mono s, ze := fun e σ => e[i]? = some (some (.exc c l)) ∧ σ[i]? = some (some (.ref a)), pr := [i], zs := fun h q => ⟨(h i (by simp)).1.trans q.1, (h i (by simp)).2.trans q.2⟩ }
def efldF (i c j : Nat) : Env → Res D := fun e => match e[i]? with
    | some (some (.exc c' l)) => if c' = c then om l[j]? .ok else .bad
    | _ => .bad
def eisiF (sub : Nat → Nat → Option Bool) (i k : Nat) : Env → Res D := fun e => match e[i]? with
    | some (some (.exc c' _)) => om (sub c' k) fun b => .ok (.bl b)
    | _ => .bad
/-- what must be known of the names of the classes -/
structure ClsNm (X : Cx) (T : Tb) (sub : Nat → Nat → Option Bool) (x : Str) (k : Nat) : Prop where
  ex : ∃ cv v, RelV v cv ∧ (∀ u, RelV v u → u = cv) ∧ (x == ("__debug__" : Str)) = false ∧ (X.mg x = some cv ∨ (X.mg x = none ∧ bootBuiltins x = some cv ∧ x ≠ "__name__")) ∧
    ∀ c b, sub c k = some b → PySem.W.kitOne X.K (.ref (T.ca c)) cv = some b ∧ PySem.W.exmOne X.K (.ref (T.ca c)) cv = some b
structure ExcF (K : PySem.W.Frag) (T : Tb) (c : Nat) : Prop where
  e : ExcC K (T.ca c)
  x : XfC K (T.ca c)
  na : ∀ f ∈ T.fl c, PySem.W.findIn K (.ref (T.ca c)) f = some none
section
variable {X : Cx} {T : Tb} {W : WX} {O O' L : List Nat}
theorem se_efld {i c j c' : Nat} {l : List D} {nm f : Str} {a : Addr} {oe : Obj} {od : Option Addr} {pn : List (Addr × Obj)} {p pos : Pos} (F : ExcF X.K T c') (hj : (T.fl c)[j]? = some f) (hz : Zc (.ref (T.ca c')) od oe) (hf : ∃ vs, oe.data = .fields vs)
    (hN : X.N[i]? = some nm) (hv : Vis X.env.scope nm) (hd : (nm == ("__debug__" : Str)) = false) (hcd : (nm == ("__classdict__" : Str)) = false) :
    SE (X.suite a ((a, oe) :: pn)) (suT T X.K i a c' l od) W O (.Attribute (.Name nm p) f pos) (efldF i c j) := by
  by_cases hc : c' = c
  · subst hc
    refine PE.weak (pe_xf F.x (F.na f (List.mem_of_getElem? hj)) hz hf (pe_var (X := X.suite a ((a, oe) :: pn)) hN hv hd hcd) rfl) fun σ H Q ⟨G0, H0, G, e, r, p⟩ => ?_
    obtain ⟨e1, e2⟩ := r.ze
    unfold efldF at p
    rw [e1] at p
    simp only [if_true] at p
    refine ⟨.ref a, e2, rfl, rfl, ?_⟩
    obtain ⟨d, hd, p⟩ := pmat p
    have z : ExcAt T X.K G c' l od := r.z
    rcases z with ⟨q1, q2, q3⟩ | ⟨dd, fs, q1, q2, q3, q4⟩
    · rw [q1] at hj; simp at hj
    · obtain ⟨v, v1, v2⟩ := q4 j f d hj hd
      exact ⟨dd, fs, v, q1, r.sub _ _ q2, v1, p.ok r.sub (rep_T (T := T) (T' := suT T X.K i a c' l od) rfl rfl _ _ v2)⟩
  · refine ⟨fun pins s σ H Q I ⟨G0, H0, G, e, r, p⟩ => ?_⟩
    obtain ⟨e1, e2⟩ := r.ze
    unfold efldF at p
    rw [e1] at p
    simp only [if_neg hc] at p
    exact p.elim
theorem pe_cls {X : Cx} {x : Str} {cv : Value} {v : V} {pos : Pos} (hg : Gl X x) (hv : RelV v cv) (hd : (x == ("__debug__" : Str)) = false) (h : X.mg x = some cv ∨ (X.mg x = none ∧ bootBuiltins x = some cv ∧ x ≠ "__name__")) : PE X (.Name x pos) (tC v) := by
  rcases h with h | ⟨h1, h2, h3⟩
  · exact pe_glob hg h hv hd
  · exact ⟨fun _ _ _ H _ I h => ld_blt I hg h1 h2 ⟨v, H, I, hv, h⟩ h3 hd⟩
theorem se_eisi {sub : Nat → Nat → Option Bool} {i k c' : Nat} {l : List D} {nm x : Str} {a : Addr} {oe : Obj} {od : Option Addr} {pn : List (Addr × Obj)} {p p2 p3 pos : Pos} (F : ExcF X.K T c') (C : ClsNm X T sub x k) (hz : Zc (.ref (T.ca c')) od oe) (hf : ∃ vs, oe.data = .fields vs)
    (hN : X.N[i]? = some nm) (hv : Vis X.env.scope nm) (hd : (nm == ("__debug__" : Str)) = false) (hcd : (nm == ("__classdict__" : Str)) = false) (hg : Gl X "isinstance") (hm : X.mg "isinstance" = none) (hgx : Gl X x) :
    SE (X.suite a ((a, oe) :: pn)) (suT T X.K i a c' l od) W O (.Call (.Name "isinstance" p) [.Name nm p2, .Name x p3] [] pos) (eisiF sub i k) := by
  obtain ⟨cv, v, h1, h2, h3, h4, h5⟩ := C.ex
  refine PE.weak (pe_callB (X := X.suite a ((a, oe) :: pn)) (call_isX F.e hz hf) hg hm boot_isinstance (pa_cons (pe_var (X := X.suite a ((a, oe) :: pn)) hN hv hd hcd) (pa_cons (pe_cls (X := X.suite a ((a, oe) :: pn)) hgx h1 h3 h4) pa_nil))) fun σ H Q ⟨G0, H0, G, e, r, p⟩ => ?_
  obtain ⟨e1, e2⟩ := r.ze
  unfold eisiF at p
  rw [e1] at p
  have p' : PostG (suT T X.K i a c' l od) X.K (RV (suT T X.K i a c' l od) X.K) W σ H G (om (sub c' k) fun b => .ok (.bl b)) Q := p
  obtain ⟨b, hb, p2⟩ := pmat (X := X) p'
  refine ⟨.ref a, e2, v, cv, b, rfl, h2, (h5 c' b hb).1, ?_, pv_bl p2 r.sub⟩
  have z : ExcAt T X.K G c' l od := r.z
  rcases z with ⟨q1, q2, q3⟩ | ⟨dd, fs, q1, q2, _⟩
  · exact .inl q3
  · exact .inr ⟨dd, fs, q1, r.sub _ _ q2⟩
/-! ### try: body, except x as nm: suite, .. -/
/-- one handler, the ones behind it -/
def hdStep (sub : Nat → Nat → Option Bool) (i k : Nat) (fh : Env → Out) (fr : Nat → List D → Env → Out) : Nat → List D → Env → Out := fun c l e' => omO (sub c k) fun z => if z = true then (if i < e'.length then (match fh (e'.set i (some (.exc c l))) with
      | .nx e' => .nx (e'.set i none)
      | .bk e' => .bk (e'.set i none)
      | .ct e' => .ct (e'.set i none)
      | .ex _ _ _ => .bad
      | o => o) else .bad)
    else fr c l e'
def tryF (fb : Env → Out) (fr : Nat → List D → Env → Out) : Env → Out := fun e => match fb e with
  | .ex e' c l => fr c l e'
  | o => o
theorem Rel.toSu {K : PySem.W.Frag} {G0 H0 : Hp} {σ : L2.St} {H G : Hp} {e : Env} {i : Nat} {a : Addr} {c : Nat} {l : List D} {od : Option Addr} (r : Rel T K [] G0 H0 σ H G e) (hi : i < e.length) (x : ExcAt T K G c l od) : Rel (suT T K i a c l od) K [] G0 H0 (σ.set i (some (.ref a))) H G (e.set i (some (.exc c l))) where
  x := r.x
  s0 := r.s0
  z := x
  ze := ⟨List.getElem?_set_self hi, List.getElem?_set_self (by rw [r.len]; exact hi)⟩
  po := fun j hj z => by simp at z
  len := by simpa using r.len
  val := fun j d h _ => by
    by_cases hij : i = j
    · subst hij
      rw [List.getElem?_set_self hi] at h
      cases h
      exact ⟨.ref a, List.getElem?_set_self (by rw [r.len]; exact hi), by simp only [Rep]⟩
    · rw [List.getElem?_set_ne hij] at h ⊢
      obtain ⟨v, h1, h2⟩ := r.val j d h (by simp)
      exact ⟨v, h1, rep_T (T := T) (T' := suT T K i a c l od) rfl rfl _ _ h2⟩
  own := fun j hj => by simp at hj
  dis := fun j hj => by simp at hj
theorem Rel.fromSu {K : PySem.W.Frag} {G0 H0 : Hp} {σ : L2.St} {H G : Hp} {e : Env} {i : Nat} {a : Addr} {c : Nat} {l : List D} {od : Option Addr} (r : Rel (suT T K i a c l od) K [] G0 H0 σ H G e) (hz : ∀ G, T.z G) (hze : ∀ e σ, T.ze e σ) : Rel T K [] G0 H0 (σ.set i none) H G (e.set i none) where
  x := r.x
  s0 := r.s0
  z := hz _
  ze := hze _ _
  po := fun j hj z => by simp at z
  len := by simpa using r.len
  val := fun j d h _ => by
    by_cases hij : i = j
    · subst hij
      have hl : i < e.length := (List.getElem?_eq_some_iff.mp r.ze.1).1
      rw [List.getElem?_set_self hl] at h
      cases h
    · rw [List.getElem?_set_ne hij] at h ⊢
      obtain ⟨v, h1, h2⟩ := r.val j d h (by simp)
      exact ⟨v, h1, rep_T (T := suT T K i a c l od) (T' := T) rfl rfl _ _ h2⟩
  own := fun j hj => by simp at hj
  dis := fun j hj => by simp at hj
abbrev HdT := Value × Nat × (Addr → Value → Option Addr → TS)
def gone (i : Nat) (D : Ends) : Ends := { nx := fun σ H => D.nx (σ.set i none) H, rt := D.rt, bk := fun σ H => D.bk (σ.set i none) H, ct := fun σ H => D.ct (σ.set i none) H }
/-- what the handlers ask of an exception, one after the other -/
def wAll (K : PySem.W.Frag) (W0 : WX) (D : Ends) : List HdT → WX
  | [] => W0
  | (c, i, ts) :: r => fun cls d σ H => ∃ b, PySem.W.exmOne K cls c = some b ∧ (b = true → ∀ a, H a = none → ts a cls d (gone i D) (σ.set i (some (.ref a))) H) ∧ (b = false → wAll K W0 D r cls d σ H)
inductive HdsA (X : Cx) : List ExceptHandler → List HdT → Prop
  | nil : HdsA X [] []
  | cons {x nm : Str} {c : Value} {i : Nat} {ts : Addr → Value → Option Addr → TS} {b0 : Stmt} {suite : List Stmt} {np hp : Pos} {hds : List ExceptHandler} {l : List HdT} (hc : Names X x c) (hi : X.N[i]? = some nm) (hln : X.env.kindOf nm = some .local)
      (hsu : ∀ (a : Addr) (oe : Obj) (cls : Value) (d : Option Addr) (pn : List (Addr × Obj)), L2N.Zn cls d oe → (∃ vs, oe.data = .fields vs) → PSs (X.suite a ((a, oe) :: pn)) (b0 :: suite) (ts a cls d)) (r : HdsA X hds l) :
      HdsA X (.ExceptHandler (some (.Name x np)) (some nm) (b0 :: suite) hp :: hds) ((c, i, ts) :: l)
theorem ps_tryA {body : List Stmt} {h0 : ExceptHandler} {hds : List ExceptHandler} {l : List HdT} {pos : Pos} {tb : WX → TS} (hs : X.stack = X.env :: X.outer) (hf : X.env.frame = some X.env.locals) (hN : X.N.Nodup) (tk : L2N.Takes X W)
    (hb : ∀ (W : WX) (pn : List (Addr × Obj)) (xe : Value → Shared → Prop), L2N.Takes (X.tr pn xe) W → PassesOwn (model X.prog X.w) X.A X.env xe → PSs (X.tr pn xe) body (tb W)) (hh : HdsA X (h0 :: hds) l) :
    PS X (.Try body (h0 :: hds) [] [] pos) (fun D σ H => tb (wAll X.K W D l) D σ H) := by
  refine ⟨fun ip s st Hq D Iv hq0 => wpAny_Try_except (wpAny_mono ((hb (wAll X.K W D l) (X.pn ++ ip) (fun e z1 => wpAny (model X.prog X.w) X.A (noteFrame e X.env) (fun _ z2 => wpAny (model X.prog X.w) X.A (setFlight e none) (fun _ z3 =>
    wpAny (model X.prog X.w) X.A (handleBy e X.env (h0 :: hds)) (L2.SP X ip D) X.xe z3) X.xe z2) X.xe z1) (fun u t xx => ?_) PassesOwn.looking).run [] s st Hq D (Iv.toTry _) hq0) (fun fw t hsp => ?_) (fun _ _ he => he))⟩
  · obtain ⟨a, B, sI, jp, st1, H1, cls, d, rfl, J0, nb, up, sk, na, os, ag, w⟩ := xx
    have ok := Iv.ok
    have J : Inv X ip st1 H1 sI := J0.ofTry ok
    have fr0 : X.A.frames = some (X.env :: X.outer) := by rw [ok.frames, hs]
    have sk2 : Sky B (X.env :: X.outer) a (L2N.Zn cls d) X.env.locals t.heap := by rw [← hs]; exact sk
    show wpAny (model X.prog X.w) X.A (noteFrame (.ref a) X.env) _ _ _
    refine L2N.Sky.land L2N.Zn.steady fr0 hf sk2 fun g fl ug => ?_
    have Jg : Inv X ip st1 H1 { t with heap := g } := J.landed nb fl.1 (up.trans ug) os ag
    obtain ⟨og, vg, eg, zg, dg⟩ := fl.there
    have nfr : a ∉ frs (X.env :: X.outer) := fun hm => by
      obtain ⟨_, o2, e2, hnf⟩ := fl.2.2.1.mem hm
      rw [eg] at e2
      cases e2
      exact hnf _ dg
    have nL : a ≠ X.env.locals := fun z => nfr (List.mem_filterMap.mpr ⟨X.env, List.mem_cons_self, by rw [hf, z]⟩)
    have nF : a ∉ X.fs := fun hm => by
      obtain ⟨ev, hev, q⟩ := List.mem_filterMap.mp hm
      exact nfr (List.mem_filterMap.mpr ⟨ev, List.mem_cons_of_mem _ hev, q⟩)
    have Sg := Jg.suite eg dg na nL nF
    have go : ∀ {hs2 : List ExceptHandler} {l2 : List HdT}, HdsA X hs2 l2 → wAll X.K W D l2 cls d st1 H1 → wpAny (model X.prog X.w) X.A (handleBy (.ref a) X.env hs2) (L2.SP X ip D) X.xe { t with heap := g } := by
      intro hs2 l2 hk
      induction hk with
      | nil =>
        intro w2
        refine wpAny_handleBy_nil ?_
        obtain ⟨k1, k2, k3, oe, vs, T0, oT, ts0, he, hz, hd, h1, hr⟩ := id fl
        unfold PySem.passOn
        refine wpAny_bind (wpAny_field he hd h1 ?_)
        rw [if_neg (show ¬ ((Value.ref T0 == Value.none) = true) from by simp)]
        have lst : wpAny (model X.prog X.w) X.A (setFlight (.ref a) X.env.frame) (fun _ z4 => wpAny (model X.prog X.w) X.A (throw (.ref a) : Sem Flow) (L2.SP X ip D) X.xe z4) X.xe { t with heap := g } := by
          rw [hf]
          exact HandSPX.setFlight_upZ fl fun g4 fg4 u4 => wpAny_throw (tk _ _ ⟨a, B, sI, ip, st1, H1, cls, d, rfl, J, nb, (up.trans ug).trans u4, .inr (.inr (by rw [hs]; exact fg4)), na, os, ag, w2⟩)
        first
          | exact wpAny_bind (wpAny_pure (wpAny_bind lst))
          | exact wpAny_bind lst
      | @cons x nm c i ts b0 suite np hp hds2 l2 hc hi hln hsu r ih =>
        intro ⟨b, hb1, hyes, hno⟩
        refine wpAny_handleBy_cons (codeAny_handlers_test ?_) (by intro q; cases q)
        have LM := PySem.W.exm_one (M := model X.prog X.w) Jg.kIn (fun A Q E z k q => wpAny_typeOf_ref (k _ _ eg) (by rw [zg.1]; exact q)) hb1
        have tst : ∀ {Q : Value → Shared → Prop} {E : Value → Shared → Prop}, Q c { t with heap := g } → wpAny (model X.prog X.w) (X.A.mark (some (.ref a))) (eval (.Name x np) X.env) Q E { t with heap := g } := fun {Q E} q => by
          obtain ⟨hg, hdb, hm | ⟨hm, hv, hnn⟩⟩ := hc
          · exact ld_glob (X := X.suite a ((a, og) :: (X.pn ++ ip))) Sg hg hm q hdb
          · exact ld_blt (X := X.suite a ((a, og) :: (X.pn ++ ip))) Sg hg hm hv q hnn hdb
        refine tst (LM.here ?_)
        cases b with
        | true =>
          refine codeAny_handlers_suite_as (HandSPX.lands_againZ fl fun g4 f4 u4 => ?_)
          have J4 : Inv X ip st1 H1 { t with heap := g4 } := J.landed nb f4.1 ((up.trans ug).trans u4) os ag
          obtain ⟨o4, v4, e4, z4, d4⟩ := f4.there
          have S4 := J4.suite e4 d4 na nL nF
          refine store_ok (X := X.suite a ((a, o4) :: (X.pn ++ ip))) (v := .ref a) S4 hN hi (.inl hln) rfl (fun s5 S5 => wpAny_mono ((hsu a o4 cls d (X.pn ++ ip) z4 ⟨_, d4⟩).run [] s5 _ H1 _ S5 (hyes rfl a na)) (fun fw s6 hsp => ?_) (fun _ _ z => False.elim z)) (.inr hln)
          have end_ : ∀ {σ6 : L2.St} {H6 : Hp} {Q : Shared → Prop}, Inv (X.suite a ((a, o4) :: (X.pn ++ ip))) [] σ6 H6 s6 → (∀ s7, Inv X ip (σ6.set i none) H6 s7 → Q s7) → wpAny (model X.prog X.w) X.A (do bindName X.env nm .none; unbindBehindTheSuite X.env nm hp) (fun _ s7 => Q s7) X.xe s6 :=
            fun {σ6 H6 Q} S6 hq => gone_ok (S6.unsuite ok) hN hi hln hq
          cases fw with
          | next => exact (fun ⟨_, _, S6, q6⟩ => end_ S6 fun _ J7 => ⟨_, _, J7, q6⟩ : (∃ σ H, _ ∧ _) → _) hsp
          | brk => exact (fun ⟨_, _, S6, q6⟩ => end_ S6 fun _ J7 => ⟨_, _, J7, q6⟩ : (∃ σ H, _ ∧ _) → _) hsp
          | cont => exact (fun ⟨_, _, S6, q6⟩ => end_ S6 fun _ J7 => ⟨_, _, J7, q6⟩ : (∃ σ H, _ ∧ _) → _) hsp
          | ret u => exact (fun ⟨_, _, _, S6, r6, q6⟩ => end_ S6 fun _ J7 => ⟨_, _, _, J7, r6, q6⟩ : (∃ v σ H, _ ∧ _ ∧ _) → _) hsp
        | false => exact ih (hno rfl)
    exact go hh w
  · have ok := Iv.ok
    cases fw with
    | next => exact (fun ⟨_, _, J1, q⟩ => wpAny_execs_nil ⟨_, _, J1.ofTry ok, q⟩ : (∃ σ H, _ ∧ _) → _) hsp
    | brk => exact (fun ⟨_, _, J1, q⟩ => ⟨_, _, J1.ofTry ok, q⟩ : (∃ σ H, _ ∧ _) → _) hsp
    | cont => exact (fun ⟨_, _, J1, q⟩ => ⟨_, _, J1.ofTry ok, q⟩ : (∃ σ H, _ ∧ _) → _) hsp
    | ret u => exact (fun ⟨_, _, _, J1, r, q⟩ => ⟨_, _, _, J1.ofTry ok, r, q⟩ : (∃ v σ H, _ ∧ _ ∧ _) → _) hsp
/-- the handlers do what fr says -/
def HdOk (X : Cx) (T : Tb) (W : WX) (hds : List ExceptHandler) (fr : Nat → List D → Env → Out) : Prop :=
  ∃ l, HdsA X hds l ∧ ∀ (D : Ends) (e : Env) (c : Nat) (ds : List E.D) (od : Option Addr) (σ : L2.St) (G0 H0 Gs H G : Hp), Rel T X.K [] G0 H0 σ H G e → Same Gs G → ExcAt T X.K G c ds od → PostS T X.K W [] [] G0 H0 Gs D (fr c ds e) → wAll X.K W D l (.ref (T.ca c)) od σ H
theorem hd_nil : HdOk X T W [] (fun c l e => .ex e c l) := ⟨[], .nil, fun D e c ds od σ G0 H0 Gs H G r g ea p => p od σ H G r g ea⟩
theorem hd_cons {sub : Nat → Nat → Option Bool} {i k : Nat} {x nm : Str} {suite : List Stmt} {b0 : Stmt} {np hp : Pos} {hds : List ExceptHandler} {fh : Env → Out} {fr : Nat → List D → Env → Out} (hi : X.N[i]? = some nm) (hln : X.env.kindOf nm = some .local)
    (C : ClsNm X T sub x k) (hg : Gl X x) (hz : ∀ G, T.z G) (hze : ∀ e σ, T.ze e σ)
    (hh : ∀ (a : Addr) (oe : Obj) (od : Option Addr) (pn : List (Addr × Obj)) (c : Nat) (l : List D), L2N.Zn (.ref (T.ca c)) od oe → (∃ vs, oe.data = .fields vs) → (∃ b, sub c k = some b) → SSs (X.suite a ((a, oe) :: pn)) (suT T X.K i a c l od) noW [] [] [] (b0 :: suite) fh)
    (hr : HdOk X T W hds fr) : HdOk X T W (.ExceptHandler (some (.Name x np)) (some nm) (b0 :: suite) hp :: hds) (hdStep sub i k fh fr) := by
  obtain ⟨lr, hlr, key⟩ := hr
  obtain ⟨cv, v, h1, h2, h3, h4, h5⟩ := C.ex
  refine ⟨(cv, i, fun a cls d D σ H => ∃ c l, cls = .ref (T.ca c) ∧ (∃ b, sub c k = some b) ∧ cS X (suT T X.K i a c l d) noW [] [] [] fh D σ H) :: lr,
    .cons ⟨hg, h3, h4⟩ hi hln (fun a oe cls d pn z f => ⟨fun pins s σ H D I ⟨c, l, e1, e2, q⟩ => (hh a oe d pn c l (by rw [← e1]; exact z) f e2).run pins s σ H D I q⟩) hlr, fun D e' c l od σ' G0 H0 Gs H' G' r' g' ea p => ?_⟩
  unfold hdStep at p
  cases hsub : sub c k with
  | none => simp only [hsub, omO_none] at p; exact p.elim
  | some b =>
    simp only [hsub, omO_some] at p
    refine ⟨b, (h5 c b hsub).2, fun hb a ha => ?_, fun hb => ?_⟩
    · subst hb
      rw [if_pos rfl] at p
      have hlt : i < e'.length := by
        apply Classical.byContradiction
        intro z
        rw [if_neg z] at p
        exact p
      rw [if_pos hlt] at p
      refine ⟨c, l, rfl, ⟨true, hsub⟩, G0, H0, Gs, G', e'.set i (some (.exc c l)), r'.toSu hlt ea, g', ?_⟩
      cases q2 : fh (e'.set i (some (.exc c l))) with
      | nx e2 =>
        rw [q2] at p
        exact fun σ2 H2 G2 r2 g2 => p _ _ _ (r2.fromSu hz hze) g2
      | rt d =>
        rw [q2] at p
        exact fun v H2 G2 x2 rv => p v H2 G2 x2 (rep_T (T := suT T X.K i a c l od) (T' := T) rfl rfl _ _ rv)
      | bk e2 =>
        rw [q2] at p
        exact fun σ2 H2 G2 r2 g2 => p _ _ _ (r2.fromSu hz hze) g2
      | ct e2 =>
        rw [q2] at p
        exact fun σ2 H2 G2 r2 g2 => p _ _ _ (r2.fromSu hz hze) g2
      | ex e2 c2 l2 => rw [q2] at p; exact p.elim
      | bad => rw [q2] at p; exact p.elim
    · subst hb
      rw [if_neg (by simp)] at p
      exact key D e' c l od σ' G0 H0 Gs H' G' r' g' ea p
theorem ss_try {body : List Stmt} {h0 : ExceptHandler} {hds : List ExceptHandler} {pos : Pos} {fb : Env → Out} {fr : Nat → List D → Env → Out} (hs : X.stack = X.env :: X.outer) (hf : X.env.frame = some X.env.locals) (hN : X.N.Nodup) (tk : L2N.Takes X W)
    (hb : ∀ (W : WX) (pn : List (Addr × Obj)) (xe : Value → Shared → Prop), L2N.Takes (X.tr pn xe) W → PassesOwn (model X.prog X.w) X.A X.env xe → SSs (X.tr pn xe) T W O [] L body fb)
    (hh : HdOk X T W (h0 :: hds) fr) (hL : L = []) : SS X T W O [] L (.Try body (h0 :: hds) [] [] pos) (tryF fb fr) := by
  subst hL
  obtain ⟨l, hl, key⟩ := hh
  have kk := ps_tryA (pos := pos) (tb := fun W => cS X T W O [] [] fb) hs hf hN tk hb hl
  refine ⟨fun pins s σ H D I ⟨G0, H0, Gs, G, e, r, gs, p⟩ => kk.run pins s σ H D I ⟨G0, H0, Gs, G, e, r, gs, ?_⟩⟩
  unfold tryF at p
  cases q : fb e with
  | nx e' => rw [q] at p; exact p
  | rt d => rw [q] at p; exact p
  | bk e' => rw [q] at p; exact p
  | ct e' => rw [q] at p; exact p
  | bad => rw [q] at p; exact p
  | ex e' c l2 =>
    rw [q] at p
    exact fun od σ' H' G' r' g' ea => key D e' c l2 od σ' G0 H0 Gs H' G' r' g' ea p
end
end E

set_option autoImplicit false
set_option linter.all false
set_option Elab.async false
set_option maxRecDepth 100000
/-! E16: the check of the small language against the program's form, and its soundness: expressions. -/
namespace E
open PySem PySem.Spec PyProof.Rows L2

structure Scp where
  N : List Str
  sc : Scope
  raw : Scope
  calm : Bool := true
  stm : Bool := true
  tr : Bool := true
  fns : List (Nat × Str × Nat) := []
  hot : List (Nat × Str × Nat) := []
  glb : List (Str × D) := []
  fl : List (List Str) := []
  ics : List Nat := []
  xcs : List (Str × Nat) := []
  cn : List (Str × Nat) := []
  gds : List (Str × List (List Nat) × List (List Nat)) := []
  iscs : List (Nat × Str) := []
  ex : Option (Nat × Str) := none
  pr : List Nat := []
def bnames : List Str := ["len", "int", "min", "max", "sum", "sorted", "str", "tuple", "list", "all", "any", "range", "enumerate", "zip", "reversed", "abs", "bool", "isinstance", "set", "dict"]
def visN (sc : Scope) (x : Str) : Bool := decide (sc.names.lookup x = some .local) || decide (sc.names.lookup x = some .cell) || decide (sc.names.lookup x = some .free)
def gl (S : Scp) (x : Str) : Bool := decide (S.sc.names.lookup x = some .globalImplicit)
def ndb (x : Str) : Bool := !(x == ("__debug__" : Str)) && !(x == ("__classdict__" : Str))
def nameOk (S : Scp) (i : Nat) (x : Str) : Bool := decide (S.N[i]? = some x) && visN S.sc x && ndb x
def stoOk (S : Scp) (i : Nat) (x : Str) : Bool := decide (S.N[i]? = some x) && (decide (S.raw.names.lookup x = some .local) || decide (S.raw.names.lookup x = some .cell))
/-- contexts of one place in the run -/
structure Core (X X' : Cx) : Prop where
  prog : X'.prog = X.prog
  w : X'.w = X.w
  K : X'.K = X.K
  mg : X'.mg = X.mg
  base : X'.base = X.base
  A : X'.A = X.A
  pn : X.calm = true ∨ ∀ q ∈ X.pn, q ∈ X'.pn
theorem Core.refl (X : Cx) : Core X X := ⟨rfl, rfl, rfl, rfl, rfl, rfl, .inr fun _ h => h⟩
theorem Core.trans {X Y Z : Cx} (a : Core X Y) (b : Core Y Z) (hc : X.calm = true → Y.calm = true) (hc2 : Y.calm = true → X.calm = true) : Core X Z := ⟨b.prog.trans a.prog, b.w.trans a.w, b.K.trans a.K, b.mg.trans a.mg, b.base.trans a.base, b.A.trans a.A, by
  rcases a.pn with h | h
  · exact .inl h
  · rcases b.pn with h2 | h2
    · exact .inl (hc2 h2)
    · exact .inr fun q hq => h2 q (h q hq)⟩
structure Fx (X : Cx) (T : Tb) (W : WX) (Φ : Nat → List D → Res D) (sub : Nat → Nat → Option Bool) (S : Scp) : Prop where
  hN : X.N = S.N
  nd : X.N.Nodup
  sc : X.env.scope = S.sc
  stl : ∀ x, S.raw.names.lookup x = some .local → S.sc.names.lookup x = some .local
  stc : ∀ x, S.raw.names.lookup x = some .cell → X.fn x = true ∧ S.sc.names.lookup x = some .cell
  calm : S.calm = true → X.calm = true
  hu : X.A.units + 65 < cLine
  bi : ∀ x ∈ bnames, X.mg x = none
  glb : ∀ p ∈ S.glb, ∃ v u, X.mg p.1 = some u ∧ RelV v u ∧ ∀ G, Rep T X.K G p.2 v
  fl : ∀ c fs, S.fl[c]? = some fs → T.fl c = fs
  ins : ∀ c ∈ S.ics, ClsOk X.K (T.ca c) (T.fl c)
  gd : ∀ q ∈ S.gds, GdOk X.K X.w X.mg q.1 q.2.1 q.2.2
  isc : ∀ q ∈ S.iscs, IscOk X.K X.mg (T.ca q.1) q.2
  fn : ∀ p ∈ S.fns, ∀ (X' : Cx) (W' : WX), Core X X' → L2N.Takes X' W' → CallOk X' T W' (Φ p.1) p.2.1 p.2.2
  tk : L2N.Takes X W
  pr : T.pr = S.pr
  efl : ∀ i nm, S.ex = some (i, nm) → ∀ (O : List Nat) (c j : Nat) (f : Str) (p pos : Pos), (T.fl c)[j]? = some f → Vis X.env.scope nm → X.N[i]? = some nm → ndb nm = true → SE X T W O (.Attribute (.Name nm p) f pos) (efldF i c j)
  eis : ∀ i nm, S.ex = some (i, nm) → ∀ q ∈ S.cn, ∀ (O : List Nat) (p p2 p3 pos : Pos), Vis X.env.scope nm → X.N[i]? = some nm → ndb nm = true → Gl X "isinstance" → Gl X q.1 → SE X T W O (.Call (.Name "isinstance" p) [.Name nm p2, .Name q.1 p3] [] pos) (eisiF sub i q.2)
section
variable {X : Cx} {T : Tb} {W : WX} {Φ : Nat → List D → Res D} {sub : Nat → Nat → Option Bool} {S : Scp}
theorem Fx.vis (F : Fx X T W Φ sub S) {x : Str} (h : visN S.sc x = true) : Vis X.env.scope x := by
  rw [F.sc]
  unfold visN at h
  simp only [Bool.or_eq_true, decide_eq_true_eq] at h
  rcases h with (h | h) | h
  · exact .inl h
  · exact .inr (.inl h)
  · exact .inr (.inr h)
theorem Fx.gl (F : Fx X T W Φ sub S) {x : Str} (h : E.gl S x = true) : Gl X x := by
  unfold E.gl at h
  show X.env.scope.names.lookup x = _
  rw [F.sc]
  exact of_decide_eq_true h
theorem Fx.nm (F : Fx X T W Φ sub S) {i : Nat} {x : Str} (h : nameOk S i x = true) : X.N[i]? = some x ∧ Vis X.env.scope x ∧ (x == ("__debug__" : Str)) = false ∧ (x == ("__classdict__" : Str)) = false := by
  unfold nameOk ndb at h
  simp only [Bool.and_eq_true, decide_eq_true_eq, Bool.not_eq_true'] at h
  exact ⟨by rw [F.hN]; exact h.1.1, F.vis h.1.2, h.2.1, h.2.2⟩
theorem Fx.sto (F : Fx X T W Φ sub S) {i : Nat} {x : Str} (h : stoOk S i x = true) : X.N[i]? = some x ∧ Loc X.env.scope x ∧ (X.fn x = true ∨ X.env.scope.names.lookup x = some .local) := by
  unfold stoOk at h
  simp only [Bool.and_eq_true, Bool.or_eq_true, decide_eq_true_eq] at h
  refine ⟨by rw [F.hN]; exact h.1, ?_⟩
  rw [F.sc]
  rcases h.2 with h | h
  · exact ⟨.inl (F.stl x h), .inr (F.stl x h)⟩
  · exact ⟨.inr (F.stc x h).2, .inl (F.stc x h).1⟩
end
def binOk : Op2 → Operator → Bool
  | .add, .Add => true | .sub, .Sub => true | .mul, .Mult => true | .fdiv, .FloorDiv => true | .mod, .Mod => true | .pow, .Pow => true | _, _ => false
theorem binOk_eq {o : Op2} {op : Operator} (h : binOk o op = true) : binO o = some op := by cases o <;> cases op <;> first | rfl | cases h
def cmpOk : Op2 → CmpOp → Bool
  | .eq, .Eq => true | .ne, .NotEq => true | .lt, .Lt => true | .le, .LtE => true | .gt, .Gt => true | .ge, .GtE => true | .in_, .In => true | .notIn, .NotIn => true | _, _ => false
theorem cmpOk_eq {o : Op2} {op : CmpOp} (h : cmpOk o op = true) : cmpO o = some op := by cases o <;> cases op <;> first | rfl | cases h
def notSet : Expr → Bool
  | .Set _ _ _ => false
  | _ => true
theorem notSet_ok {e : Expr} {env : PySem.Env} (h : notSet e = true) : ∀ x, foldedSetIterable e env x = pure x := by
  intro x
  cases e <;> first | rfl | cases h
/-- targets: names -/
def chkNs (S : Scp) : List Nat → List Expr → Bool
  | [], [] => true
  | i :: is, .Name x _ :: es => stoOk S i x && chkNs S is es
  | _, _ => false
def chkT (S : Scp) (t : List Nat) (one : Bool) (tg : Expr) : Bool := match tg with
  | .Name x _ => one && (match t with | [i] => stoOk S i x | _ => false)
  | .Tuple es _ _ => !one && S.calm && chkNs S t es
  | _ => false
def blkS (S : Scp) (scope : Scope) : Scp := { S with sc := relS scope S.sc, raw := scope, stm := false, ex := none }
def ownOf (S : Scp) (t : List Nat) : List (Str × Nat) := t.map fun i => (S.N.getD i (Str.ofString ""), i)
/-- fit as tests -/
def okT : C → Bool
  | .ite _ _ _ => false
  | .and a b => okT a && okT b
  | .or a b => okT a && okT b
  | .not a => okT a
  | .one a => okT a
  | _ => true
def disj (t O pr : List Nat) : Bool := t.all fun i => !O.contains i && !pr.contains i
mutual
def chkE (S : Scp) (O : List Nat) (rd : Bool) : C → Expr → Bool
  | .var i, x => match x with
    | .Name n _ => nameOk S i n && (rd || !O.contains i)
    | _ => false
  | .non, x => match x with
    | .Constant .none _ _ => true
    | _ => false
  | .bl b, x => match x with
    | .Constant (.bool c) _ _ => b == c
    | _ => false
  | .int i, x => match x with
    | .Constant (.int j) _ _ => i == j
    | _ => false
  | .str s, x => match x with
    | .Constant (.str y) _ _ => y.cps.toList == s
    | _ => false
  | .glb x d, e => match e with
    | .Name n _ => n.cps.toList == x && gl S n && S.glb.any (fun p => p.1 == n && eqD p.2 d) && ndb n
    | _ => false
  | .op o a b, x => match x with
    | .BinOp p op q _ => binOk o op && chkE S O true a p && chkE S O true b q
    | .Compare p [op] [q] _ => cmpOk o op && !behindInMarks op q && chkE S O true a p && chkE S O true b q
    | _ => false
  | .chn o1 o2 a b c, x => match x with
    | .Compare p [op, op'] [q, r] _ => cmpOk o1 op && cmpOk o2 op' && !lastMarks [op, op'] [q, r] && chkE S O true a p && chkE S O true b q && chkE S O true c r
    | _ => false
  | .neg a, x => match x with
    | .UnaryOp .USub p _ => chkE S O true a p
    | _ => false
  | .one a, x => match x with
    | .BoolOp _ [p] _ => chkE S O rd a p
    | _ => false
  | .and a b, x => match x with
    | .BoolOp .And (p :: q :: rest) pos => chkE S O rd a p && chkE S O rd b (.BoolOp .And (q :: rest) pos)
    | _ => false
  | .or a b, x => match x with
    | .BoolOp .Or (p :: q :: rest) pos => chkE S O rd a p && chkE S O rd b (.BoolOp .Or (q :: rest) pos)
    | _ => false
  | .not a, x => match x with
    | .UnaryOp .Not p _ => chkE S O true a p
    | _ => false
  | .ite c a b, x => match x with
    | .IfExp p q r _ => okT c && chkE S O true c p && chkE S O false a q && chkE S O false b r
    | _ => false
  | .is_ d neg a, x => match x with
    | .Compare p [op] [k] _ => isK d k && (match op with | .Is => !neg | .IsNot => neg | _ => false) && chkE S O true a p
    | _ => false
  | .isi a k, x => match x with
    | .Call (.Name f _) [p, .Name n _] [] _ => f == ("isinstance" : Str) && gl S f && isB k && n == kdN k && gl S n && noStar p && chkE S O true a p
    | _ => false
  | .isi2 a k k2, x => match x with
    | .Call (.Name f _) [p, .Tuple [.Name n _, .Name n2 _] _ _] [] _ => f == ("isinstance" : Str) && gl S f && isB k && isB k2 && n == kdN k && gl S n && n2 == kdN k2 && gl S n2 && noStar p && chkE S O true a p
    | _ => false
  | .call k nm as, x => match x with
    | .Call (.Name f _) es [] _ => f.cps.toList == nm && gl S f && S.fns.any (fun p => p.1 == k && p.2.1 == f && p.2.2 == es.length) && es.all noStar && chkL S O as es
    | _ => false
  | .bi f as, x => match x with
    | .Call (.Name n _) [p] [] _ => if f = .sset then (match p with
        | .Call (.Name m _) [q] [] _ => n == ("sorted" : Str) && m == ("set" : Str) && gl S n && gl S m && noStar q && S.calm && (match as with | .cons a .nil => chkE S O true a q | _ => false)
        | _ => false) else n == biN f && gl S n && noStar p && (b1s.contains f && (S.calm || f == .len || f == .int)) && (match as with | .cons a .nil => chkE S O true a p | _ => false)
    | .Call (.Name n _) [p, q] [] _ => n == biN f && gl S n && noStar p && noStar q && S.calm && (f == .min2 || f == .max2) && (match as with | .cons a (.cons b .nil) => chkE S O true a p && chkE S O true b q | _ => false)
    | _ => false
  | .mt m a as, x => match x with
    | .Call (.Attribute o n ap) [p] [] pos => n == mtN m && noStar p && noSup o && ap.endLine == pos.line && chkE S O true a o && (match as with | .cons b .nil => chkE S O true b p | _ => false)
    | _ => false
  | .idx a b, x => match x with
    | .Subscript p q _ => plainIx q && chkE S O true a p && chkE S O true b q
    | _ => false
  | .slc a lo hi, x => match x with
    | .Subscript p (.Slice l h none _) _ => chkE S O true a p && (match lo, l with
        | .nil, none => true
        | c, some e => chkE S O true c e
        | _, _ => false) && (match hi, h with
        | .nil, none => true
        | c, some e => chkE S O true c e
        | _, _ => false)
    | _ => false
  | .rev a, x => match x with
    | .Subscript p (.Slice none none (some (.UnaryOp .USub (.Constant (.int j) _ _) _)) _) _ => j == 1 && chkE S O true a p
    | _ => false
  | .tup as, x => match x with
    | .Tuple es _ _ => chkL S O as es
    | _ => false
  | .lst as, x => match x with
    | .List es _ => chkL S O as es
    | _ => false
  | .lc t one it cnd elt, x => match x with
    | .ListComp el [⟨tg, iter, ifs, z⟩] scope _ => z == 0 && S.calm && notSet iter && disj t O S.pr && blkC S.N S.sc scope (ownOf S t) && chkT (blkS S scope) t one tg &&
        (match it, iter with
          | .bi .rng1 (.cons a .nil), .Call (.Name n _) [p] [] _ => n == ("range" : Str) && gl S n && noStar p && chkE S O true a p
          | .bi .rng2 (.cons a (.cons b .nil)), .Call (.Name n _) [p, q] [] _ => n == ("range" : Str) && gl S n && noStar p && noStar q && chkE S O true a p && chkE S O true b q
          | .bi .enum (.cons a .nil), .Call (.Name n _) [p] [] _ => n == ("enumerate" : Str) && gl S n && noStar p && (match tg with | .Tuple _ _ _ => true | _ => false) && chkE S O false a p
          | c, y => chkE S O false c y) &&
        (match ifs with
          | [] => (match cnd with | .bl true => true | _ => false)
          | [c] => okT cnd && chkE (blkS S scope) O true cnd c
          | _ => false) && chkE (blkS S scope) O false elt el
    | _ => false
  | .fld c j a, x => match x with
    | .Attribute p n _ => S.ics.contains c && (match S.fl[c]? with | some fs => decide (fs[j]? = some n) | none => false) && noSup p && chkE S O true a p
    | _ => false
  | .efld i c j, x => match x with
    | .Attribute (.Name n _) f _ => (match S.ex with | some (i', nm) => i' == i && n == nm | none => false) && nameOk S i n && (match S.fl[c]? with | some fs => decide (fs[j]? = some f) | none => false)
    | _ => false
  | .eisi i k, x => match x with
    | .Call (.Name f _) [.Name n _, .Name cn _] [] _ => f == ("isinstance" : Str) && gl S f && (match S.ex with | some (i', nm) => i' == i && n == nm | none => false) && nameOk S i n && gl S cn && S.cn.any (fun q => q.1 == cn && q.2 == k)
    | _ => false
  | .mth _ _ _ _ _, _ => false
  | .gdx nm ks vs a, x => match x with
    | .Subscript (.Name n _) q _ => n.cps.toList == nm && gl S n && ndb n && S.gds.any (fun p => p.1 == n && p.2.1 == ks && p.2.2 == vs) && plainIx q && chkE S O true a q
    | _ => false
  | .gdi neg nm ks vs a, x => match x with
    | .Compare p [op] [.Name n ps] _ => (match op with | .In => !neg | .NotIn => neg | _ => false) && n.cps.toList == nm && gl S n && ndb n && S.gds.any (fun p => p.1 == n && p.2.1 == ks && p.2.2 == vs) && !behindInMarks op (.Name n ps) && chkE S O true a p
    | _ => false
  | .isc k nm a, x => match x with
    | .Call (.Name f _) [p, .Name n _] [] _ => f == ("isinstance" : Str) && gl S f && n.cps.toList == nm && gl S n && ndb n && S.iscs.any (fun q => q.1 == k && q.2 == n) && noStar p && chkE S O true a p
    | _ => false
  | .fst as, x => match x with
    | .JoinedStr (v1 :: v2 :: rest) _ => chkJ S O as (v1 :: v2 :: rest)
    | _ => false
  | .nil, _ => false
  | .cons _ _, _ => false
def chkJ (S : Scp) (O : List Nat) : C → List Expr → Bool
  | .nil, es => match es with | [] => true | _ => false
  | .cons a r, es => match es with
    | e :: es => (match e with
      | .Constant (.str y) _ _ => (match a with | .str s => y.cps.toList == s | _ => false)
      | .FormattedValue p j none _ => j == -1 && chkE S O true a p
      | _ => false) && chkJ S O r es
    | _ => false
  | _, _ => false
def chkL (S : Scp) (O : List Nat) : C → List Expr → Bool
  | .nil, es => match es with | [] => true | _ => false
  | .cons a r, es => match es with
    | e :: es => noStar e && chkE S O false a e && chkL S O r es
    | _ => false
  | _, _ => false
end
end E

set_option autoImplicit false
set_option linter.all false
set_option Elab.async false
set_option maxRecDepth 100000
/-! E17: soundness of the check of expressions. -/
namespace E
open PySem PySem.Spec PyProof.Rows L2

mutual
theorem eqD_eq : ∀ (a b : D), eqD a b = true → a = b
  | .non, b, h => by cases b <;> first | rfl | cases h
  | .bl x, b, h => by cases b <;> first | cases h | skip; simp [eqD] at h; rw [h]
  | .int x, b, h => by cases b <;> first | cases h | skip; simp [eqD] at h; rw [h]
  | .str x, b, h => by cases b <;> first | cases h | skip; simp [eqD] at h; rw [h]
  | .tup x, b, h => by cases b <;> first | cases h | skip; rw [eqDL_eq x _ (by simpa [eqD] using h)]
  | .lst x, b, h => by cases b <;> first | cases h | skip; rw [eqDL_eq x _ (by simpa [eqD] using h)]
  | .dic _ _, b, h => by cases b <;> cases h
  | .set _, b, h => by cases b <;> cases h
  | .ins _ _, b, h => by cases b <;> cases h
  | .exc _ _, b, h => by cases b <;> cases h
  | .scr _, b, h => by cases b <;> cases h
theorem eqDL_eq : ∀ (a b : List D), eqDL a b = true → a = b
  | [], [], _ => rfl
  | [], _ :: _, h => by cases h
  | _ :: _, [], h => by cases h
  | x :: xs, y :: ys, h => by
    simp only [eqDL, Bool.and_eq_true] at h
    rw [eqD_eq x y h.1, eqDL_eq xs ys h.2]
end
theorem chk_mono {S : Scp} {O : List Nat} : ∀ (c : C) (x : Expr), chkE S O false c x = true → chkE S O true c x = true
  | .var i, x, h => by
    cases x <;> first | (cases h; done) | skip
    simp only [chkE, Bool.and_eq_true, Bool.false_or, Bool.true_or, Bool.and_true] at h ⊢
    exact h.1
  | .one a, x, h => by
    unfold chkE at h ⊢
    split at h
    · exact chk_mono a _ h
    · cases h
  | .non, x, h => h
  | .bl _, x, h => h
  | .int _, x, h => h
  | .str _, x, h => h
  | .glb _ _, x, h => h
  | .op _ _ _, x, h => h
  | .chn _ _ _ _ _, x, h => h
  | .neg _, x, h => h
  | .and a b, x, h => by
    unfold chkE at h ⊢
    split at h
    · simp only [Bool.and_eq_true] at h ⊢
      exact ⟨chk_mono a _ h.1, chk_mono b _ h.2⟩
    · cases h
  | .or a b, x, h => by
    unfold chkE at h ⊢
    split at h
    · simp only [Bool.and_eq_true] at h ⊢
      exact ⟨chk_mono a _ h.1, chk_mono b _ h.2⟩
    · cases h
  | .not _, x, h => h
  | .ite _ _ _, x, h => h
  | .is_ _ _ _, x, h => h
  | .isi _ _, x, h => h
  | .isi2 _ _ _, x, h => h
  | .call _ _ _, x, h => h
  | .bi _ _, x, h => by unfold chkE at h ⊢; exact h
  | .mt _ _ _, x, h => by unfold chkE at h ⊢; exact h
  | .idx _ _, x, h => h
  | .slc _ _ _, x, h => by unfold chkE at h ⊢; exact h
  | .rev _, x, h => h
  | .tup _, x, h => h
  | .lst _, x, h => h
  | .lc _ _ _ _ _, x, h => by unfold chkE at h ⊢; exact h
  | .fld _ _ _, x, h => h
  | .efld _ _ _, x, h => h
  | .eisi _ _, x, h => h
  | .mth _ _ _ _ _, x, h => h
  | .gdx _ _ _ _, x, h => h
  | .gdi _ _ _ _ _, x, h => h
  | .isc _ _ _, x, h => h
  | .fst _, x, h => by unfold chkE at h ⊢; exact h
  | .nil, x, h => h
  | .cons _ _, x, h => h
section
variable (Φ : Nat → List D → Res D) (sub : Nat → Nat → Option Bool)
theorem evL_len : ∀ (c : C) (e : Env) (xs : List D) (S : Scp) (O : List Nat) (es : List Expr), chkL S O c es = true → evL Φ sub c e = .ok xs → xs.length = es.length := by
  intro c
  induction c with
  | nil =>
    intro e xs S O es h h2
    cases es with
    | nil => simp only [evL] at h2; cases h2; rfl
    | cons _ _ => simp [chkL] at h
  | cons a r _ ih =>
    intro e xs S O es h h2
    cases es with
    | nil => simp [chkL] at h
    | cons y ys =>
      simp only [chkL, Bool.and_eq_true] at h
      simp only [evL] at h2
      cases q : ev Φ sub a e with
      | ok d =>
        rw [q] at h2
        simp only [bd_ok] at h2
        cases q2 : evL Φ sub r e with
        | ok ds =>
          rw [q2] at h2
          simp only [bd_ok] at h2
          cases h2
          simp [ih e ds S O ys h.2 q2]
        | err c l => rw [q2] at h2; cases h2
        | bad => rw [q2] at h2; cases h2
      | err c l => rw [q] at h2; cases h2
      | bad => rw [q] at h2; cases h2
  | _ => intro e xs S O es h; simp [chkL] at h
theorem noStar_all {S : Scp} {O : List Nat} : ∀ (c : C) (es : List Expr), chkL S O c es = true → es.all noStar = true := by
  intro c
  induction c with
  | nil =>
    intro es h
    cases es with
    | nil => rfl
    | cons _ _ => simp [chkL] at h
  | cons a r _ ih =>
    intro es h
    cases es with
    | nil => rfl
    | cons y ys =>
      simp only [chkL, Bool.and_eq_true] at h
      simp [h.1.1, ih ys h.2]
  | _ => intro es h; simp [chkL] at h
/-- what is shown of each -/
structure Pe (c : C) : Prop where
  e : ∀ (S : Scp) (X : Cx) (T : Tb) (W : WX) (O : List Nat), Fx X T W Φ sub S → ∀ (x : Expr) (rd : Bool), chkE S O rd c x = true → SR X T W O x (ev Φ sub c) ∧ (rd = false → SE X T W O x (ev Φ sub c))
  w : ∀ (S : Scp) (X : Cx) (T : Tb) (W : WX) (O : List Nat), Fx X T W Φ sub S → ∀ (op : BoolOp) (ys : List Expr) (pos : Pos), okT c = true → chkE S O true c (.BoolOp op ys pos) = true → SW X T W O (.BoolOp op ys pos) (fun e => (ev Φ sub c e).bd truth)
  b : ∀ (S : Scp) (X : Cx) (T : Tb) (W : WX) (O : List Nat), Fx X T W Φ sub S → ∀ (x : Expr), okT c = true → chkE S O true c x = true → SB X T W O x (fun e => (ev Φ sub c e).bd truth)
end
section
variable {Φ : Nat → List D → Res D} {sub : Nat → Nat → Option Bool}
theorem Pe.of {c : C} (e : ∀ (S : Scp) (X : Cx) (T : Tb) (W : WX) (O : List Nat), Fx X T W Φ sub S → ∀ (x : Expr) (rd : Bool), chkE S O rd c x = true → SE X T W O x (ev Φ sub c) ∧ truE x = true) : Pe Φ sub c where
  e := fun S X T W O F x rd h => ⟨(e S X T W O F x rd h).1.sr, fun _ => (e S X T W O F x rd h).1⟩
  w := fun S X T W O F op ys pos _ h => by have := (e S X T W O F _ true h).2; cases this
  b := fun S X T W O F x _ h => sb_truth (e S X T W O F x true h).1.sr (e S X T W O F x true h).2
theorem Pe.sr {c : C} (P : Pe Φ sub c) {S : Scp} {X : Cx} {T : Tb} {W : WX} {O : List Nat} (F : Fx X T W Φ sub S) {x : Expr} {rd : Bool} (h : chkE S O rd c x = true) : SR X T W O x (ev Φ sub c) := (P.e S X T W O F x rd h).1
theorem Pe.se {c : C} (P : Pe Φ sub c) {S : Scp} {X : Cx} {T : Tb} {W : WX} {O : List Nat} (F : Fx X T W Φ sub S) {x : Expr} (h : chkE S O false c x = true) : SE X T W O x (ev Φ sub c) := (P.e S X T W O F x false h).2 rfl
theorem pe_cvar (i : Nat) : Pe Φ sub (.var i) where
  e := fun S X T W O F x rd h => by
    cases x <;> first | (cases h; done) | skip
    simp only [chkE, Bool.and_eq_true] at h
    obtain ⟨h1, h2, h3, h4⟩ := F.nm h.1
    have e1 : ev Φ sub (.var i) = look i := by funext e; rw [ev]
    rw [e1]
    refine ⟨sr_own h1 h2 h3 h4, fun hr => se_var h1 h2 h3 h4 ?_⟩
    subst hr
    simpa using h.2
  w := fun S X T W O F op ys pos _ h => by cases h
  b := fun S X T W O F x _ h => by
    cases x <;> first | (cases h; done) | skip
    simp only [chkE, Bool.and_eq_true] at h
    obtain ⟨h1, h2, h3, h4⟩ := F.nm h.1
    have e1 : ev Φ sub (.var i) = look i := by funext e; rw [ev]
    rw [e1]
    exact sb_truth (sr_own h1 h2 h3 h4) rfl
theorem pe_cnon : Pe Φ sub .non := .of fun S X T W O F x rd h => by
  unfold chkE at h
  split at h
  · exact ⟨by rw [show ev Φ sub .non = fun _ => .ok .non by funext e; rw [ev]]; exact se_non, rfl⟩
  · cases h
theorem pe_cbl (b : Bool) : Pe Φ sub (.bl b) := .of fun S X T W O F x rd h => by
  unfold chkE at h
  split at h
  · rename_i c _ _
    have e : b = c := by simpa using h
    subst e
    exact ⟨by rw [show ev Φ sub (.bl b) = fun _ => .ok (.bl b) by funext e; rw [ev]]; exact se_bl, rfl⟩
  · cases h
theorem pe_cint (i : Int) : Pe Φ sub (.int i) := .of fun S X T W O F x rd h => by
  unfold chkE at h
  split at h
  · rename_i c _ _
    have e : i = c := by simpa using h
    subst e
    exact ⟨by rw [show ev Φ sub (.int i) = fun _ => .ok (.int i) by funext e; rw [ev]]; exact se_int, rfl⟩
  · cases h
theorem pe_cstr (s : List Nat) : Pe Φ sub (.str s) := .of fun S X T W O F x rd h => by
  unfold chkE at h
  split at h
  · exact ⟨by rw [show ev Φ sub (.str s) = fun _ => .ok (.str s) by funext e; rw [ev]]; exact se_str (by simpa using h), rfl⟩
  · cases h
theorem pe_cglb (n : List Nat) (d : D) : Pe Φ sub (.glb n d) := .of fun S X T W O F x rd h => by
  unfold chkE at h
  split at h
  · rename_i y pos
    simp only [Bool.and_eq_true, List.any_eq_true, beq_iff_eq] at h
    obtain ⟨⟨⟨h1, h2⟩, ⟨p, hp, e1, e2⟩⟩, h4⟩ := h
    obtain ⟨v, u, q1, q2, q3⟩ := F.glb p hp
    rw [e1] at q1
    rw [eqD_eq _ _ e2] at q3
    have h5 : (y == ("__debug__" : Str)) = false := by
      unfold ndb at h4
      simp only [Bool.and_eq_true, Bool.not_eq_true'] at h4
      exact h4.1
    refine ⟨by rw [show ev Φ sub (.glb n d) = fun _ => .ok d by funext e; rw [ev]]; exact se_glb (F.gl h2) q1 q2 q3 h5, rfl⟩
  · cases h
theorem pe_cop {o : Op2} {a b : C} (ha : Pe Φ sub a) (hb : Pe Φ sub b) : Pe Φ sub (.op o a b) := by
  have e1 : ev Φ sub (.op o a b) = fun e => (ev Φ sub a e).bd fun x => (ev Φ sub b e).bd fun y => op2 o x y := by funext e; rw [ev]
  refine ⟨fun S X T W O F x rd h => ?_, fun S X T W O F op ys pos _ h => (by cases h), fun S X T W O F x _ h => ?_⟩
  · unfold chkE at h
    rw [e1]
    split at h
    · simp only [Bool.and_eq_true] at h
      have := se_op (pos := ‹_›) (binOk_eq h.1.1) (ha.sr F h.1.2) (hb.sr F h.2)
      exact ⟨this.sr, fun _ => this⟩
    · simp only [Bool.and_eq_true, Bool.not_eq_true'] at h
      have := se_cmp (pos := ‹_›) F.hu (cmpOk_eq h.1.1.1) h.1.1.2 (ha.sr F h.1.2) (hb.sr F h.2)
      exact ⟨this.sr, fun _ => this⟩
    · cases h
  · unfold chkE at h
    rw [e1]
    split at h
    · simp only [Bool.and_eq_true] at h
      exact sb_truth (se_op (binOk_eq h.1.1) (ha.sr F h.1.2) (hb.sr F h.2)).sr rfl
    · simp only [Bool.and_eq_true, Bool.not_eq_true'] at h
      exact sb_cmp F.hu (cmpOk_eq h.1.1.1) h.1.1.2 (ha.sr F h.1.2) (hb.sr F h.2)
    · cases h
theorem pe_cchn {o1 o2 : Op2} {a b c : C} (ha : Pe Φ sub a) (hb : Pe Φ sub b) (hc : Pe Φ sub c) : Pe Φ sub (.chn o1 o2 a b c) := by
  have e1 : ev Φ sub (.chn o1 o2 a b c) = chnF o1 o2 (ev Φ sub a) (ev Φ sub b) (ev Φ sub c) := by funext e; rw [ev]; rfl
  refine ⟨fun S X T W O F x rd h => ?_, fun S X T W O F op ys pos _ h => (by cases h), fun S X T W O F x _ h => ?_⟩
  · unfold chkE at h
    rw [e1]
    split at h
    · simp only [Bool.and_eq_true, Bool.not_eq_true'] at h
      have := se_chn (pos := ‹_›) F.hu (cmpOk_eq h.1.1.1.1.1) (cmpOk_eq h.1.1.1.1.2) h.1.1.1.2 (ha.sr F h.1.1.2) (hb.sr F h.1.2) (hc.sr F h.2)
      exact ⟨this.sr, fun _ => this⟩
    · cases h
  · unfold chkE at h
    rw [e1]
    split at h
    · simp only [Bool.and_eq_true, Bool.not_eq_true'] at h
      exact sb_chn F.hu (cmpOk_eq h.1.1.1.1.1) (cmpOk_eq h.1.1.1.1.2) h.1.1.1.2 (ha.sr F h.1.1.2) (hb.sr F h.1.2) (hc.sr F h.2)
    · cases h
theorem Pe.ofR {c : C} (e : ∀ (S : Scp) (X : Cx) (T : Tb) (W : WX) (O : List Nat), Fx X T W Φ sub S → ∀ (x : Expr) (rd : Bool), chkE S O rd c x = true → SE X T W O x (ev Φ sub c) ∧ truE x = true) : Pe Φ sub c := .of e
theorem pe_cneg {a : C} (ha : Pe Φ sub a) : Pe Φ sub (.neg a) := .of fun S X T W O F x rd h => by
  unfold chkE at h
  split at h
  · exact ⟨by rw [show ev Φ sub (.neg a) = _ by funext e; rw [ev]]; exact se_neg (ha.sr F h), rfl⟩
  · cases h
theorem eval_b1 {op : BoolOp} {a : Expr} {pos : Pos} {env : PySem.Env} : eval (.BoolOp op [a] pos) env = eval a env := by rw [eval]; rfl
theorem pe_b1 {X : Cx} {op : BoolOp} {a : Expr} {pos : Pos} {t : TE} (h : PE X a t) : PE X (.BoolOp op [a] pos) t := ⟨fun pins s σ H Q I q => by
  rw [eval_b1]
  exact h.run pins s σ H Q I q⟩
theorem pe_cone {a : C} (ha : Pe Φ sub a) : Pe Φ sub (.one a) := by
  have e1 : ev Φ sub (.one a) = ev Φ sub a := by funext e; rw [ev]
  have key : ∀ (S : Scp) (X : Cx) (T : Tb) (W : WX) (O : List Nat), Fx X T W Φ sub S → ∀ (op : BoolOp) (ys : List Expr) (pos : Pos), okT (.one a) = true → chkE S O true (.one a) (.BoolOp op ys pos) = true → SW X T W O (.BoolOp op ys pos) (fun e => (ev Φ sub (.one a) e).bd truth) := fun S X T W O F op ys pos ht h => by
    rw [e1]
    unfold chkE at h
    split at h
    · rename_i op' p pos' heq
      cases heq
      have := ha.b S X T W O F p (by simpa [okT] using ht) h
      cases op
      · exact sw_and1 this
      · exact sw_or1 this
    · cases h
  refine ⟨fun S X T W O F x rd h => ?_, key, fun S X T W O F x ht h => ?_⟩
  · rw [e1]
    unfold chkE at h
    split at h
    · have := ha.e S X T W O F _ rd h
      exact ⟨pe_b1 this.1, fun hr => se_bool1 (this.2 hr)⟩
    · cases h
  · cases x <;> first | (exact (key S X T W O F _ _ _ ht h).sb) | (unfold chkE at h; cases h)
theorem pe_cand {a b : C} (ha : Pe Φ sub a) (hb : Pe Φ sub b) : Pe Φ sub (.and a b) := by
  have e1 : ev Φ sub (.and a b) = fun e => (ev Φ sub a e).bd fun x => (truth x).bd fun k => if k = true then ev Φ sub b e else .ok x := by funext e; rw [ev]
  have key : ∀ (S : Scp) (X : Cx) (T : Tb) (W : WX) (O : List Nat), Fx X T W Φ sub S → ∀ (op : BoolOp) (ys : List Expr) (pos : Pos), okT (.and a b) = true → chkE S O true (.and a b) (.BoolOp op ys pos) = true → SW X T W O (.BoolOp op ys pos) (fun e => (ev Φ sub (.and a b) e).bd truth) := fun S X T W O F op ys pos ht h => by
    rw [e1]
    simp only [okT, Bool.and_eq_true] at ht
    unfold chkE at h
    split at h
    · rename_i heq
      cases heq
      simp only [Bool.and_eq_true] at h
      simp only [bd_and]
      exact sw_and (ha.b S X T W O F _ ht.1 h.1) (hb.w S X T W O F _ _ _ ht.2 h.2)
    · cases h
  refine ⟨fun S X T W O F x rd h => ?_, key, fun S X T W O F x ht h => ?_⟩
  · rw [e1]
    unfold chkE at h
    split at h
    · simp only [Bool.and_eq_true] at h
      exact ⟨sr_and (ha.e S X T W O F _ rd h.1).1 (hb.e S X T W O F _ rd h.2).1, fun hr => se_and ((ha.e S X T W O F _ rd h.1).2 hr) ((hb.e S X T W O F _ rd h.2).2 hr)⟩
    · cases h
  · cases x <;> first | (exact (key S X T W O F _ _ _ ht h).sb) | (unfold chkE at h; cases h)
theorem pe_cor {a b : C} (ha : Pe Φ sub a) (hb : Pe Φ sub b) : Pe Φ sub (.or a b) := by
  have e1 : ev Φ sub (.or a b) = fun e => (ev Φ sub a e).bd fun x => (truth x).bd fun k => if k = true then .ok x else ev Φ sub b e := by funext e; rw [ev]
  have key : ∀ (S : Scp) (X : Cx) (T : Tb) (W : WX) (O : List Nat), Fx X T W Φ sub S → ∀ (op : BoolOp) (ys : List Expr) (pos : Pos), okT (.or a b) = true → chkE S O true (.or a b) (.BoolOp op ys pos) = true → SW X T W O (.BoolOp op ys pos) (fun e => (ev Φ sub (.or a b) e).bd truth) := fun S X T W O F op ys pos ht h => by
    rw [e1]
    simp only [okT, Bool.and_eq_true] at ht
    unfold chkE at h
    split at h
    · rename_i heq
      cases heq
      simp only [Bool.and_eq_true] at h
      simp only [bd_or]
      exact sw_or (ha.b S X T W O F _ ht.1 h.1) (hb.w S X T W O F _ _ _ ht.2 h.2)
    · cases h
  refine ⟨fun S X T W O F x rd h => ?_, key, fun S X T W O F x ht h => ?_⟩
  · rw [e1]
    unfold chkE at h
    split at h
    · simp only [Bool.and_eq_true] at h
      exact ⟨sr_or (ha.e S X T W O F _ rd h.1).1 (hb.e S X T W O F _ rd h.2).1, fun hr => se_or ((ha.e S X T W O F _ rd h.1).2 hr) ((hb.e S X T W O F _ rd h.2).2 hr)⟩
    · cases h
  · cases x <;> first | (exact (key S X T W O F _ _ _ ht h).sb) | (unfold chkE at h; cases h)
theorem pe_cnot {a : C} (ha : Pe Φ sub a) : Pe Φ sub (.not a) := by
  have e1 : ev Φ sub (.not a) = fun e => (ev Φ sub a e).bd fun x => (truth x).bd fun k => .ok (.bl (!k)) := by funext e; rw [ev]
  refine ⟨fun S X T W O F x rd h => ?_, fun S X T W O F op ys pos _ h => (by cases h), fun S X T W O F x ht h => ?_⟩
  · rw [e1]
    unfold chkE at h
    split at h
    · have := se_not (pos := ‹_›) (ha.sr F h)
      exact ⟨this.sr, fun _ => this⟩
    · cases h
  · rw [e1]
    unfold chkE at h
    split at h
    · simp only [bd_not]
      exact sb_not (ha.b S X T W O F _ (by simpa [okT] using ht) h)
    · cases h
theorem pe_cite {c a b : C} (hc : Pe Φ sub c) (ha : Pe Φ sub a) (hb : Pe Φ sub b) : Pe Φ sub (.ite c a b) := by
  have e1 : ev Φ sub (.ite c a b) = fun e => ((ev Φ sub c e).bd truth).bd fun k => if k = true then ev Φ sub a e else ev Φ sub b e := by funext e; rw [ev, bd_bd]
  refine ⟨fun S X T W O F x rd h => ?_, fun S X T W O F op ys pos _ h => (by cases h), fun S X T W O F x ht h => (by simp [okT] at ht)⟩
  rw [e1]
  unfold chkE at h
  split at h
  · simp only [Bool.and_eq_true] at h
    have := se_ite (pos := ‹_›) (hc.b S X T W O F _ h.1.1.1 h.1.1.2) (ha.se F h.1.2) (hb.se F h.2)
    exact ⟨this.sr, fun _ => this⟩
  · cases h
theorem pe_cis {d : D} {neg : Bool} {a : C} (ha : Pe Φ sub a) : Pe Φ sub (.is_ d neg a) := by
  have e1 : ev Φ sub (.is_ d neg a) = fun e => (ev Φ sub a e).bd fun x => dIs d neg x := by funext e; rw [ev]
  have key : ∀ (S : Scp) (X : Cx) (T : Tb) (W : WX) (O : List Nat), Fx X T W Φ sub S → ∀ (x : Expr) (rd : Bool), chkE S O rd (.is_ d neg a) x = true → SE X T W O x (ev Φ sub (.is_ d neg a)) ∧ SB X T W O x (fun e => (ev Φ sub (.is_ d neg a) e).bd truth) := fun S X T W O F x rd h => by
    rw [e1]
    unfold chkE at h
    split at h
    · rename_i p op k pos
      simp only [Bool.and_eq_true] at h
      obtain ⟨⟨h1, h2⟩, h3⟩ := h
      have ho : op = isO neg := by
        cases op <;> first | (exact Bool.noConfusion (show false = true from h2)) | skip
        · have : neg = false := by simpa using h2
          subst this; rfl
        · have : neg = true := by simpa using h2
          subst this; rfl
      subst ho
      exact se_is h1 (ha.sr F h3)
    · cases h
  exact ⟨fun S X T W O F x rd h => ⟨(key S X T W O F x rd h).1.sr, fun _ => (key S X T W O F x rd h).1⟩, fun S X T W O F op ys pos _ h => (by cases h), fun S X T W O F x _ h => (key S X T W O F x true h).2⟩
theorem pe_cisi {a : C} {k : Kd} (ha : Pe Φ sub a) : Pe Φ sub (.isi a k) := .of fun S X T W O F x rd h => by
  unfold chkE at h
  split at h
  · simp only [Bool.and_eq_true, beq_iff_eq] at h
    obtain ⟨⟨⟨⟨⟨⟨h1, h2⟩, h3⟩, h4⟩, h5⟩, h6⟩, h7⟩ := h
    subst h1 h4
    exact ⟨by rw [show ev Φ sub (.isi a k) = _ by funext e; rw [ev]]; exact se_isi h3 (F.gl h2) (F.bi _ (by decide)) (F.gl h5) (F.bi _ (by cases k <;> first | decide | cases h3)) h6 (ha.sr F h7), rfl⟩
  · cases h
theorem pe_cisi2 {a : C} {k k2 : Kd} (ha : Pe Φ sub a) : Pe Φ sub (.isi2 a k k2) := .of fun S X T W O F x rd h => by
  unfold chkE at h
  split at h
  · simp only [Bool.and_eq_true, beq_iff_eq] at h
    obtain ⟨⟨⟨⟨⟨⟨⟨⟨⟨h1, h2⟩, h3⟩, h4⟩, h5⟩, h6⟩, h7⟩, h8⟩, h9⟩, h10⟩ := h
    subst h1 h5 h7
    exact ⟨by rw [show ev Φ sub (.isi2 a k k2) = _ by funext e; rw [ev]]; exact se_isi2 h3 h4 (F.gl h2) (F.bi _ (by decide)) (F.gl h6) (F.bi _ (by cases k <;> first | decide | cases h3)) (F.gl h8) (F.bi _ (by cases k2 <;> first | decide | cases h4)) h9 (ha.sr F h10), rfl⟩
  · cases h
end
end E

set_option autoImplicit false
set_option linter.all false
set_option Elab.async false
set_option maxRecDepth 100000
/-! E18: soundness of the check of expressions, the rest. -/
namespace E
open PySem PySem.Spec PyProof.Rows L2
section
variable (Φ : Nat → List D → Res D) (sub : Nat → Nat → Option Bool)
def Pl (c : C) : Prop := ∀ (S : Scp) (X : Cx) (T : Tb) (W : WX) (O : List Nat), Fx X T W Φ sub S → ∀ (es : List Expr), chkL S O c es = true → SA X T W O es (evL Φ sub c)
end
section
variable {Φ : Nat → List D → Res D} {sub : Nat → Nat → Option Bool}
theorem pl_nil : Pl Φ sub .nil := fun S X T W O F es h => by
  unfold chkL at h
  split at h
  · rw [show evL Φ sub .nil = fun _ => .ok [] by funext e; rw [evL]]; exact sa_nil
  · cases h
theorem pl_cons {a r : C} (ha : Pe Φ sub a) (hr : Pl Φ sub r) : Pl Φ sub (.cons a r) := fun S X T W O F es h => by
  unfold chkL at h
  split at h
  · simp only [Bool.and_eq_true] at h
    rw [show evL Φ sub (.cons a r) = _ by funext e; rw [evL]]
    exact sa_cons h.1.1 (ha.se F h.1.2) (hr S X T W O F _ h.2)
  · cases h
theorem pe_ccall {k : Nat} {n : List Nat} {as : C} (ha : Pl Φ sub as) : Pe Φ sub (.call k n as) := .of fun S X T W O F x rd h => by
  have e1 : ev Φ sub (.call k n as) = fun e => (evL Φ sub as e).bd (Φ k) := by funext e; rw [ev]
  unfold chkE at h
  split at h
  · rename_i f fp es pos
    simp only [Bool.and_eq_true, List.any_eq_true, beq_iff_eq] at h
    obtain ⟨⟨⟨⟨h1, h2⟩, ⟨p, hp, ⟨e2, e3⟩, e4⟩⟩, h4⟩, h5⟩ := h
    have c := F.fn p hp X W (Core.refl X) F.tk
    rw [e2, e3, e4] at c
    rw [e1]
    refine ⟨?_, rfl⟩
    cases es with
    | nil =>
      have e5 : ∀ e, evL Φ sub as e = .ok [] := fun e => by
        cases as <;> first | (simp [chkL] at h5; done) | (rw [evL])
      simp only [e5, bd_ok]
      exact c.c0 rfl (F.gl h2) O _ _
    | cons y ys =>
      have h4' := h4
      rw [List.all_cons, Bool.and_eq_true] at h4'
      exact c.c1 (F.gl h2) O y ys _ _ _ (fun e' xs q => evL_len Φ sub as e' xs S O _ h5 q) h4'.1 h4'.2 (ha S X T W O F _ h5)
  · cases h
theorem pe_cbi {f : BI} {as : C} (hx : ∀ a r, as = .cons a r → Pe Φ sub a ∧ ∀ b r', r = .cons b r' → Pe Φ sub b) : Pe Φ sub (.bi f as) := .of fun S X T W O F x rd h => by
  have e1 : ev Φ sub (.bi f as) = fun e => (evL Φ sub as e).bd fun xs => biF f xs := by funext e; rw [ev]
  rw [e1]
  unfold chkE at h
  split at h
  · rename_i n np p pos
    by_cases hs : f = .sset
    · rw [if_pos hs] at h
      subst hs
      split at h
      · rename_i m mp q pos2
        simp only [Bool.and_eq_true, beq_iff_eq] at h
        obtain ⟨⟨⟨⟨⟨⟨h1, h2⟩, h3⟩, h4⟩, h5⟩, h6⟩, h7⟩ := h
        subst h1 h2
        cases as with
        | cons a r =>
          cases r with
          | nil =>
            have pa := (hx a .nil rfl).1
            have e2 : (fun e => (evL Φ sub (.cons a .nil) e).bd fun xs => biF .sset xs) = fun e => (ev Φ sub a e).bd fun x => biF .sset [x] := by
              funext e
              rw [evL, evL]
              cases ev Φ sub a e <;> rfl
            rw [e2]
            exact ⟨se_sset (F.calm h6) (F.gl h3) (F.bi _ (by decide)) (F.gl h4) (F.bi _ (by decide)) h5 (pa.sr F h7), rfl⟩
          | _ => cases h7
        | _ => cases h7
      · cases h
    rw [if_neg hs] at h
    simp only [Bool.and_eq_true, beq_iff_eq, Bool.or_eq_true, List.contains_eq_mem, decide_eq_true_eq] at h
    obtain ⟨⟨⟨⟨h1, h2⟩, h3⟩, h4, h5⟩, h6⟩ := h
    subst h1
    cases as with
    | cons a r =>
      cases r with
      | nil =>
        have pa := (hx a .nil rfl).1
        have e2 : (fun e => (evL Φ sub (.cons a .nil) e).bd fun xs => biF f xs) = fun e => (ev Φ sub a e).bd fun x => biF f [x] := by
          funext e
          rw [evL, evL]
          cases ev Φ sub a e <;> rfl
        rw [e2]
        refine ⟨?_, rfl⟩
        have hm : biN f ∈ bnames := by cases f <;> decide
        rcases h5 with (h5 | h5) | h5
        · exact se_b1 h4 (F.calm h5) (F.gl h2) (F.bi _ hm) h3 (pa.sr F h6)
        · exact se_b1h (.inl h5) (F.gl h2) (F.bi _ hm) h3 (pa.sr F h6)
        · exact se_b1h (.inr h5) (F.gl h2) (F.bi _ hm) h3 (pa.sr F h6)
      | _ => cases h6
    | _ => cases h6
  · rename_i n np p q pos
    simp only [Bool.and_eq_true, beq_iff_eq, Bool.or_eq_true] at h
    obtain ⟨⟨⟨⟨⟨⟨h1, h2⟩, h3⟩, h4⟩, h5⟩, h7⟩, h6⟩ := h
    subst h1
    cases as with
    | cons a r =>
      cases r with
      | cons b r' =>
        cases r' with
        | nil =>
          obtain ⟨pa, pb⟩ := hx a _ rfl
          have pb := pb b _ rfl
          have e2 : (fun e => (evL Φ sub (.cons a (.cons b .nil)) e).bd fun xs => biF f xs) = fun e => (ev Φ sub a e).bd fun x => (ev Φ sub b e).bd fun y => biF f [x, y] := by
            funext e
            rw [evL, evL, evL]
            cases ev Φ sub a e with
            | ok x => cases ev Φ sub b e <;> rfl
            | _ => rfl
          rw [e2]
          have hm : biN f ∈ bnames := by cases f <;> decide
          simp only [Bool.and_eq_true] at h6
          exact ⟨se_mm h7 (F.calm h5) (F.gl h2) (F.bi _ hm) h3 h4 (pa.sr F h6.1) (pb.sr F h6.2), rfl⟩
        | _ => cases h6
      | _ => cases h6
    | _ => cases h6
  · cases h
theorem pe_cmt {m : MT} {a as : C} (ha : Pe Φ sub a) (hx : ∀ b r, as = .cons b r → Pe Φ sub b) : Pe Φ sub (.mt m a as) := .of fun S X T W O F x rd h => by
  have e1 : ev Φ sub (.mt m a as) = fun e => (ev Φ sub a e).bd fun x => if isStr x = true then ((evL Φ sub as e).bd fun xs => meth m x xs) else .bad := by funext e; rw [ev]
  rw [e1]
  unfold chkE at h
  split at h
  · rename_i o n ap p pos
    simp only [Bool.and_eq_true, beq_iff_eq] at h
    obtain ⟨⟨⟨⟨⟨h1, h2⟩, h3⟩, h4⟩, h5⟩, h6⟩ := h
    subst h1
    cases as with
    | cons b r =>
      cases r with
      | nil =>
        have pb := hx b _ rfl
        have e2 : (fun e => (ev Φ sub a e).bd fun x => if isStr x = true then ((evL Φ sub (.cons b .nil) e).bd fun xs => meth m x xs) else .bad) = fun e => (ev Φ sub a e).bd fun x => if isStr x = true then ((ev Φ sub b e).bd fun y => meth m x [y]) else .bad := by
          funext e
          rw [evL, evL]
          cases ev Φ sub b e <;> rfl
        rw [e2]
        exact ⟨se_mt h2 h3 (by rw [h4]; simp) (ha.sr F h5) (pb.sr F h6), rfl⟩
      | _ => cases h6
    | _ => cases h6
  · cases h
theorem pe_cidx {a b : C} (ha : Pe Φ sub a) (hb : Pe Φ sub b) : Pe Φ sub (.idx a b) := .of fun S X T W O F x rd h => by
  unfold chkE at h
  split at h
  · simp only [Bool.and_eq_true] at h
    exact ⟨by rw [show ev Φ sub (.idx a b) = _ by funext e; rw [ev]]; exact se_ix h.1.1 (ha.sr F h.1.2) (hb.sr F h.2), rfl⟩
  · cases h
theorem pe_cslc {a lo hi : C} (ha : Pe Φ sub a) (hl : Pe Φ sub lo) (hh : Pe Φ sub hi) : Pe Φ sub (.slc a lo hi) := .of fun S X T W O F x rd h => by
  unfold chkE at h
  split at h
  · rename_i p l u p2 pos
    simp only [Bool.and_eq_true] at h
    have part : ∀ (c : C), Pe Φ sub c → ∀ (o : Option Expr), (match c, o with
        | .nil, none => true
        | c, some e => chkE S O true c e
        | _, _ => false) = true → SP X T W O o (fun e => (ev Φ sub c e).bd prt) := fun c pc o ho => by
      split at ho
      · rw [show (fun e => (ev Φ sub .nil e).bd prt) = fun _ => (Res.ok D.non).bd prt by funext e; rw [ev]]
        exact sp_none
      · exact sp_some (pc.sr F ho)
      · cases ho
    exact ⟨by rw [show ev Φ sub (.slc a lo hi) = _ by funext e; rw [ev]]; exact se_slc (ha.sr F h.1.1) (part lo hl l h.1.2) (part hi hh u h.2), rfl⟩
  · cases h
theorem pe_crev {a : C} (ha : Pe Φ sub a) : Pe Φ sub (.rev a) := .of fun S X T W O F x rd h => by
  unfold chkE at h
  split at h
  · simp only [Bool.and_eq_true, beq_iff_eq] at h
    obtain ⟨h1, h2⟩ := h
    subst h1
    exact ⟨by rw [show ev Φ sub (.rev a) = _ by funext e; rw [ev]]; exact se_rev (ha.sr F h2), rfl⟩
  · cases h
theorem pe_ctup {as : C} (ha : Pl Φ sub as) : Pe Φ sub (.tup as) := .of fun S X T W O F x rd h => by
  unfold chkE at h
  split at h
  · exact ⟨by rw [show ev Φ sub (.tup as) = _ by funext e; rw [ev]]; exact se_tup (ha S X T W O F _ h), rfl⟩
  · cases h
theorem pe_clst {as : C} (ha : Pl Φ sub as) : Pe Φ sub (.lst as) := .of fun S X T W O F x rd h => by
  unfold chkE at h
  split at h
  · exact ⟨by rw [show ev Φ sub (.lst as) = _ by funext e; rw [ev]]; exact se_lst (ha S X T W O F _ h), rfl⟩
  · cases h
theorem pe_cfld {c j : Nat} {a : C} (ha : Pe Φ sub a) : Pe Φ sub (.fld c j a) := .of fun S X T W O F x rd h => by
  unfold chkE at h
  split at h
  · rename_i p n pos
    simp only [Bool.and_eq_true, List.contains_eq_mem, decide_eq_true_eq] at h
    obtain ⟨⟨⟨h1, h2⟩, h3⟩, h4⟩ := h
    have hj : (T.fl c)[j]? = some n := by
      cases q : S.fl[c]? with
      | none => rw [q] at h2; cases h2
      | some fs =>
        rw [q] at h2
        rw [F.fl c fs q]
        exact of_decide_eq_true h2
    exact ⟨by rw [show ev Φ sub (.fld c j a) = _ by funext e; rw [ev]]; exact se_fld (F.ins c h1) hj h3 (ha.sr F h4), rfl⟩
  · cases h
theorem pe_cefld {i c j : Nat} : Pe Φ sub (.efld i c j) := .of fun S X T W O F x rd h => by
  have e1 : ev Φ sub (.efld i c j) = efldF i c j := by funext e; rw [ev]; rfl
  rw [e1]
  unfold chkE at h
  split at h
  · rename_i n np f pos
    simp only [Bool.and_eq_true] at h
    obtain ⟨⟨h1, h2⟩, h3⟩ := h
    cases q : S.ex with
    | none => rw [q] at h1; cases h1
    | some z =>
      obtain ⟨i', nm⟩ := z
      rw [q] at h1
      simp only [Bool.and_eq_true, beq_iff_eq] at h1
      obtain ⟨e2, e3⟩ := h1
      subst e2 e3
      obtain ⟨a1, a2, a3, a4⟩ := F.nm h2
      have hj : (T.fl c)[j]? = some f := by
        cases q : S.fl[c]? with
        | none => rw [q] at h3; cases h3
        | some fs =>
          rw [q] at h3
          rw [F.fl c fs q]
          exact of_decide_eq_true h3
      exact ⟨F.efl _ _ q O c j f _ _ hj a2 a1 (by unfold ndb; rw [a3, a4]; rfl), rfl⟩
  · cases h
theorem pe_ceisi {i k : Nat} : Pe Φ sub (.eisi i k) := .of fun S X T W O F x rd h => by
  have e1 : ev Φ sub (.eisi i k) = eisiF sub i k := by funext e; rw [ev]; rfl
  rw [e1]
  unfold chkE at h
  split at h
  · rename_i f fp n np cn cp pos
    simp only [Bool.and_eq_true, List.any_eq_true, beq_iff_eq] at h
    obtain ⟨⟨⟨⟨⟨h0, h00⟩, h1⟩, h2⟩, h3⟩, ⟨p, hp, e4, e5⟩⟩ := h
    subst h0
    cases q : S.ex with
    | none => rw [q] at h1; cases h1
    | some z =>
      obtain ⟨i', nm⟩ := z
      rw [q] at h1
      simp only [Bool.and_eq_true, beq_iff_eq] at h1
      obtain ⟨e2, e3⟩ := h1
      subst e2 e3
      obtain ⟨a1, a2, a3, a4⟩ := F.nm h2
      have := F.eis _ _ q p hp O fp np cp pos a2 a1 (by unfold ndb; rw [a3, a4]; rfl) (F.gl h00) (by rw [e4]; exact F.gl h3)
      rw [e4, e5] at this
      exact ⟨this, rfl⟩
  · cases h
/-! ### targets -/
theorem gds_at {S : Scp} {X : Cx} {T : Tb} {W : WX} (F : Fx X T W Φ sub S) {n : Str} {ks vs : List (List Nat)} (h : S.gds.any (fun p => p.1 == n && p.2.1 == ks && p.2.2 == vs) = true) : GdOk X.K X.w X.mg n ks vs := by
  rw [List.any_eq_true] at h
  obtain ⟨q, hq, h⟩ := h
  simp only [Bool.and_eq_true, beq_iff_eq] at h
  have := F.gd q hq
  rw [h.1.1, h.1.2, h.2] at this
  exact this
theorem ndb1 {n : Str} (h : ndb n = true) : (n == ("__debug__" : Str)) = false := by
  unfold ndb at h
  simp only [Bool.and_eq_true, Bool.not_eq_true'] at h
  exact h.1
theorem pe_cgdx {nm : List Nat} {ks vs : List (List Nat)} {a : C} (ha : Pe Φ sub a) : Pe Φ sub (.gdx nm ks vs a) := .of fun S X T W O F x rd h => by
  unfold chkE at h
  split at h
  · simp only [Bool.and_eq_true] at h
    obtain ⟨⟨⟨⟨⟨h1, h2⟩, h3⟩, h4⟩, h5⟩, h6⟩ := h
    exact ⟨by rw [show ev Φ sub (.gdx nm ks vs a) = _ by funext e; rw [ev]]; exact se_gdx (gds_at F h4) (F.gl h2) (ndb1 h3) h5 (ha.sr F h6), rfl⟩
  · cases h
theorem pe_cgdi {neg : Bool} {nm : List Nat} {ks vs : List (List Nat)} {a : C} (ha : Pe Φ sub a) : Pe Φ sub (.gdi neg nm ks vs a) := by
  have e1 : ev Φ sub (.gdi neg nm ks vs a) = fun e => (ev Φ sub a e).bd fun x => dGdi neg ks vs x := by funext e; rw [ev]
  have key : ∀ (S : Scp) (X : Cx) (T : Tb) (W : WX) (O : List Nat), Fx X T W Φ sub S → ∀ (x : Expr) (rd : Bool), chkE S O rd (.gdi neg nm ks vs a) x = true → SE X T W O x (ev Φ sub (.gdi neg nm ks vs a)) ∧ SB X T W O x (fun e => (ev Φ sub (.gdi neg nm ks vs a) e).bd truth) := fun S X T W O F x rd h => by
    rw [e1]
    unfold chkE at h
    split at h
    · rename_i p op n ps pos
      simp only [Bool.and_eq_true, Bool.not_eq_true'] at h
      obtain ⟨⟨⟨⟨⟨⟨h0, h1⟩, h2⟩, h3⟩, h4⟩, h5⟩, h6⟩ := h
      have ho : op = notO neg := by
        cases op <;> first | (exact Bool.noConfusion (show false = true from h0)) | skip
        · have : neg = false := by simpa using h0
          subst this; rfl
        · have : neg = true := by simpa using h0
          subst this; rfl
      subst ho
      exact ⟨se_gdi (gds_at F h4) (F.gl h2) (ndb1 h3) h5 (ha.sr F h6), sb_gdi (gds_at F h4) (F.gl h2) (ndb1 h3) h5 (ha.sr F h6)⟩
    · cases h
  exact ⟨fun S X T W O F x rd h => ⟨(key S X T W O F x rd h).1.sr, fun _ => (key S X T W O F x rd h).1⟩, fun S X T W O F op ys pos _ h => (by cases h), fun S X T W O F x _ h => (key S X T W O F x true h).2⟩
theorem pe_cisc {k : Nat} {nm : List Nat} {a : C} (ha : Pe Φ sub a) : Pe Φ sub (.isc k nm a) := .of fun S X T W O F x rd h => by
  unfold chkE at h
  split at h
  · simp only [Bool.and_eq_true, beq_iff_eq, List.any_eq_true] at h
    obtain ⟨⟨⟨⟨⟨⟨⟨h1, h2⟩, h3⟩, h4⟩, h5⟩, ⟨q, hq, h6, h6'⟩⟩, h7⟩, h8⟩ := h
    subst h1
    have i := F.isc q hq
    rw [h6, h6'] at i
    exact ⟨by rw [show ev Φ sub (.isc k nm a) = _ by funext e; rw [ev]]; exact se_isc i (F.gl h2) (F.bi _ (by decide)) (F.gl h4) (ndb1 h5) h7 (ha.sr F h8), rfl⟩
  · cases h
theorem fps_ok {S : Scp} {X : Cx} {T : Tb} {W : WX} {O : List Nat} (F : Fx X T W Φ sub S) : ∀ (as : C), (∀ c, sizeOf c < sizeOf as → Pe Φ sub c) → ∀ es : List Expr, chkJ S O as es = true → ∃ ts, FPs X T W O es (evF Φ sub as) ts := by
  intro as
  induction as with
  | nil =>
    intro ih es h
    cases es with
    | nil => exact ⟨[], by rw [show evF Φ sub .nil = fun acc _ => .ok acc by funext acc e; rw [evF]]; exact .nil⟩
    | cons _ _ => simp [chkJ] at h
  | cons a r _ ihr =>
    intro ih es h
    cases es with
    | nil => simp [chkJ] at h
    | cons e es =>
      simp only [chkJ, Bool.and_eq_true] at h
      obtain ⟨ts, hts⟩ := ihr (fun c hc => ih c (by simp; omega)) es h.2
      have hp : ∃ t, FP X T W O e (ev Φ sub a) t := by
        have h1 := h.1
        split at h1
        · cases a with
          | str s =>
            rw [show ev Φ sub (.str s) = fun _ => .ok (.str s) by funext e; rw [ev]]
            exact fp_str (by simpa using h1)
          | _ => cases h1
        · simp only [Bool.and_eq_true, beq_iff_eq] at h1
          obtain ⟨h1, h2⟩ := h1
          subst h1
          exact fp_val ((ih a (by simp; omega)).sr F h2)
        · cases h1
      obtain ⟨t, ht⟩ := hp
      refine ⟨t :: ts, ?_⟩
      rw [show evF Φ sub (.cons a r) = fun acc env => (ev Φ sub a env).bd fun x => (fmt1 x).bd fun s => if (acc ++ s).length ≤ LIM then evF Φ sub r (acc ++ s) env else .bad by funext acc env; rw [evF]]
      exact .cons ht hts
  | _ => intro ih es h; simp [chkJ] at h
theorem pe_cfst {as : C} (ih : ∀ c, sizeOf c < sizeOf as → Pe Φ sub c) : Pe Φ sub (.fst as) := .of fun S X T W O F x rd h => by
  unfold chkE at h
  split at h
  · obtain ⟨ts, hts⟩ := fps_ok F as ih _ h
    exact ⟨by rw [show ev Φ sub (.fst as) = fun e => (evF Φ sub as [] e).bd fun s => .ok (.str s) by funext e; rw [ev]]; exact se_fst hts, rfl⟩
  · cases h
theorem pgs_ok {S : Scp} {X : Cx} {T : Tb} {W : WX} (F : Fx X T W Φ sub S) : ∀ (t : List Nat) (es : List Expr), chkNs S t es = true →
    PGs X es (fun xs σ H Q => xs.length = t.length ∧ Q (setV t xs σ) H) ∧ (assignEach es X.env).length = t.length ∧ (assignEach es X.env).findIdx? (·.1) = none
  | [], [], _ => ⟨⟨fun pins s σ H vs us Q I r h => pgs_nil.run pins s σ H vs us Q I r ⟨List.length_eq_zero_iff.mp h.1, by
      have e : vs = [] := List.length_eq_zero_iff.mp h.1
      subst e
      exact h.2⟩⟩, rfl, rfl⟩
  | [], _ :: _, h => by cases h
  | _ :: _, [], h => by cases h
  | i :: is, e :: es, h => by
    cases e
    case Name x p =>
      simp only [chkNs, Bool.and_eq_true] at h
      obtain ⟨h1, h2, h3⟩ := F.sto h.1
      obtain ⟨g1, g2, g3⟩ := pgs_ok F is es h.2
      refine ⟨⟨fun pins s σ H vs us Q I r q => (pgs_cons (pg_name (pos := p) F.nd h1 h2 h3) g1).run pins s σ H vs us Q I r ?_⟩, ?_, ?_⟩
      · cases vs with
        | nil => simp at q
        | cons v vs => exact ⟨v, vs, rfl, by simpa using q.1, q.2⟩
      · show (assignEach es X.env).length + 1 = _
        rw [g2]; rfl
      · show List.findIdx? _ ((false, _) :: assignEach es X.env) = none
        rw [List.findIdx?_cons]
        simp [g3]
    all_goals exact Bool.noConfusion (show false = true from h)
theorem pg_ok {S : Scp} {X : Cx} {T : Tb} {W : WX} (F : Fx X T W Φ sub S) {t : List Nat} {one : Bool} {tg : Expr} (h : chkT S t one tg = true) : PG X tg (gA X.K t one) := by
  unfold chkT at h
  split at h
  · rename_i x p
    simp only [Bool.and_eq_true] at h
    obtain ⟨h1, h2⟩ := h
    subst h1
    split at h2
    · obtain ⟨h1, h3, h4⟩ := F.sto h2
      exact ⟨fun pins s σ H v u Q I r q => (pg_name (pos := p) F.nd h1 h3 h4).run pins s σ H v u Q I r q⟩
    · cases h2
  · rename_i es k p
    simp only [Bool.and_eq_true, Bool.not_eq_true'] at h
    obtain ⟨⟨h1, h2⟩, h3⟩ := h
    subst h1
    obtain ⟨g1, g2, g3⟩ := pgs_ok F t es h3
    refine ⟨fun pins s σ H v u Q I r ⟨a, xs, q1, q2, q3, q4⟩ => ?_⟩
    rcases q2 with q2 | q2
    · exact (pg_tup (pos := p) (k := k) (F.calm h2) g1 g2 g3).run pins s σ H v u Q I r ⟨a, xs, q1, q2, q3, q3, q4⟩
    · exact (pg_unl (pos := p) (k := k) (F.calm h2) g1 g2 g3).run pins s σ H v u Q I r ⟨a, xs, q1, q2, q3, q3, q4⟩
  · cases h
end
end E

set_option autoImplicit false
set_option linter.all false
set_option Elab.async false
set_option maxRecDepth 100000
/-! E19: comprehensions; all expressions. -/
namespace E
open PySem PySem.Spec PyProof.Rows L2

def relP (sc : Scope) (p : Str × NameKind) : Str × NameKind := if (p.2 == .free && sc.kind == .function && sc.names.lookup p.1 == some .cell) = true then (p.1, .cell) else p
theorem relP_eq (scope sc : Scope) : (relS scope sc).names = scope.names.map (relP sc) := by
  unfold relS
  show scope.names.map _ = _
  refine List.map_congr_left fun p _ => ?_
  obtain ⟨n, k⟩ := p
  rfl
theorem lookup_relP {sc : Scope} {x : Str} {k : NameKind} (hk : k ≠ .free) : ∀ (l : List (Str × NameKind)), l.lookup x = some k → (l.map (relP sc)).lookup x = some k
  | [], h => by cases h
  | (n, k') :: r, h => by
    rw [List.lookup_cons] at h
    have e0 : (relP sc (n, k')).1 = n := by unfold relP; split <;> rfl
    rw [List.map_cons]
    rw [show relP sc (n, k') = (n, (relP sc (n, k')).2) from Prod.ext e0 rfl, List.lookup_cons]
    cases hn : x == n with
    | true =>
      rw [hn] at h
      simp only [Option.some.injEq] at h
      subst h
      have e : (k' == NameKind.free) = false := by cases k' <;> first | rfl | exact absurd rfl hk
      show some (relP sc (n, k')).2 = _
      unfold relP
      simp [e]
    | false =>
      rw [hn] at h
      exact lookup_relP hk r h
theorem lookup_rel {scope sc : Scope} {x : Str} {k : NameKind} (hk : k ≠ .free) (h : scope.names.lookup x = some k) : (relS scope sc).names.lookup x = some k := by
  rw [relP_eq]
  exact lookup_relP hk _ h
section
variable {X : Cx} {T : Tb} {W : WX} {Φ : Nat → List D → Res D} {sub : Nat → Nat → Option Bool} {S : Scp}
theorem Fx.blk (F : Fx X T W Φ sub S) (hc : S.calm = true) (s : Shared) (H : Hp) (scope : Scope) (C : Addr) (cl : List (Str × Addr)) (fp : List Addr) : Fx (X.blk s H scope (compEnvC scope cl C X.env) fp) T noW Φ sub (blkS S scope) where
  hN := F.hN
  nd := F.nd
  sc := by
    show relS scope X.env.scope = relS scope S.sc
    rw [F.sc]
  stl := fun x h => lookup_rel (by simp) h
  stc := fun x h => ⟨by show (scope.names.lookup x == some .cell) = true; rw [show scope.names.lookup x = some .cell from h]; rfl, lookup_rel (by simp) h⟩
  calm := F.calm
  hu := F.hu
  bi := F.bi
  glb := F.glb
  fl := F.fl
  ins := F.ins
  gd := F.gd
  isc := F.isc
  fn := fun p hp X' W' c t => F.fn p hp X' W' ⟨c.prog, c.w, c.K, c.mg, c.base, c.A, .inl (F.calm hc)⟩ t
  tk := fun u s' x => by
    obtain ⟨a, B, sI, pins, σ, H, cls, d, e, I, nb, up, sky, na, os, ag, w⟩ := x
    exact w.elim
  pr := F.pr
  efl := fun i nm h => by cases h
  eis := fun i nm h => by cases h
theorem om_bd {α β γ : Type} (o : Option α) (f : α → Res β) (g : β → Res γ) : (om o f).bd g = om o fun a => (f a).bd g := by cases o <;> rfl
theorem disj_ok (F : Fx X T W Φ sub S) {t O : List Nat} (h : disj t O S.pr = true) : ∀ i ∈ t, i ∉ O ∧ i ∉ T.pr := fun i hi => by
  unfold disj at h
  have := List.all_eq_true.mp h i hi
  simp only [Bool.and_eq_true, Bool.not_eq_true', List.contains_eq_mem, decide_eq_false_iff_not] at this
  rw [F.pr]
  exact this
/-- what a comprehension or a for goes over -/
def chkI (S : Scp) (O : List Nat) (tg : Expr) : C → Expr → Bool := fun it iter => match it, iter with
          | .bi .rng1 (.cons a .nil), .Call (.Name n _) [p] [] _ => n == ("range" : Str) && gl S n && noStar p && chkE S O true a p
          | .bi .rng2 (.cons a (.cons b .nil)), .Call (.Name n _) [p, q] [] _ => n == ("range" : Str) && gl S n && noStar p && noStar q && chkE S O true a p && chkE S O true b q
          | .bi .enum (.cons a .nil), .Call (.Name n _) [p] [] _ => n == ("enumerate" : Str) && gl S n && noStar p && (match tg with | .Tuple _ _ _ => true | _ => false) && chkE S O false a p
          | c, y => chkE S O false c y
theorem si_ok (F : Fx X T W Φ sub S) {O : List Nat} {tg iter : Expr} {it : C} (ih : ∀ c, sizeOf c ≤ sizeOf it → Pe Φ sub c) (h : chkI S O tg it iter = true) : SI X T W O tg iter (fun e => (ev Φ sub it e).bd fun x => om (items x) .ok) := by
  unfold chkI at h
  split at h
  · rename_i a n np p pos
    simp only [Bool.and_eq_true, beq_iff_eq] at h
    obtain ⟨⟨⟨h1, h2⟩, h3⟩, h4⟩ := h
    subst h1
    have e2 : (fun e => (ev Φ sub (.bi .rng1 (.cons a .nil)) e).bd fun x => om (items x) .ok) = fun e => ((ev Φ sub a e).bd fun x => biF .rng1 [x]).bd fun x => om (items x) .ok := by
      funext e
      rw [ev, evL, evL]
      cases ev Φ sub a e <;> rfl
    rw [e2]
    exact si_rng1 (F.gl h2) (F.bi _ (by decide)) h3 ((ih a (by simp; omega)).sr F h4)
  · rename_i a b n np p q pos
    simp only [Bool.and_eq_true, beq_iff_eq] at h
    obtain ⟨⟨⟨⟨⟨h1, h2⟩, h3⟩, h4⟩, h5⟩, h6⟩ := h
    subst h1
    have e2 : (fun e => (ev Φ sub (.bi .rng2 (.cons a (.cons b .nil))) e).bd fun x => om (items x) .ok) = fun e => ((ev Φ sub a e).bd fun x => (ev Φ sub b e).bd fun y => biF .rng2 [x, y]).bd fun x => om (items x) .ok := by
      funext e
      rw [ev, evL, evL, evL]
      cases ev Φ sub a e with
      | ok x => cases ev Φ sub b e <;> rfl
      | _ => rfl
    rw [e2]
    exact si_rng2 (F.gl h2) (F.bi _ (by decide)) h3 h4 ((ih a (by simp; omega)).sr F h5) ((ih b (by simp; omega)).sr F h6)
  · rename_i a n np p pos
    simp only [Bool.and_eq_true, beq_iff_eq] at h
    obtain ⟨⟨⟨⟨h1, h2⟩, h3⟩, h4⟩, h5⟩ := h
    subst h1
    have e2 : (fun e => (ev Φ sub (.bi .enum (.cons a .nil)) e).bd fun x => om (items x) .ok) = fun e => ((ev Φ sub a e).bd fun x => biF .enum [x]).bd fun x => om (items x) .ok := by
      funext e
      rw [ev, evL, evL]
      cases ev Φ sub a e <;> rfl
    rw [e2]
    split at h4
    · exact si_enum (F.gl h2) (F.bi _ (by decide)) h3 ((ih a (by simp; omega)).se F h5)
    · cases h4
  · exact si_any ((ih it (Nat.le_refl _)).se F h)
def lcF (Φ : Nat → List D → Res D) (sub : Nat → Nat → Option Bool) (t : List Nat) (one : Bool) (it cnd elt : C) : Env → Res D := fun e => ((ev Φ sub it e).bd fun x => om (items x) .ok).bd fun l => if l.length < LIM then (lcL (fun d => om (asg t one d e) fun e' => ((ev Φ sub cnd e').bd truth).bd fun k => if k = true then (ev Φ sub elt e').bd fun y => .ok (some y) else .ok none) l).bd fun ys => .ok (.lst ys) else .bad
theorem lcF_ev {t : List Nat} {one : Bool} {it cnd elt : C} : ev Φ sub (.lc t one it cnd elt) = lcF Φ sub t one it cnd elt := by
  funext e
  rw [ev]
  unfold lcF
  simp only [bd_bd, om_bd, bd_ok]
theorem lcF_lst {t : List Nat} {one : Bool} {it cnd elt : C} (e : Env) (d : D) (h : lcF Φ sub t one it cnd elt e = .ok d) : ∃ l, d = .lst l := by
  unfold lcF at h
  cases q : (ev Φ sub it e).bd fun x => om (items x) .ok with
  | ok l =>
    rw [q] at h
    simp only [bd_ok] at h
    split at h
    · cases q2 : lcL (fun d => om (asg t one d e) fun e' => ((ev Φ sub cnd e').bd truth).bd fun k => if k = true then (ev Φ sub elt e').bd fun y => .ok (some y) else .ok none) l with
      | ok ys => rw [q2] at h; cases h; exact ⟨ys, rfl⟩
      | err c l => rw [q2] at h; cases h
      | bad => rw [q2] at h; cases h
    · cases h
  | err c l => rw [q] at h; cases h
  | bad => rw [q] at h; cases h
theorem sf_lc_ok (F : Fx X T W Φ sub S) {O : List Nat} {t : List Nat} {one : Bool} {it cnd elt : C} {x : Expr} {rd : Bool} (h : chkE S O rd (.lc t one it cnd elt) x = true) (ih : ∀ c, sizeOf c ≤ sizeOf it → Pe Φ sub c) (hc : Pe Φ sub cnd) (he : Pe Φ sub elt) : SF X T W O x (ev Φ sub (.lc t one it cnd elt)) ∧ truE x = true := by
  rw [lcF_ev]
  unfold chkE at h
  split at h
  · rename_i el tg iter ifs z scope pos
    simp only [Bool.and_eq_true, beq_iff_eq] at h
    obtain ⟨⟨⟨⟨⟨⟨⟨⟨h0, h1⟩, h2⟩, h3⟩, h4⟩, h5⟩, h6⟩, h7⟩, h8⟩ := h
    subst h0
    have hB : BlkOk X.N X.env.scope scope (ownOf S t) := by rw [F.hN, F.sc]; exact blkOk_by h4
    have hcond : ∀ (s : Shared) (H : Hp) (C : Addr) (cl : List (Str × Addr)) (fp : List Addr), STs (X.blk s H scope (compEnvC scope cl C X.env) fp) T noW O ifs (fun e' => (ev Φ sub cnd e').bd truth) := fun s H C cl fp => by
      have FB := F.blk h1 s H scope C cl fp
      split at h7
      · split at h7
        · rw [show (fun e' => (ev Φ sub (.bl true) e').bd truth) = fun _ => .ok true by funext e; rw [ev]; rfl]
          exact st_nil
        · cases h7
      · simp only [Bool.and_eq_true] at h7
        exact st_one (hc.b _ _ _ _ _ FB _ h7.1 h7.2)
      · cases h7
    refine ⟨se_lc (F.calm h1) F.nd (si_ok F ih (by unfold chkI; exact h6)) hB (by simp [ownOf, Function.comp_def]) (disj_ok F h3) (fun s H C cl fp => pg_ok (F.blk h1 s H scope C cl fp) h5) hcond (fun s H C cl fp => he.se (F.blk h1 s H scope C cl fp) h8) (notSet_ok h2), rfl⟩
  · cases h
theorem pe_clc {t : List Nat} {one : Bool} {it cnd elt : C} (ih : ∀ c, sizeOf c ≤ sizeOf it → Pe Φ sub c) (hc : Pe Φ sub cnd) (he : Pe Φ sub elt) : Pe Φ sub (.lc t one it cnd elt) := .of fun S X T W O F x rd h => by
  have := sf_lc_ok F h ih hc he
  exact ⟨this.1.se fun e d q => by rw [lcF_ev] at q; exact lcF_lst e d q, this.2⟩
end
section
variable (Φ : Nat → List D → Res D) (sub : Nat → Nat → Option Bool)
theorem no_check {c : C} (h : ∀ S O rd x, chkE S O rd c x = false) : Pe Φ sub c := .of fun S X T W O F x rd q => by rw [h] at q; cases q
theorem no_list {c : C} (h : ∀ S O x, chkL S O c x = false) : Pl Φ sub c := fun S X T W O F x q => by rw [h] at q; cases q
theorem sound_n : ∀ (n : Nat) (c : C), sizeOf c < n → Pe Φ sub c ∧ Pl Φ sub c := by
  intro n
  induction n with
  | zero => intro c h; omega
  | succ n ih =>
    intro c h
    cases c
    case nil => exact ⟨no_check Φ sub fun S O rd x => by unfold chkE; rfl, pl_nil⟩
    case cons a r => exact ⟨no_check Φ sub fun S O rd x => by unfold chkE; rfl, pl_cons (ih a (by simp at h; omega)).1 (ih r (by simp at h; omega)).2⟩
    all_goals refine ⟨?_, no_list Φ sub fun S O x => by simp [chkL]⟩
    case var i => exact pe_cvar i
    case non => exact pe_cnon
    case bl b => exact pe_cbl b
    case int i => exact pe_cint i
    case str s => exact pe_cstr s
    case glb x d => exact pe_cglb x d
    case op o a b => exact pe_cop (ih a (by simp at h; omega)).1 (ih b (by simp at h; omega)).1
    case chn o1 o2 a b c => exact pe_cchn (ih a (by simp at h; omega)).1 (ih b (by simp at h; omega)).1 (ih c (by simp at h; omega)).1
    case neg a => exact pe_cneg (ih a (by simp at h; omega)).1
    case one a => exact pe_cone (ih a (by simp at h; omega)).1
    case and a b => exact pe_cand (ih a (by simp at h; omega)).1 (ih b (by simp at h; omega)).1
    case or a b => exact pe_cor (ih a (by simp at h; omega)).1 (ih b (by simp at h; omega)).1
    case not a => exact pe_cnot (ih a (by simp at h; omega)).1
    case ite c a b => exact pe_cite (ih c (by simp at h; omega)).1 (ih a (by simp at h; omega)).1 (ih b (by simp at h; omega)).1
    case is_ d neg a => exact pe_cis (ih a (by simp at h; omega)).1
    case isi a k => exact pe_cisi (ih a (by simp at h; omega)).1
    case isi2 a k1 k2 => exact pe_cisi2 (ih a (by simp at h; omega)).1
    case call k x as => exact pe_ccall (ih as (by simp at h; omega)).2
    case bi f as =>
      refine pe_cbi fun a r e => ?_
      subst e
      refine ⟨(ih a (by simp at h; omega)).1, fun b r' e => ?_⟩
      subst e
      exact (ih b (by simp at h; omega)).1
    case mt m a as =>
      refine pe_cmt (ih a (by simp at h; omega)).1 fun b r e => ?_
      subst e
      exact (ih b (by simp at h; omega)).1
    case idx a b => exact pe_cidx (ih a (by simp at h; omega)).1 (ih b (by simp at h; omega)).1
    case slc a lo hi => exact pe_cslc (ih a (by simp at h; omega)).1 (ih lo (by simp at h; omega)).1 (ih hi (by simp at h; omega)).1
    case rev a => exact pe_crev (ih a (by simp at h; omega)).1
    case tup as => exact pe_ctup (ih as (by simp at h; omega)).2
    case lst as => exact pe_clst (ih as (by simp at h; omega)).2
    case lc t one it cnd elt => exact pe_clc (fun c hc => (ih c (by simp at h; omega)).1) (ih cnd (by simp at h; omega)).1 (ih elt (by simp at h; omega)).1
    case fld c j a => exact pe_cfld (ih a (by simp at h; omega)).1
    case efld i c j => exact pe_cefld
    case eisi i k => exact pe_ceisi
    case gdx x ks vs a => exact pe_cgdx (ih a (by simp at h; omega)).1
    case gdi neg x ks vs a => exact pe_cgdi (ih a (by simp at h; omega)).1
    case isc k x a => exact pe_cisc (ih a (by simp at h; omega)).1
    case fst as => exact pe_cfst fun c hc => (ih c (by simp at h; omega)).1
    case mth c k m a as => exact no_check Φ sub fun S O rd x => by unfold chkE; rfl
theorem sound (c : C) : Pe Φ sub c := (sound_n Φ sub _ c (Nat.lt_succ_self _)).1
theorem soundL (c : C) : Pl Φ sub c := (sound_n Φ sub _ c (Nat.lt_succ_self _)).2
end
end E

set_option autoImplicit false
set_option linter.all false
set_option Elab.async false
set_option maxRecDepth 100000
/-! E20: the check of statements, its soundness. -/
namespace E
open PySem PySem.Spec PyProof.Rows L2

def isLC : Expr → Bool
  | .ListComp _ _ _ _ => true
  | .SetComp _ _ _ _ => true
  | .DictComp _ _ _ _ _ => true
  | _ => false
def isTup : Expr → Bool
  | .Tuple _ _ _ => true
  | _ => false
def isNT : Expr → Bool
  | .Name _ _ => true
  | .Tuple _ _ _ => true
  | _ => false
def swc (S : Scp) (y : Str) (py pos : Pos) (scope : Scope) : Bool := (S.sc.names.lookup y == some .local) && py.line == pos.line && !(scope.names.any fun (n, k) => n == y && (k == .local || k == .cell))
def chkF (S : Scp) (O : List Nat) (c : C) (x : Expr) : Bool := match c with
  | .lst _ => chkE S O false c x
  | .lc _ _ _ _ _ => chkE S O false c x
  | .op .add _ _ => chkE S O false c x
  | .op .mul _ _ => chkE S O false c x
  | _ => false
def meet (a b : Option (List Nat)) : Option (List Nat) := match a, b with
  | none, x => x
  | x, none => x
  | some x, some y => some (x.filter fun i => y.contains i)
def subL (a b : List Nat) : Bool := a.all fun i => b.contains i
def suS (S : Scp) (i : Nat) (y : Str) : Scp := { S with calm := false, stm := false, tr := false, ex := some (i, y), pr := [i], fns := S.hot }
mutual
/-- none: not in order; some none: it does not go on; some (some O'): what is owned behind it -/
def chkS (S : Scp) (L : List Nat) : E.S → List Nat → Stmt → Option (Option (List Nat))
  | .skip, O, st => match st with
    | .Pass _ => some (some O)
    | _ => none
  | .frz i a, O, st => chkS S L a (O.filter (· != i)) st
  | .asg t one e, O, st => match st with
    | .Assign [tg] x _ => if chkE S O false e x && chkT S t one tg && disj t O S.pr && isNT tg && !(isTup tg && isTup x) && (!isLC x || (S.stm && one && (match e with | .lc _ _ _ _ _ => true | _ => false))) then some (some O) else none
    | _ => none
  | .own i e, O, st => match st with
    | .Assign [.Name y _] x _ => if chkF S O e x && stoOk S i y && !S.pr.contains i && (!isLC x || S.stm) then some (some (i :: O.filter (· != i))) else none
    | _ => none
  | .mu m i as, O, st => match st with
    | .Expr (.Call (.Attribute (.Name y _) n ap) args [] cp) _ => if O.contains i && nameOk S i y && ap.endLine == cp.line && (match m, args with
        | .append, [a] => n == ("append" : Str) && noStar a && chkL S O as [a]
        | .extend, [a] => n == ("extend" : Str) && noStar a && chkL S O as [a]
        | .reverse, [] => n == ("reverse" : Str) && chkL S O as []
        | _, _ => false) then some (some O) else none
    | _ => none
  | .put i a b, O, st => match st with
    | .Assign [.Subscript (.Name y _) p _] q _ => if O.contains i && nameOk S i y && plainIx p && chkE S O false a p && chkE S O false b q then some (some O) else none
    | _ => none
  | .aug _ _ _, _, _ => none
  | .dnew i, O, st => match st with
    | .Assign [.Name y _] (.Dict [] [] _) _ => if stoOk S i y && !S.pr.contains i then some (some (i :: O.filter (· != i))) else none
    | _ => none
  | .dnew1 i k v, O, st => match st with
    | .Assign [.Name y _] (.Dict [some p] [q] _) _ => if stoOk S i y && !S.pr.contains i && chkE S O false k p && chkE S O false v q then some (some (i :: O.filter (· != i))) else none
    | _ => none
  | .fpop M t one a i b, O, st => match st with
    | .For tg (.Subscript x (.Call (.Attribute (.Name y _) n ap) [] [] cp) _) p [] _ => if S.stm && S.calm && subL M O && chkE S M false a x && M.contains i && nameOk S i y && n == ("pop" : Str) && ap.endLine == cp.line && chkT S t one tg && disj t M S.pr then (match chkSs S M b M p with
        | some none => some (some M)
        | some (some r) => if subL M r then some (some M) else none
        | none => none) else none
    | _ => none
  | .if_ c a b, O, st => match st with
    | .If x p q _ => if okT c && chkE S O true c x then (match chkSs S L a O p, chkSs S L b O q with
        | some r1, some r2 => some (meet r1 r2)
        | _, _ => none) else none
    | _ => none
  | .while_ M c b, O, st => match st with
    | .While x p [] _ => if S.stm && subL M O && okT c && chkE S M true c x then (match chkSs S M b M p with
        | some none => some (some M)
        | some (some r) => if subL M r then some (some M) else none
        | none => none) else none
    | _ => none
  | .for_ M t one it b, O, st => match st with
    | .For tg x p [] _ => if S.stm && S.calm && subL M O && chkI S M tg it x && chkT S t one tg && disj t M S.pr && notSet x then (match chkSs S M b M p with
        | some none => some (some M)
        | some (some r) => if subL M r then some (some M) else none
        | none => none) else none
    | _ => none
  | .ret e, O, st => match st with
    | .Return (some x) _ => if chkE S O false e x then some none else none
    | _ => none
  | .retN, O, st => match st with
    | .Return none _ => some none
    | _ => none
  | .expr e, O, st => match st with
    | .Expr x _ => if chkE S O false e x && !isLC x then some (some O) else none
    | _ => none
  | .raise c n as, O, st => match st with
    | .Raise (some (.Call (.Name f _) (e :: es) [] _)) none _ => if S.stm && S.calm && gl S f && S.xcs.any (fun p => p.1 == f && p.2 == c) && noStar e && es.all noStar && chkL S O as (e :: es) && (match S.fl[c]? with | some fs => (e :: es).length == fs.length | none => false) then some none else none
    | _ => none
  | .try_ b h, O, st => match st with
    | .Try body (h0 :: hds) [] [] _ => if S.stm && S.calm && L.isEmpty && chkHs S h (h0 :: hds) && S.tr then (match chkSs S L b O body with
        | some r => some (some [])
        | none => none) else none
    | _ => none
  | .hnd _ _ _ _ _ _, _, _ => none
  | .brk, O, st => match st with
    | .Break _ => if subL L O then some none else none
    | _ => none
  | .cont, O, st => match st with
    | .Continue _ => if subL L O then some none else none
    | _ => none
  | .seq _ _, _, _ => none
def chkSs (S : Scp) (L : List Nat) : E.S → List Nat → List Stmt → Option (Option (List Nat))
  | .skip, O, l => match l with
    | [] => some (some O)
    | _ => none
  | .seq a b, O, l => match l with
    | st :: rest => match chkS S L a O st with
      | some (some O1) => chkSs S L b O1 rest
      | some none => (match b, rest with | .skip, [] => some none | _, _ => none)
      | none => none
    | _ => none
  | _, _, _ => none
def chkHs (S : Scp) : E.S → List ExceptHandler → Bool
  | .skip, hds => match hds with
    | [] => true
    | _ => false
  | .hnd k n i nm hb r, hds => match hds with
    | .ExceptHandler (some (.Name x _)) (some y) (b0 :: suite) _ :: rest => gl S x && decide (S.sc.names.lookup y = some .local) && decide (S.N[i]? = some y) && S.cn.any (fun q => q.1 == x && q.2 == k) && (chkSs (suS S i y) [] hb [] (b0 :: suite)).isSome && chkHs S r rest
    | _ => false
  | _, _ => false
end
/-- the stores of fields -/
def chkSt (S : Scp) : List Str → C → List Stmt → Bool
  | [], .nil, [] => true
  | f :: fl, .cons a r, st :: ss => (match stoSt st with
    | some (s, f', x) => nameOk S 0 s && f' == f && !isLC x && chkE S [] false a x
    | none => false) && chkSt S fl r ss
  | _, _, _ => false
end E

set_option autoImplicit false
set_option linter.all false
set_option Elab.async false
set_option maxRecDepth 100000
/-! E21: soundness of the check of statements. -/
namespace E
open PySem PySem.Spec PyProof.Rows L2

structure Gx (X : Cx) (T : Tb) (W : WX) (Φ : Nat → List D → Res D) (sub : Nat → Nat → Option Bool) (S : Scp) : Prop extends Fx X T W Φ sub S where
  po : S.stm = true → PassesOwn (model X.prog X.w) X.A X.env X.xe
  fr : S.stm = true → X.stack = X.env :: X.outer ∧ X.env.frame = some X.env.locals ∧ X.env.blockKind = .function
  rs : S.stm = true → ∀ p ∈ S.xcs, ∀ X', Core X X' → RaiseOk X' T p.1 p.2
  cn : ∀ q ∈ S.cn, ClsNm X T sub q.1 q.2
  zt : S.tr = true → (∀ G, T.z G) ∧ (∀ e σ, T.ze e σ)
  nx : S.stm = true → S.ex = none
  su : S.tr = true → ∀ (i : Nat) (y : Str) (a : Addr) (oe : Obj) (od : Option Addr) (pn : List (Addr × Obj)) (c : Nat) (l : List D), L2N.Zn (.ref (T.ca c)) od oe → (∃ vs, oe.data = .fields vs) → (∃ k b, sub c k = some b) → Fx (X.suite a ((a, oe) :: pn)) (suT T X.K i a c l od) noW Φ sub (suS S i y)
section
variable {X : Cx} {T : Tb} {W : WX} {Φ : Nat → List D → Res D} {sub : Nat → Nat → Option Bool} {S : Scp}
theorem Gx.tr (G : Gx X T W Φ sub S) (hs : S.stm = true) (hc : S.calm = true) {W' : WX} {pn : List (Addr × Obj)} {xe : Value → Shared → Prop} (tk : L2N.Takes (X.tr pn xe) W') (po : PassesOwn (model X.prog X.w) X.A X.env xe) : Gx (X.tr pn xe) T W' Φ sub S where
  hN := G.hN
  nd := G.nd
  sc := G.sc
  stl := G.stl
  stc := G.stc
  calm := G.calm
  hu := G.hu
  bi := G.bi
  glb := G.glb
  fl := G.fl
  ins := G.ins
  gd := G.gd
  isc := G.isc
  fn := fun p hp X' W' c t => G.fn p hp X' W' ⟨c.prog, c.w, c.K, c.mg, c.base, c.A, .inl (G.calm hc)⟩ t
  tk := tk
  pr := G.pr
  efl := fun i nm h => by rw [G.nx hs] at h; cases h
  eis := fun i nm h => by rw [G.nx hs] at h; cases h
  po := fun _ => po
  fr := G.fr
  rs := fun h p hp X' c => G.rs h p hp X' ⟨c.prog, c.w, c.K, c.mg, c.base, c.A, .inl (G.calm hc)⟩
  cn := fun q hq => ⟨(G.cn q hq).ex⟩
  zt := G.zt
  nx := G.nx
  su := G.su
/-! ### assignments -/
theorem swap_no {x tg : Expr} {line : Nat} {env : PySem.Env} (h : isLC x = false) : swapsWithSole [tg] x line env = pure false := by
  cases x <;> first | rfl | cases h
theorem swap_e {x : Expr} {line : Nat} {env : PySem.Env} (h : isLC x = false) : swapsWith x none line env = pure false := by
  cases x <;> first | rfl | cases h
theorem swapped_no {x tg : Expr} {env : PySem.Env} (h0 : isNT tg = true) (h : (isTup tg && isTup x) = false) : swappedStores [tg] x env = pure none := by
  cases tg <;> first | rfl | (cases h0; done) | skip
  cases x <;> first | rfl | cases h
theorem each_one {tg : Expr} {env : PySem.Env} (h0 : isNT tg = true) : (assignEach [tg] env).map (·.2) = [assign tg env] := by
  cases tg <;> first | rfl | cases h0
theorem swaps_lc {el : Expr} {gens : List Comprehension} {scope : Scope} {pos py : Pos} {y : Str} {line : Nat} (hb : X.env.blockKind = .function) (hsc : X.env.scope = S.sc) : swapsWith (.ListComp el gens scope pos) (some (.Name y py)) line X.env = pure (swc S y py pos scope) := by
  unfold swapsWith swc
  show (pure (X.env.blockKind == .function && X.env.scope.names.lookup y == some .local && py.line == pos.line && !(scope.names.any fun (n, k) => n == y && (k == .local || k == .cell))) : Sem Bool) = _
  rw [hb, hsc]
  rfl
theorem lc_shape {O : List Nat} {rd : Bool} {e : C} {x : Expr} (hx : isLC x = true) (h : chkE S O rd e x = true) : (∃ a, e = .one a) ∨ ∃ t one it cnd elt, e = .lc t one it cnd elt := by
  cases e <;> first
    | (exact .inr ⟨_, _, _, _, _, rfl⟩)
    | (exact .inl ⟨_, rfl⟩)
    | (cases x <;> first | (cases hx; done) | (unfold chkE at h; exact Bool.noConfusion (show false = true from h)))
/-- a comprehension's value in a name, by the rule that fits the line -/
theorem ps_lc (G : Gx X T W Φ sub S) (hs : S.stm = true) {O t : List Nat} {one : Bool} {it cnd elt : C} {x : Expr} {rd : Bool} {i : Nat} {y : Str} {py pos : Pos} (hy : stoOk S i y = true) (h : chkE S O rd (.lc t one it cnd elt) x = true) :
    PS X (.Assign [.Name y py] x pos) (tAsg (cE X T W O (RF T X.K) fun e => (ev Φ sub (.lc t one it cnd elt) e).bd onlyL) (gName i)) := by
  have F := G.toFx
  obtain ⟨y1, y2, y3⟩ := F.sto hy
  have sf := (sf_lc_ok F h (fun c _ => sound Φ sub c) (sound Φ sub cnd) (sound Φ sub elt)).1
  have hx : ∃ el gens scope p, x = .ListComp el gens scope p := by
    unfold chkE at h
    split at h
    · exact ⟨_, _, _, _, rfl⟩
    · cases h
  obtain ⟨el, gens, scope, p, rfl⟩ := hx
  obtain ⟨f1, f2, f3⟩ := G.fr hs
  have hsw := swaps_lc (X := X) (S := S) (el := el) (gens := gens) (scope := scope) (pos := p) (py := py) (y := y) (line := pos.line) f3 F.sc
  cases q : swc S y py p scope with
  | false =>
    rw [q] at hsw
    exact ps_set F.nd y1 y2 sf hsw y3
  | true =>
    rw [q] at hsw
    have hloc : X.env.scope.names.lookup y = some .local := by
      rw [F.sc]
      unfold swc at q
      simp only [Bool.and_eq_true] at q
      exact (beq_iff_eq.mp q.1.1)
    rw [lcF_ev]
    unfold chkE at h
    split at h
    · rename_i el' tg iter ifs z scope' pos' heq
      cases heq
      simp only [Bool.and_eq_true, beq_iff_eq] at h
      obtain ⟨⟨⟨⟨⟨⟨⟨⟨h0, h1⟩, h2⟩, h3⟩, h4⟩, h5⟩, h6⟩, h7⟩, h8⟩ := h
      subst h0
      have hB : BlkOk X.N X.env.scope scope (ownOf S t) := by rw [F.hN, F.sc]; exact blkOk_by h4
      have hcond : ∀ (s : Shared) (H : Hp) (C : Addr) (cl : List (Str × Addr)) (fp : List Addr), STs (X.blk s H scope (compEnvC scope cl C X.env) fp) T noW O ifs (fun e' => (ev Φ sub cnd e').bd truth) := fun s H C cl fp => by
        have FB := F.blk h1 s H scope C cl fp
        split at h7
        · split at h7
          · rw [show (fun e' => (ev Φ sub (.bl true) e').bd truth) = fun _ => .ok true by funext e; rw [ev]; rfl]
            exact st_nil
          · cases h7
        · simp only [Bool.and_eq_true] at h7
          exact st_one ((sound Φ sub cnd).b _ _ _ _ _ FB _ h7.1 h7.2)
        · cases h7
      refine PS.weak (ps_setLc (g := gA X.K t one) (tt := cE X T noW O (fun _ => RB) fun e' => (ev Φ sub cnd e').bd truth) (te := cE X T noW O (fun _ => RV T X.K) (ev Φ sub elt)) (F.calm h1) F.nd y1 hloc hsw (si_ok F (fun c _ => sound Φ sub c) (by unfold chkI; exact h6)) hB (fun s H C cl fp => pg_ok (F.blk h1 s H scope C cl fp) h5) hcond (fun s H C cl fp => (sound Φ sub elt).se (F.blk h1 s H scope C cl fp) h8) (notSet_ok h2)) fun D σ H q => ?_
      exact lc_key (by simp [ownOf, Function.comp_def]) (disj_ok F h3) q
    · cases h
/-! ### new lists -/
theorem sf_ok (F : Fx X T W Φ sub S) {O : List Nat} {c : C} {x : Expr} (h : chkF S O c x = true) : SF X T W O x (ev Φ sub c) := by
  unfold chkF at h
  split at h
  · rename_i as
    unfold chkE at h
    split at h
    · rw [show ev Φ sub (.lst as) = _ by funext e; rw [ev]]
      exact sf_lst (soundL Φ sub as S X T W O F _ h)
    · cases h
  · rename_i t one it cnd elt
    exact (sf_lc_ok F h (fun c _ => sound Φ sub c) (sound Φ sub cnd) (sound Φ sub elt)).1
  · rename_i a b
    have e1 : (fun e => (ev Φ sub (.op .add a b) e).bd onlyL) = fun e => (ev Φ sub a e).bd fun x => (ev Φ sub b e).bd fun y => (op2 .add x y).bd onlyL := by funext e; rw [ev]; simp only [bd_bd]
    unfold chkE at h
    split at h
    · rename_i p op q pos
      simp only [Bool.and_eq_true] at h
      obtain ⟨⟨h1, h2⟩, h3⟩ := h
      cases op <;> first | (exact Bool.noConfusion (show false = true from h1)) | skip
      unfold SF
      rw [e1]
      exact PE.weak (pe_op op_cat ((sound Φ sub a).sr F h2) ((sound Φ sub b).sr F h3)) fun σ H Q q => two rfl rfl q fun G0 H0 G2 H2 e x y v w rl s rx ry p => addF_ok s rl.sub rx ry p
    · rename_i p op q pos
      simp only [Bool.and_eq_true] at h
      obtain ⟨⟨⟨h1, _⟩, _⟩, _⟩ := h
      cases op <;> exact Bool.noConfusion (show false = true from h1)
    · cases h
  · rename_i a b
    have e1 : (fun e => (ev Φ sub (.op .mul a b) e).bd onlyL) = fun e => (ev Φ sub a e).bd fun x => (ev Φ sub b e).bd fun y => (op2 .mul x y).bd onlyL := by funext e; rw [ev]; simp only [bd_bd]
    unfold chkE at h
    split at h
    · rename_i p op q pos
      simp only [Bool.and_eq_true] at h
      obtain ⟨⟨h1, h2⟩, h3⟩ := h
      cases op <;> first | (exact Bool.noConfusion (show false = true from h1)) | skip
      unfold SF
      rw [e1]
      exact PE.weak (pe_op op_rep ((sound Φ sub a).sr F h2) ((sound Φ sub b).sr F h3)) fun σ H Q q => two rfl rfl q fun G0 H0 G2 H2 e x y v w rl s rx ry p => mulF_ok s rl.sub rx ry p
    · rename_i p op q pos
      simp only [Bool.and_eq_true] at h
      obtain ⟨⟨⟨h1, _⟩, _⟩, _⟩ := h
      cases op <;> exact Bool.noConfusion (show false = true from h1)
    · cases h
  · cases h
end
/-! ### all statements -/
def good (r : Option (List Nat)) (P : List Nat → Prop) : Prop := match r with
  | none => ∀ O', P O'
  | some O1 => P O1
theorem subL_ok {a b : List Nat} (h : subL a b = true) : ∀ i ∈ a, i ∈ b := fun i hi => by
  unfold subL at h
  have := List.all_eq_true.mp h i hi
  simpa using this
section
variable (Φ : Nat → List D → Res D) (sub : Nat → Nat → Option Bool) (n : Nat)
structure Ps (s : E.S) : Prop where
  st : ∀ (S : Scp) (X : Cx) (T : Tb) (W : WX) (L O : List Nat), Gx X T W Φ sub S → ∀ (st : Stmt) (r : Option (List Nat)), chkS S L s O st = some r → good r fun O' => SS X T W O O' L st (evS Φ sub n s)
  ls : ∀ (S : Scp) (X : Cx) (T : Tb) (W : WX) (L O : List Nat), Gx X T W Φ sub S → ∀ (st : List Stmt) (r : Option (List Nat)), chkSs S L s O st = some r → good r fun O' => SSs X T W O O' L st (evS Φ sub n s)
  hd : ∀ (S : Scp) (X : Cx) (T : Tb) (W : WX), Gx X T W Φ sub S → S.stm = true → S.tr = true → ∀ (hds : List ExceptHandler), chkHs S s hds = true → HdOk X T W hds (fun c l e => evH Φ sub n c l s e)
end
section
variable {Φ : Nat → List D → Res D} {sub : Nat → Nat → Option Bool} {n : Nat}
theorem meet_ok {X : Cx} {T : Tb} {W : WX} {O L : List Nat} {p q : List Stmt} {f g : Env → Out} {r1 r2 : Option (List Nat)} (h1 : good r1 fun O' => SSs X T W O O' L p f) (h2 : good r2 fun O' => SSs X T W O O' L q g) : good (meet r1 r2) fun O' => SSs X T W O O' L p f ∧ SSs X T W O O' L q g := by
  cases r1 with
  | none =>
    cases r2 with
    | none => exact fun O' => ⟨h1 O', h2 O'⟩
    | some b => exact ⟨h1 b, h2⟩
  | some a =>
    cases r2 with
    | none => exact ⟨h1, h2 a⟩
    | some b => exact ⟨SSs.out h1 fun i hi => (List.mem_filter.mp hi).1, SSs.out h2 fun i hi => by simpa using (List.mem_filter.mp hi).2⟩
theorem good.imp {r : Option (List Nat)} {P Q : List Nat → Prop} (h : good r P) (k : ∀ O, P O → Q O) : good r Q := by
  cases r with
  | none => exact fun O => k O (h O)
  | some a => exact k a h
theorem noL {s : E.S} (h : ∀ S L O st, chkSs S L s O st = none) {S : Scp} {X : Cx} {T : Tb} {W : WX} {L O : List Nat} {st : List Stmt} {r : Option (List Nat)} (q : chkSs S L s O st = some r) : good r fun O' => SSs X T W O O' L st (evS Φ sub n s) := by rw [h] at q; cases q
theorem noH {s : E.S} (h : ∀ S hds, chkHs S s hds = false) {S : Scp} {X : Cx} {T : Tb} {W : WX} {hds : List ExceptHandler} (q : chkHs S s hds = true) : HdOk X T W hds (fun c l e => evH Φ sub n c l s e) := by rw [h] at q; cases q
theorem E_ifSome {c : Prop} {inst : Decidable c} {α : Type} {a : α} {r : α} (h : (if c then some a else none) = some r) : c ∧ a = r := by
  split at h
  · exact ⟨by assumption, by simpa using h⟩
  · cases h
theorem E_ifIn {c : Prop} {inst : Decidable c} {α : Type} {o : Option α} {r : α} (h : (if c then o else none) = some r) : c ∧ o = some r := by
  split at h
  · exact ⟨by assumption, h⟩
  · cases h
theorem slot_len {X : Cx} {pins : List (Addr × Obj)} {σ : L2.St} {H : Hp} {s : Shared} {i : Nat} {y : Str} (I : Inv X pins σ H s) (h : X.N[i]? = some y) : i < σ.length := by
  rw [I.len]
  exact (List.getElem?_eq_some_iff.mp h).1
theorem ps_sound : ∀ (m : Nat) (s : E.S), sizeOf s < m → Ps Φ sub n s := by
  intro m
  induction m with
  | zero => intro s h; omega
  | succ m ih =>
    intro s hsz
    cases s
    case skip =>
      refine ⟨fun S X T W L O G st r h => ?_, fun S X T W L O G st r h => ?_, fun S X T W G hs htr hds h => ?_⟩
      rotate_right
      · cases hds with
        | nil =>
          rw [show (fun c l e => evH Φ sub n c l .skip e) = fun c l e => .ex e c l by funext c l e; rw [evH]; exact fun _ _ _ _ _ _ z => nomatch z]
          exact hd_nil
        | cons a b => simp [chkHs] at h
      · unfold chkS at h
        split at h
        · cases h
          rw [show evS Φ sub n .skip = .nx by funext e; rw [evS]]
          exact ss_pass
        · cases h
      · cases st with
        | nil =>
          simp only [chkSs] at h
          cases h
          rw [show evS Φ sub n .skip = .nx by funext e; rw [evS]]
          exact ss_nil
        | cons a b => simp [chkSs] at h
    case seq a b =>
      refine ⟨fun S X T W L O G st r h => (by unfold chkS at h; cases h), fun S X T W L O G st r h => ?_, fun S X T W G hs htr hds h => noH (fun S hds => by unfold chkHs; rfl) h⟩
      have ha := ih a (by simp at hsz; omega)
      have hb := ih b (by simp at hsz; omega)
      have e1 : evS Φ sub n (.seq a b) = seqO (evS Φ sub n a) (evS Φ sub n b) := by funext e; rw [evS]; rfl
      rw [e1]
      cases st with
      | nil => simp [chkSs] at h
      | cons st rest =>
        simp only [chkSs] at h
        split at h
        · rename_i O1 q
          have h1 := ha.st S X T W L O G st _ q
          exact (hb.ls S X T W L O1 G rest r h).imp fun O' h2 => ss_cons h1 h2
        · rename_i q
          have h1 := ha.st S X T W L O G st _ q
          split at h
          · cases h
            intro O'
            rw [show evS Φ sub n .skip = .nx by funext e; rw [evS]]
            exact ss_cons (h1 O') ss_nil
          · cases h
        · cases h
    case hnd k nm' i nm hb' r' =>
      refine ⟨fun S X T W L O G st r h => (by unfold chkS at h; cases h), fun S X T W L O G st r h => noL (fun S L O st => by unfold chkSs; rfl) h, fun S X T W G h1 htr hds h => ?_⟩
      have hs := ih hb' (by simp at hsz; omega)
      have hr := ih r' (by simp at hsz; omega)
      unfold chkHs at h
      split at h
      · rename_i x np y b0 suite hp rest
        simp only [Bool.and_eq_true, List.any_eq_true, beq_iff_eq, decide_eq_true_eq] at h
        obtain ⟨⟨⟨⟨⟨h4, h5⟩, h6⟩, ⟨q, hq, e4, e5⟩⟩, h7⟩, h8⟩ := h
        have C := G.cn q hq
        rw [e4, e5] at C
        obtain ⟨z1, z2⟩ := G.zt htr
        obtain ⟨r2, q2⟩ := Option.isSome_iff_exists.mp h7
        rw [show (fun c l e => evH Φ sub n c l (.hnd k nm' i nm hb' r') e) = hdStep sub i k (evS Φ sub n hb') (fun c l e => evH Φ sub n c l r' e) by
          funext c l e
          rw [evH]
          rfl]
        refine hd_cons (by rw [G.hN]; exact h6) (by show X.env.scope.names.lookup y = _; rw [G.sc]; exact h5) C (G.gl h4) z1 z2 (fun a oe od pn c l hz hf ⟨b', hb''⟩ => ?_) (hr.hd S X T W G h1 htr rest h8)
        have FX := G.su htr i y a oe od pn c l hz hf ⟨k, b', hb''⟩
        have GX : Gx (X.suite a ((a, oe) :: pn)) (suT T X.K i a c l od) noW Φ sub (suS S i y) := { FX with
          po := fun h => by cases h
          fr := fun h => by cases h
          rs := fun h => by cases h
          cn := fun q hq => ⟨(G.cn q hq).ex⟩
          zt := fun h => by cases h
          nx := fun h => by cases h
          su := fun h => by cases h }
        have g := hs.ls (suS S i y) _ _ noW [] [] GX (b0 :: suite) r2 q2
        cases r2 with
        | none => exact g []
        | some O1 => exact SSs.out g (by simp)
      · cases h
    all_goals refine ⟨fun S X T W L O G st r h => ?_, fun S X T W L O G st r h => noL (fun S L O st => by unfold chkSs; rfl) h, fun S X T W G hs htr hds h => noH (fun S hds => by unfold chkHs; rfl) h⟩
    case frz i a =>
      have ha := ih a (by simp at hsz; omega)
      unfold chkS at h
      rw [show evS Φ sub n (.frz i a) = evS Φ sub n a by funext e; rw [evS]]
      exact (ha.st S X T W L _ G st r h).imp fun O' h2 => SS.inn h2 fun j hj => (List.mem_filter.mp hj).1
    case asg t one e =>
      unfold chkS at h
      split at h
      · rename_i tg x pos
        obtain ⟨hh, e2⟩ := E_ifSome h
        clear h
        subst e2
        simp only [Bool.and_eq_true, Bool.or_eq_true, Bool.not_eq_true'] at hh
        obtain ⟨⟨⟨⟨⟨h1, h2⟩, h3⟩, h4⟩, h5⟩, h6⟩ := hh
        rw [show evS Φ sub n (.asg t one e) = _ by funext e; rw [evS]]
        refine ss_asg (disj_ok G.toFx h3) ?_
        rcases h6 with h6 | ⟨⟨h6, h7⟩, h8⟩
        · exact ps_asg ((sound Φ sub e).se G.toFx h1) (pg_ok G.toFx h2) (swap_no h6) (swapped_no h4 h5) (each_one h4)
        · subst h7
          split at h8
          · rename_i t' one' it cnd elt
            unfold chkT at h2
            split at h2
            · rename_i y py
              simp only [Bool.true_and] at h2
              split at h2
              · rename_i i
                refine PS.weak (ps_lc G h6 (py := py) (pos := pos) h2 h1) fun D σ H q => rv_rf (fun e d q => by rw [lcF_ev] at q; exact lcF_lst e d q) ?_
                exact q
              · cases h2
            · simp at h2
            · cases h2
          · cases h8
      · cases h
    case own i e =>
      unfold chkS at h
      split at h
      · rename_i y py x pos
        obtain ⟨hh, e2⟩ := E_ifSome h
        clear h
        subst e2
        simp only [Bool.and_eq_true, Bool.or_eq_true, Bool.not_eq_true'] at hh
        obtain ⟨⟨⟨h1, h2⟩, h3⟩, h4⟩ := hh
        rw [show evS Φ sub n (.own i e) = _ by funext e; rw [evS]]
        obtain ⟨y1, y2, y3⟩ := G.toFx.sto h2
        refine ss_own ?_ (fun s σ H pins I => slot_len I y1) (by rw [G.pr]; simpa using h3)
        rcases h4 with h4 | h4
        · have := swap_no (tg := .Name y py) (line := pos.line) (env := X.env) h4
          exact ps_set G.nd y1 y2 (sf_ok G.toFx h1) this y3
        · by_cases hl : isLC x = true
          · unfold chkF at h1
            split at h1
            · obtain ⟨a, q⟩ | ⟨_, _, _, _, _, q⟩ := lc_shape hl h1 <;> cases q
            · exact ps_lc G h4 h2 h1
            · obtain ⟨a, q⟩ | ⟨_, _, _, _, _, q⟩ := lc_shape hl h1 <;> cases q
            · obtain ⟨a, q⟩ | ⟨_, _, _, _, _, q⟩ := lc_shape hl h1 <;> cases q
            · cases h1
          · have := swap_no (tg := .Name y py) (line := pos.line) (env := X.env) (by simpa using hl)
            exact ps_set G.nd y1 y2 (sf_ok G.toFx h1) this y3
      · cases h
    case mu m i as =>
      unfold chkS at h
      split at h
      · rename_i y py nm ap args cp pos
        obtain ⟨hh, e2⟩ := E_ifSome h
        clear h
        subst e2
        simp only [Bool.and_eq_true, beq_iff_eq] at hh
        obtain ⟨⟨⟨h1, h2⟩, h3⟩, h4⟩ := hh
        obtain ⟨y1, y2, y3, y4⟩ := G.toFx.nm h2
        have hi : i ∈ O := by simpa using h1
        have hline : (ap.endLine == cp.line) = true := by rw [h3]; simp
        have e1 : evS Φ sub n (.mu m i as) = muF m i (evL Φ sub as) := by funext e; rw [evS]; rfl
        rw [e1]
        split at h4
        · simp only [Bool.and_eq_true, beq_iff_eq] at h4
          obtain ⟨⟨h5, h6⟩, h7⟩ := h4
          subst h5
          exact ss_mu (m := .append) (.inl rfl) hi y1 y2 y3 y4 h6 hline (soundL Φ sub as S X T W O G.toFx _ h7)
        · simp only [Bool.and_eq_true, beq_iff_eq] at h4
          obtain ⟨⟨h5, h6⟩, h7⟩ := h4
          subst h5
          exact ss_mu (m := .extend) (.inr rfl) hi y1 y2 y3 y4 h6 hline (soundL Φ sub as S X T W O G.toFx _ h7)
        · simp only [Bool.and_eq_true, beq_iff_eq] at h4
          obtain ⟨h5, h7⟩ := h4
          subst h5
          have e2 : evL Φ sub as = fun _ => .ok [] := by
            funext e
            cases as <;> first | (simp [chkL] at h7; done) | (rw [evL])
          rw [e2]
          exact ss_rev hi y1 y2 y3 y4 hline
        · cases h4
      · cases h
    case put i a b =>
      unfold chkS at h
      split at h
      · rename_i y py p tp q pos
        obtain ⟨hh, e2⟩ := E_ifSome h
        clear h
        subst e2
        simp only [Bool.and_eq_true] at hh
        obtain ⟨⟨⟨⟨h1, h2⟩, h3⟩, h4⟩, h5⟩ := hh
        obtain ⟨y1, y2, y3, y4⟩ := G.toFx.nm h2
        rw [show evS Φ sub n (.put i a b) = _ by funext e; rw [evS]]
        exact ss_put G.hu (by simpa using h1) y1 y2 y3 y4 h3 ((sound Φ sub a).se G.toFx h4) ((sound Φ sub b).se G.toFx h5)
      · cases h
    case aug o i c => unfold chkS at h; cases h
    case dnew i =>
      unfold chkS at h
      split at h
      · rename_i y py dp pos
        obtain ⟨hh, e2⟩ := E_ifSome h
        clear h
        subst e2
        simp only [Bool.and_eq_true, Bool.not_eq_true'] at hh
        obtain ⟨y1, y2, y3⟩ := G.toFx.sto hh.1
        rw [show evS Φ sub n (.dnew i) = _ by funext e; rw [evS]]
        exact ss_dnew G.nd y1 y2 y3 (by rw [G.pr]; simpa using hh.2)
      · cases h
    case dnew1 i k v =>
      unfold chkS at h
      split at h
      · rename_i y py p q dp pos
        obtain ⟨hh, e2⟩ := E_ifSome h
        clear h
        subst e2
        simp only [Bool.and_eq_true, Bool.not_eq_true'] at hh
        obtain ⟨⟨⟨h1, h2⟩, h3⟩, h4⟩ := hh
        obtain ⟨y1, y2, y3⟩ := G.toFx.sto h1
        rw [show evS Φ sub n (.dnew1 i k v) = _ by funext e; rw [evS]]
        exact ss_dnew1 G.nd y1 y2 y3 (by rw [G.pr]; simpa using h2) ((sound Φ sub k).se G.toFx h3) ((sound Φ sub v).se G.toFx h4)
      · cases h
    case fpop M t one a i b =>
      have hb := ih b (by simp at hsz; omega)
      unfold chkS at h
      split at h
      · rename_i tg x y py nm ap cp sp p pos
        obtain ⟨hh, e2⟩ := E_ifIn h
        clear h
        simp only [Bool.and_eq_true, beq_iff_eq] at hh
        obtain ⟨⟨⟨⟨⟨⟨⟨⟨⟨h1, h2⟩, h3⟩, h4⟩, h5⟩, h6⟩, h7⟩, h8⟩, h9⟩, h10⟩ := hh
        subst h7
        obtain ⟨y1, y2, y3, y4⟩ := G.toFx.nm h6
        rw [show evS Φ sub n (.fpop M t one a i b) = _ by funext e; rw [evS]]
        have body : ∀ (q : SSs X T W M M M p (evS Φ sub n b)), SS X T W O M L (.For tg (.Subscript x (.Call (.Attribute (.Name y py) "pop" ap) [] [] cp) sp) p [] pos) _ := fun q =>
          SS.inn (ss_fpop (G.po h1) (G.calm h2) ((sound Φ sub a).se G.toFx h4) (by simpa using h5) y1 y2 y3 y4 (by rw [h8]; simp) (pg_ok G.toFx h9) (disj_ok G.toFx h10) q) (subL_ok h3)
        split at e2
        · rename_i q
          cases e2
          exact body (hb.ls S X T W M M G p _ q M)
        · rename_i r' q
          obtain ⟨h11, e3⟩ := E_ifSome e2
          cases e3
          exact body (SSs.out (hb.ls S X T W M M G p _ q) (subL_ok h11))
        · cases e2
      · cases h
    case if_ c a b =>
      have ha := ih a (by simp at hsz; omega)
      have hb := ih b (by simp at hsz; omega)
      unfold chkS at h
      split at h
      · rename_i x p q pos
        obtain ⟨hh, e2⟩ := E_ifIn h
        clear h
        simp only [Bool.and_eq_true] at hh
        split at e2
        · rename_i r1 r2 q1 q2
          cases e2
          rw [show evS Φ sub n (.if_ c a b) = _ by funext e; rw [evS]]
          exact (meet_ok (ha.ls S X T W L O G p r1 q1) (hb.ls S X T W L O G q r2 q2)).imp fun O' ⟨z1, z2⟩ => ss_if ((sound Φ sub c).b S X T W O G.toFx x hh.1 hh.2) z1 z2
        · cases e2
      · cases h
    case while_ M c b =>
      have hb := ih b (by simp at hsz; omega)
      unfold chkS at h
      split at h
      · rename_i x p pos
        obtain ⟨hh, e2⟩ := E_ifIn h
        clear h
        simp only [Bool.and_eq_true] at hh
        obtain ⟨⟨⟨h1, h2⟩, h3⟩, h4⟩ := hh
        rw [show evS Φ sub n (.while_ M c b) = _ by funext e; rw [evS]]
        have body : ∀ (q : SSs X T W M M M p (evS Φ sub n b)), SS X T W O M L (.While x p [] pos) (fun e => whL (fun e => (ev Φ sub c e).bd truth) (evS Φ sub n b) n e) := fun q =>
          SS.inn (ss_while n (G.po h1) ((sound Φ sub c).b S X T W M G.toFx x h3 h4) q) (subL_ok h2)
        split at e2
        · rename_i q
          cases e2
          exact body (hb.ls S X T W M M G p _ q M)
        · rename_i r' q
          obtain ⟨h5, e3⟩ := E_ifSome e2
          cases e3
          exact body (SSs.out (hb.ls S X T W M M G p _ q) (subL_ok h5))
        · cases e2
      · cases h
    case for_ M t one it b =>
      have hb := ih b (by simp at hsz; omega)
      unfold chkS at h
      split at h
      · rename_i tg x p pos
        obtain ⟨hh, e2⟩ := E_ifIn h
        clear h
        simp only [Bool.and_eq_true] at hh
        obtain ⟨⟨⟨⟨⟨⟨h1, h2⟩, h3⟩, h4⟩, h5⟩, h6⟩, h7⟩ := hh
        have e1 : evS Φ sub n (.for_ M t one it b) = fun e => ((ev Φ sub it e).bd fun x => om (items x) .ok).out e fun l => forL (fun d e => omO (asg t one d e) (evS Φ sub n b)) l e := by funext e; rw [evS, out_items]
        rw [e1]
        have body : ∀ (q : SSs X T W M M M p (evS Φ sub n b)), SS X T W O M L (.For tg x p [] pos) (fun e => ((ev Φ sub it e).bd fun x => om (items x) .ok).out e fun l => forL (fun d e => omO (asg t one d e) (evS Φ sub n b)) l e) := fun q =>
          SS.inn (ss_for (G.po h1) (G.calm h2) (si_ok G.toFx (fun c _ => sound Φ sub c) h4) (pg_ok G.toFx h5) (disj_ok G.toFx h6) q (notSet_ok h7)) (subL_ok h3)
        split at e2
        · rename_i q
          cases e2
          exact body (hb.ls S X T W M M G p _ q M)
        · rename_i r' q
          obtain ⟨h8, e3⟩ := E_ifSome e2
          cases e3
          exact body (SSs.out (hb.ls S X T W M M G p _ q) (subL_ok h8))
        · cases e2
      · cases h
    case ret e =>
      unfold chkS at h
      split at h
      · obtain ⟨hh, e2⟩ := E_ifSome h
        clear h
        subst e2
        rw [show evS Φ sub n (.ret e) = _ by funext e; rw [evS]]
        exact fun O' => ss_ret ((sound Φ sub e).se G.toFx hh)
      · cases h
    case retN =>
      unfold chkS at h
      split at h
      · cases h
        rw [show evS Φ sub n .retN = _ by funext e; rw [evS]]
        exact fun O' => ss_retN
      · cases h
    case expr e =>
      unfold chkS at h
      split at h
      · obtain ⟨hh, e2⟩ := E_ifSome h
        clear h
        subst e2
        simp only [Bool.and_eq_true, Bool.not_eq_true'] at hh
        rw [show evS Φ sub n (.expr e) = _ by funext e; rw [evS]]
        exact ss_expr ((sound Φ sub e).se G.toFx hh.1) (swap_e hh.2)
      · cases h
    case raise c nm as =>
      unfold chkS at h
      split at h
      · rename_i f fp e es pos rp
        obtain ⟨hh, e2⟩ := E_ifSome h
        clear h
        subst e2
        simp only [Bool.and_eq_true, List.any_eq_true, beq_iff_eq] at hh
        obtain ⟨⟨⟨⟨⟨⟨⟨h1, h2⟩, h3⟩, ⟨p, hp, e4, e5⟩⟩, h5⟩, h6⟩, h7⟩, h8⟩ := hh
        rw [show evS Φ sub n (.raise c nm as) = _ by funext e; rw [evS]]
        have R := G.rs h1 p hp X (Core.refl X)
        rw [e4, e5] at R
        have hlen : (e :: es).length = (T.fl c).length := by
          cases q : S.fl[c]? with
          | none => rw [q] at h8; cases h8
          | some fs =>
            rw [q] at h8
            rw [G.fl c fs q]
            simpa using h8
        exact fun O' => ss_raise (G.calm h2) G.tk R (G.gl h3) h5 h6 (fun e' xs q => by rw [evL_len Φ sub as e' xs S O _ h7 q]; exact hlen) (soundL Φ sub as S X T W O G.toFx _ h7)
      · cases h
    case try_ b hd =>
      have hb := ih b (by simp at hsz; omega)
      have hh := ih hd (by simp at hsz; omega)
      unfold chkS at h
      split at h
      · rename_i body h0 hds pos
        obtain ⟨hq, e2⟩ := E_ifIn h
        clear h
        simp only [Bool.and_eq_true] at hq
        obtain ⟨⟨⟨⟨h1, h2⟩, h3⟩, h4⟩, h5⟩ := hq
        have hL : L = [] := by simpa using h3
        obtain ⟨f1, f2, f3⟩ := G.fr h1
        have e1 : evS Φ sub n (.try_ b hd) = tryF (evS Φ sub n b) (fun c l e => evH Φ sub n c l hd e) := by
          funext e
          rw [evS]
          unfold tryF
          cases evS Φ sub n b e <;> rfl
        rw [e1]
        split at e2
        · rename_i r0 q1
          cases e2
          refine ss_try f1 f2 G.nd G.tk (fun W' pn xe tk po => ?_) (hh.hd S X T W G h1 h5 _ h4) hL
          have g := hb.ls S (X.tr pn xe) T W' L O (G.tr h1 h2 tk po) body r0 q1
          cases r0 with
          | none => exact g []
          | some O1 => exact SSs.out g (by simp)
        · cases e2
      · cases h
    case brk =>
      unfold chkS at h
      split at h
      · obtain ⟨hh, e2⟩ := E_ifSome h
        clear h
        subst e2
        rw [show evS Φ sub n .brk = _ by funext e; rw [evS]]
        exact fun O' => ss_brk (subL_ok hh)
      · cases h
    case cont =>
      unfold chkS at h
      split at h
      · obtain ⟨hh, e2⟩ := E_ifSome h
        clear h
        subst e2
        rw [show evS Φ sub n .cont = _ by funext e; rw [evS]]
        exact fun O' => ss_cont (subL_ok hh)
      · cases h
theorem soundS (s : E.S) : Ps Φ sub n s := ps_sound _ s (Nat.lt_succ_self _)
theorem stos_of {S : Scp} {X : Cx} {T : Tb} {W : WX} {Ca : Addr} (F : Fx X T W Φ sub S) : ∀ (fl : List Str) (as : C) (ss : List Stmt), (∀ f ∈ fl, NoAttr X.K Ca f) → chkSt S fl as ss = true → Stos X T W Ca fl ss (evL Φ sub as)
  | [], as, ss, _, h => by
    cases as <;> cases ss <;> first | (cases h; done) | skip
    rw [show evL Φ sub .nil = fun _ => .ok [] by funext e; rw [evL]]
    exact .nil
  | f :: fl, as, ss, hn, h => by
    cases as <;> cases ss <;> first | (cases h; done) | skip
    rename_i a r st ss
    simp only [chkSt, Bool.and_eq_true] at h
    obtain ⟨h1, h2⟩ := h
    cases q : stoSt st with
    | none => rw [q] at h1; cases h1
    | some z =>
      obtain ⟨s, f', x⟩ := z
      rw [q] at h1
      simp only [Bool.and_eq_true, beq_iff_eq, Bool.not_eq_true'] at h1
      obtain ⟨⟨⟨a1, a2⟩, a3⟩, a4⟩ := h1
      subst a2
      obtain ⟨p1, p2, p3, e⟩ := stoSt_inv q
      subst e
      obtain ⟨y1, y2, y3, y4⟩ := F.nm a1
      rw [show evL Φ sub (.cons a r) = _ by funext e; rw [evL]]
      exact .cons (pe_var y1 y2 y3 y4) (hn _ List.mem_cons_self) ((sound Φ sub a).se F a4) (by cases x <;> first | rfl | cases a3) (stos_of F fl r ss (fun g hg => hn g (List.mem_cons_of_mem _ hg)) h2)
/-- statements, then others -/
theorem ls_app {S : Scp} {X : Cx} {T : Tb} {W : WX} {L : List Nat} (G : Gx X T W Φ sub S) {ss : List Stmt} {u : TS} (hu : PSs X ss u) : ∀ (bs : List Stmt) (b : E.S) (O : List Nat) (r : Option (List Nat)), chkSs S L b O bs = some r →
    good r fun O' => PSs X (bs ++ ss) (fun D σ H => cS X T W O O' L (evS Φ sub n b) { D with nx := fun σ H => u D σ H } σ H)
  | [], b, O, r, h => by
    cases b <;> simp only [chkSs] at h <;> cases h
    rw [show evS Φ sub n .skip = .nx by funext e; rw [evS]]
    exact PSs.weak hu fun D σ H ⟨G0, H0, Gs, G', e, rl, gs, p⟩ => p σ H G' rl gs
  | st :: rest, b, O, r, h => by
    cases b <;> simp only [chkSs] at h <;> try (cases h; done)
    rename_i a b
    have e1 : evS Φ sub n (.seq a b) = seqO (evS Φ sub n a) (evS Φ sub n b) := by funext e; rw [evS]; rfl
    rw [e1]
    have one : ∀ (O1 O' : List Nat) (h1 : SS X T W O O1 L st (evS Φ sub n a)) (g : Env → Out) (h2 : PSs X (rest ++ ss) (fun D σ H => cS X T W O1 O' L g { D with nx := fun σ H => u D σ H } σ H)),
        PSs X (st :: rest ++ ss) (fun D σ H => cS X T W O O' L (seqO (evS Φ sub n a) g) { D with nx := fun σ H => u D σ H } σ H) := fun O1 O' h1 g h2 =>
      PSs.weak (pss_cons h1 h2) fun D σ H ⟨G0, H0, Gs, G', e, rl, gs, p⟩ => by
        refine ⟨G0, H0, Gs, G', e, rl, gs, ?_⟩
        unfold seqO at p
        cases q : evS Φ sub n a e with
        | nx e' =>
          rw [q] at p
          exact fun σ' H' G'' r' gs' => ⟨G0, H0, Gs, G'', e', r', gs', p⟩
        | rt d => rw [q] at p; exact p
        | bk e' => rw [q] at p; exact p
        | ct e' => rw [q] at p; exact p
        | ex e' c l => rw [q] at p; exact p
        | bad => rw [q] at p; exact p
    split at h
    · rename_i O1 q
      have h1 := (soundS (Φ := Φ) (sub := sub) (n := n) a).st S X T W L O G st _ q
      exact (ls_app G hu rest b O1 r h).imp fun O' h2 => one O1 O' h1 _ h2
    · rename_i q
      have h1 := (soundS (Φ := Φ) (sub := sub) (n := n) a).st S X T W L O G st _ q
      split at h
      · cases h
        intro O'
        rw [show evS Φ sub n .skip = .nx by funext e; rw [evS]]
        refine one O' O' (h1 O') _ ?_
        exact PSs.weak hu fun D σ H ⟨G0, H0, Gs, G', e, rl, gs, p⟩ => p σ H G' rl gs
      · cases h
    · cases h
end
end E

set_option autoImplicit false
set_option linter.all false
set_option Elab.async false
set_option maxRecDepth 100000
/-! E22: a def of the program, from what the top has written. -/
namespace E
open PySem PySem.Spec PyProof.Rows L2

structure FnR (P : Program) (w : World) (K : PySem.W.Frag) (mg : Str → Option Value) (base : Heap) (T : Tb) (F : List D → Res D) (k : Nat) (x : Str) (n : Nat) : Prop where
  ex : ∃ (j : Nat) (f : Addr) (fd : FuncData) (ps : List Str), j ≤ k ∧ FnOk P w K mg base (L2N.CX P w) j f fd ps (spOf T K F n) ∧ mg x = some (.ref f) ∧ PySem.W.keepIn K (.ref f) = true ∧ Binds K fd ps [] ∧ (x == ("__debug__" : Str)) = false
/-- a call of x does what F says, in every context with this much room -/
def CalR (P : Program) (w : World) (K : PySem.W.Frag) (mg : Str → Option Value) (base : Heap) (T : Tb) (F : List D → Res D) (k : Nat) (x : Str) (n : Nat) : Prop :=
  ∀ (X' : Cx) (W' : WX) (T' : Tb), T.ca = T'.ca → T.fl = T'.fl → X'.prog = P → X'.w = w → X'.K = K → X'.mg = mg → X'.base = base → Room k X'.A → L2N.Takes X' W' → CallOk X' T' W' F x n
/-- a plain class -/
structure MkR (P : Program) (w : World) (K : PySem.W.Frag) (mg : Str → Option Value) (base : Heap) (T : Tb) (F : List D → Res D) (k : Nat) (x : Str) (n : Nat) : Prop where
  ex : ∃ (j : Nat) (C f : Addr) (fd : FuncData) (ps : List Str), j + 1 ≤ k ∧ Mk K C f ∧ FnOk P w K mg base (L2N.CX P w) j f fd ps (spI T K C F n) ∧ mg x = some (.ref C) ∧ Binds K fd ps [] ∧ (x == ("__debug__" : Str)) = false ∧ n ≠ 0
structure FnRH (P : Program) (w : World) (K : PySem.W.Frag) (mg : Str → Option Value) (base : Heap) (T : Tb) (F : List D → Res D) (k : Nat) (x : Str) (n : Nat) : Prop where
  ex : ∃ (j : Nat) (f : Addr) (fd : FuncData) (ps : List Str), j ≤ k ∧ L2H.FnH P w K mg base (L2N.CX P w) j f fd ps (spOf T K F n) ∧ mg x = some (.ref f) ∧ PySem.W.keepIn K (.ref f) = true ∧ Binds K fd ps [] ∧ (x == ("__debug__" : Str)) = false
structure RsR (P : Program) (w : World) (K : PySem.W.Frag) (mg : Str → Option Value) (base : Heap) (T : Tb) (k : Nat) (x : Str) (c : Nat) : Prop where
  ex : ∃ (j : Nat) (f : Addr) (fd : FuncData) (ps : List Str), j + 1 ≤ k ∧ OexC K (T.ca c) ∧ PySem.W.findIn K (.ref (T.ca c)) "__init__" = some (some (.ref f)) ∧ PySem.W.typeIn K (.ref f) = some (.type "function") ∧ FnOk P w K mg base CX0 j f fd ps (spInit (T.ca c) (T.fl c)) ∧ Binds K fd ps [] ∧ mg x = some (.ref (T.ca c)) ∧ (x == ("__debug__" : Str)) = false ∧ (T.fl c).Nodup ∧ (T.fl c).length ≤ 900
structure NmR (K : PySem.W.Frag) (mg : Str → Option Value) (T : Tb) (sub : Nat → Nat → Option Bool) (x : Str) (k : Nat) : Prop where
  ex : ∃ cv v, RelV v cv ∧ (∀ u, RelV v u → u = cv) ∧ (x == ("__debug__" : Str)) = false ∧ (mg x = some cv ∨ (mg x = none ∧ bootBuiltins x = some cv ∧ x ≠ "__name__")) ∧
    ∀ c b, sub c k = some b → PySem.W.kitOne K (.ref (T.ca c)) cv = some b ∧ PySem.W.exmOne K (.ref (T.ca c)) cv = some b
/-- what is known of the module at one def -/
structure MF (P : Program) (w : World) (K : PySem.W.Frag) (mg : Str → Option Value) (base : Heap) (T : Tb) (Φ : Nat → List D → Res D) (sub : Nat → Nat → Option Bool) (S : Scp) (k : Nat) : Prop where
  z : (∀ G, T.z G) ∧ (∀ e σ, T.ze e σ) ∧ T.pr = []
  sS : S.calm = true ∧ S.stm = true ∧ S.ex = none ∧ S.pr = []
  bi : ∀ x ∈ bnames, mg x = none
  glb : ∀ p ∈ S.glb, ∃ v u, mg p.1 = some u ∧ RelV v u ∧ ∀ G, Rep T K G p.2 v
  fl : ∀ c fs, S.fl[c]? = some fs → T.fl c = fs
  ins : ∀ c ∈ S.ics, ClsOk K (T.ca c) (T.fl c)
  gd : ∀ q ∈ S.gds, GdOk K w mg q.1 q.2.1 q.2.2
  isc : ∀ q ∈ S.iscs, IscOk K mg (T.ca q.1) q.2
  fn : ∀ p ∈ S.fns, CalR P w K mg base T (Φ p.1) k p.2.1 p.2.2
  hot : ∀ p ∈ S.hot, FnRH P w K mg base T (Φ p.1) k p.2.1 p.2.2
  rs : ∀ p ∈ S.xcs, RsR P w K mg base T k p.1 p.2
  cn : ∀ q ∈ S.cn, NmR K mg T sub q.1 q.2
  xf : ∀ c j b, sub c j = some b → ExcF K T c
section
variable {P : Program} {w : World} {K : PySem.W.Frag} {mg : Str → Option Value} {base : Heap} {T : Tb} {Φ : Nat → List D → Res D} {sub : Nat → Nat → Option Bool} {S : Scp} {k : Nat}
theorem FnR.ok {F : List D → Res D} {x : Str} {n : Nat} (R : FnR P w K mg base T F k x n) {X' : Cx} {W' : WX} (h1 : X'.prog = P) (h2 : X'.w = w) (h3 : X'.K = K) (h4 : X'.mg = mg) (h5 : X'.base = base) (hr : Room k X'.A) (tk : L2N.Takes X' W') : CallOk X' T W' F x n := by
  obtain ⟨j, f, fd, ps, hj, Fn, hm, hk, hb, hd⟩ := R.ex
  subst h1 h2 h3 h4 h5
  exact callOk Fn rfl rfl (hr.mono hj) hm hk hb tk hd
theorem FnR.cal {F : List D → Res D} {x : Str} {n : Nat} (R : FnR P w K mg base T F k x n) : CalR P w K mg base T F k x n := fun X' W' T' t1 t2 h1 h2 h3 h4 h5 hr tk => by
  obtain ⟨j, f, fd, ps, hj, Fn, hm, hk, hb, hd⟩ := R.ex
  subst h1 h2 h3 h4 h5
  exact callOk Fn t1 t2 (hr.mono hj) hm hk hb tk hd
theorem MkR.cal {F : List D → Res D} {x : Str} {n : Nat} (R : MkR P w K mg base T F k x n) : CalR P w K mg base T F k x n := fun X' W' T' t1 t2 h1 h2 h3 h4 h5 hr tk => by
  obtain ⟨j, C, f, fd, ps, hj, M, Fn, hm, hb, hd, hn⟩ := R.ex
  subst h1 h2 h3 h4 h5
  exact mkOk M Fn t1 t2 hn (hr.mono hj) hm hb tk hd
theorem FnRH.ok {F : List D → Res D} {x : Str} {n : Nat} (R : FnRH P w K mg base T F k x n) {X' : Cx} {W' : WX} {T' : Tb} (t1 : T.ca = T'.ca) (t2 : T.fl = T'.fl) (h1 : X'.prog = P) (h2 : X'.w = w) (h3 : X'.K = K) (h4 : X'.mg = mg) (h5 : X'.base = base) (hr : L2H.RoomH k X'.A) (hh : L2H.HotC X') (tk : L2N.Takes X' W') : CallOk X' T' W' F x n := by
  obtain ⟨j, f, fd, ps, hj, Fn, hm, hk, hb, hd⟩ := R.ex
  subst h1 h2 h3 h4 h5
  exact callOkH Fn t1 t2 (hr.mono hj) hh hm hk hb tk hd
theorem RsR.ok {x : Str} {c : Nat} (R : RsR P w K mg base T k x c) {X' : Cx} (h1 : X'.prog = P) (h2 : X'.w = w) (h3 : X'.K = K) (h4 : X'.mg = mg) (h5 : X'.base = base) (hr : Room k X'.A) : RaiseOk X' T x c := by
  obtain ⟨j, f, fd, ps, hj, Tc, iC, tI, F1, hb, hm, hd, nd, len⟩ := R.ex
  subst h1 h2 h3 h4 h5
  exact raiseOk Tc iC tI F1 (hr.mono hj) hb hm hd nd len
theorem gx_of (M : MF P w K mg base T Φ sub S k) {qual : Str} {st : Stmt} {f : Addr} {cdv : Value} {A : Around} {outer : List PySem.Env} {s : Shared} {H : Hp} {E' : XK} (hnd : S.N.Nodup) (hsc : S.sc = defScope st) (hraw : S.raw = defScope st) (hkd : (defScope st).kind = .function)
    (hr : Room k (A.deeper (envOfC qual (defScope st) s.heap.objs.size f cdv))) : Gx (cxOf (L2N.CX P w) P w K mg base S.N qual (defScope st) f cdv A outer s H E') T (fun cls d _ H => E' cls d H) Φ sub S where
  hN := rfl
  nd := hnd
  sc := hsc.symm
  stl := fun x h => by rw [hraw] at h; rw [hsc]; exact h
  stc := fun x h => ⟨rfl, by rw [hraw] at h; rw [hsc]; exact h⟩
  calm := fun _ => rfl
  hu := by
    have := hr.un
    show (A.deeper _).units + 65 < cLine
    omega
  bi := M.bi
  glb := M.glb
  fl := M.fl
  ins := M.ins
  gd := M.gd
  isc := M.isc
  fn := fun p hp X' W' c t => M.fn p hp X' W' T rfl rfl c.prog c.w c.K c.mg c.base (by rw [c.A]; exact hr) t
  tk := L2N.takes_of rfl rfl rfl rfl
  pr := by rw [M.z.2.2, M.sS.2.2.2]
  efl := fun i nm h => by rw [M.sS.2.2.1] at h; cases h
  eis := fun i nm h => by rw [M.sS.2.2.1] at h; cases h
  po := fun _ => passes_of rfl
  fr := fun _ => ⟨rfl, rfl, by show (if (defScope st).kind.isAnnotationScope then _ else (defScope st).kind) = _; rw [hkd]; rfl⟩
  rs := fun _ p hp X' c => (M.rs p hp).ok c.prog c.w c.K c.mg c.base (by rw [c.A]; exact hr)
  cn := fun q hq => ⟨(M.cn q hq).ex⟩
  zt := fun _ => ⟨M.z.1, M.z.2.1⟩
  nx := fun _ => M.sS.2.2.1
  su := fun _ i y a oe od pn c l hz hf ⟨j, b, hb⟩ => {
    hN := rfl
    nd := hnd
    sc := hsc.symm
    stl := fun x h => by
      have h : S.raw.names.lookup x = some .local := h
      show S.sc.names.lookup x = _
      rw [hraw] at h; rw [hsc]; exact h
    stc := fun x h => ⟨rfl, by
      have h : S.raw.names.lookup x = some .cell := h
      show S.sc.names.lookup x = _
      rw [hraw] at h; rw [hsc]; exact h⟩
    calm := fun h => by cases h
    hu := by
      have := hr.un
      show (A.deeper (envOfC qual (defScope st) s.heap.objs.size f cdv)).units + 65 < cLine
      omega
    bi := M.bi
    glb := fun p hp => by
      obtain ⟨v, u, h1, h2, h3⟩ := M.glb p hp
      exact ⟨v, u, h1, h2, fun G => rep_T (T := T) (T' := suT T K i a c l od) rfl rfl _ _ (h3 G)⟩
    fl := M.fl
    ins := M.ins
    gd := M.gd
    isc := M.isc
    fn := fun p hp X' W' c t => (M.hot p hp).ok (T' := suT T K i a _ l od) rfl rfl c.prog c.w c.K c.mg c.base (by rw [c.A]; exact L2H.roomH_mark hr _) (by
      obtain ⟨vs, e⟩ := hf
      refine ⟨(a, oe), ⟨by rw [c.A]; rfl, vs, e, hz.2.2 vs e⟩, ?_⟩
      rcases c.pn with z | z
      · exact Bool.noConfusion (show false = true from z)
      · exact z _ List.mem_cons_self) t
    tk := fun u s' x => by
      obtain ⟨a, B, sI, pins, σ, H, cls, d, e, I, nb, up, sky, na, os, ag, w⟩ := x
      exact w.elim
    pr := rfl
    efl := fun i' nm h O c' j f p pos hj hv hN hn => by
      cases h
      unfold ndb at hn
      simp only [Bool.and_eq_true, Bool.not_eq_true'] at hn
      exact se_efld (M.xf c _ b hb) hj hz.zc hf hN hv hn.1 hn.2
    eis := fun i' nm h q hq O p p2 p3 pos hv hN hn hg hgx => by
      cases h
      unfold ndb at hn
      simp only [Bool.and_eq_true, Bool.not_eq_true'] at hn
      exact se_eisi (X := cxOf (L2N.CX P w) P w K mg base S.N qual (defScope st) f cdv A outer s H E') (M.xf c _ b hb) ⟨(M.cn q hq).ex⟩ hz.zc hf hN hv hn.1 hn.2 hg (M.bi _ (by decide)) hgx }
theorem fn_bad {f : Addr} {fd : FuncData} {ps : List Str} {n : Nat} (h : ps.length = n) : FnOk P w K mg base (L2N.CX P w) 0 f fd ps (spOf T K (fun _ => .bad) n) where
  len := fun vs H Q E q => by rw [h]; exact q.1
  run := fun A outer s H args us vs Q E hr e0 hb r ⟨_, _, _, _, _, p⟩ => p.elim
/-- the def's word, from the check -/
theorem def_ok {x qual : Str} {st : Stmt} {f : Addr} {fd : FuncData} {ps : List Str} {n : Nat} {b : E.S} {r : Option (List Nat)} (M : MF P w K mg base T Φ sub S k) (F : Fun K x qual st f fd) (SC : FnScope S.N ps (defScope st)) (hsc : S.sc = defScope st) (hraw : S.raw = defScope st)
    (h : chkSs S [] b [] (defBody st) = some r) : FnOk P w K mg base (L2N.CX P w) (k + 1) f fd ps (spOf T K (run Φ sub n S.N.length b) ps.length) :=
  fn_body F SC M.z.1 M.z.2.1 M.z.2.2 rfl fun cdv A outer s H E' hr => by
    have g := (soundS (Φ := Φ) (sub := sub) (n := n) b).ls S _ T _ [] [] (gx_of M (qual := qual) (f := f) (cdv := cdv) (s := s) (outer := outer) (H := H) (E' := E') SC.nd hsc hraw SC.kind hr) (defBody st) r h
    cases r with
    | none => exact g []
    | some O1 => exact SSs.out g (by simp)
/-- the scope of a def that is called within a suite -/
def hotS (S : Scp) : Scp := { S with calm := false, stm := false, tr := false, fns := S.hot }
theorem gx_ofH (M : MF P w K mg base T Φ sub S k) {qual : Str} {st : Stmt} {f : Addr} {cdv : Value} {A : Around} {outer : List PySem.Env} {s : Shared} {H : Hp} {E' : XK} {p0 : Addr × Obj} (hnd : S.N.Nodup) (hsc : S.sc = defScope st) (hraw : S.raw = defScope st)
    (h0 : L2H.Hot1 A p0) (hr : L2H.RoomH k (A.deeper (envOfC qual (defScope st) s.heap.objs.size f cdv))) : Gx (L2H.cxH (L2N.CX P w) P w K mg base S.N qual (defScope st) f cdv A outer s H E' p0) T (fun cls d _ H => E' cls d H) Φ sub (hotS S) where
  hN := rfl
  nd := hnd
  sc := hsc.symm
  stl := fun x h => by
    have h : S.raw.names.lookup x = some .local := h
    show S.sc.names.lookup x = _
    rw [hraw] at h; rw [hsc]; exact h
  stc := fun x h => ⟨rfl, by
    have h : S.raw.names.lookup x = some .cell := h
    show S.sc.names.lookup x = _
    rw [hraw] at h; rw [hsc]; exact h⟩
  calm := fun h => by cases h
  hu := by
    have := hr.un
    show (A.deeper _).units + 65 < cLine
    omega
  bi := M.bi
  glb := M.glb
  fl := M.fl
  ins := M.ins
  gd := M.gd
  isc := M.isc
  fn := fun p hp X' W' c t => (M.hot p hp).ok (T' := T) rfl rfl c.prog c.w c.K c.mg c.base (by rw [c.A]; exact hr) (by
    refine ⟨p0, ⟨by rw [c.A]; exact h0.1, h0.2⟩, ?_⟩
    rcases c.pn with z | z
    · exact Bool.noConfusion (show false = true from z)
    · exact z _ List.mem_cons_self) t
  tk := L2N.takes_of rfl rfl rfl rfl
  pr := by show T.pr = S.pr; rw [M.z.2.2, M.sS.2.2.2]
  efl := fun i nm h => by
    have h : S.ex = some (i, nm) := h
    rw [M.sS.2.2.1] at h; cases h
  eis := fun i nm h => by
    have h : S.ex = some (i, nm) := h
    rw [M.sS.2.2.1] at h; cases h
  po := fun h => by cases h
  fr := fun h => by cases h
  rs := fun h => by cases h
  cn := fun q hq => ⟨(M.cn q hq).ex⟩
  zt := fun h => by cases h
  nx := fun h => by cases h
  su := fun h => by cases h
theorem def_okH {x qual : Str} {st : Stmt} {f : Addr} {fd : FuncData} {ps : List Str} {n : Nat} {b : E.S} {r : Option (List Nat)} (M : MF P w K mg base T Φ sub S k) (F : Fun K x qual st f fd) (SC : FnScope S.N ps (defScope st)) (hsc : S.sc = defScope st) (hraw : S.raw = defScope st)
    (h : chkSs (hotS S) [] b [] (defBody st) = some r) : L2H.FnH P w K mg base (L2N.CX P w) (k + 1) f fd ps (spOf T K (run Φ sub n S.N.length b) ps.length) :=
  fn_bodyH F SC M.z.1 M.z.2.1 M.z.2.2 rfl fun cdv A outer s H E' p0 h0 hr => by
    have g := (soundS (Φ := Φ) (sub := sub) (n := n) b).ls (hotS S) _ T _ [] [] (gx_ofH M (qual := qual) (f := f) (cdv := cdv) (s := s) (outer := outer) (H := H) (E' := E') SC.nd hsc hraw h0 hr) (defBody st) r h
    cases r with
    | none => exact g []
    | some O1 => exact SSs.out g (by simp)
/-! ### __init__ of a plain class -/
def iniS (S : Scp) : Scp := { S with pr := [0], tr := false }
theorem gx_ofI (M : MF P w K mg base T Φ sub S k) {qual : Str} {st : Stmt} {f : Addr} {cdv : Value} {A : Around} {outer : List PySem.Env} {s : Shared} {H : Hp} {E' : XK} (a : Addr) (hnd : S.N.Nodup) (hsc : S.sc = defScope st) (hraw : S.raw = defScope st) (hkd : (defScope st).kind = .function)
    (hr : Room k (A.deeper (envOfC qual (defScope st) s.heap.objs.size f cdv))) : Gx (cxOf (L2N.CX P w) P w K mg base S.N qual (defScope st) f cdv A outer s H E') (inT T a) (fun cls d _ H => E' cls d H) Φ sub (iniS S) where
  hN := rfl
  nd := hnd
  sc := hsc.symm
  stl := fun x h => by
    have h : S.raw.names.lookup x = some .local := h
    show S.sc.names.lookup x = _
    rw [hraw] at h; rw [hsc]; exact h
  stc := fun x h => ⟨rfl, by
    have h : S.raw.names.lookup x = some .cell := h
    show S.sc.names.lookup x = _
    rw [hraw] at h; rw [hsc]; exact h⟩
  calm := fun _ => rfl
  hu := by
    have := hr.un
    show (A.deeper _).units + 65 < cLine
    omega
  bi := M.bi
  glb := fun p hp => by
    obtain ⟨v, u, h1, h2, h3⟩ := M.glb p hp
    exact ⟨v, u, h1, h2, fun G => rep_T (T := T) (T' := inT T a) rfl rfl _ _ (h3 G)⟩
  fl := M.fl
  ins := M.ins
  gd := M.gd
  isc := M.isc
  fn := fun p hp X' W' c t => M.fn p hp X' W' (inT T a) rfl rfl c.prog c.w c.K c.mg c.base (by rw [c.A]; exact hr) t
  tk := L2N.takes_of rfl rfl rfl rfl
  pr := rfl
  efl := fun i nm h => by
    have h : S.ex = some (i, nm) := h
    rw [M.sS.2.2.1] at h; cases h
  eis := fun i nm h => by
    have h : S.ex = some (i, nm) := h
    rw [M.sS.2.2.1] at h; cases h
  po := fun _ => passes_of rfl
  fr := fun _ => ⟨rfl, rfl, by show (if (defScope st).kind.isAnnotationScope then _ else (defScope st).kind) = _; rw [hkd]; rfl⟩
  rs := fun _ p hp X' c => by
    have R := (M.rs p hp).ok (X' := X') c.prog c.w c.K c.mg c.base (by rw [c.A]; exact hr)
    exact ⟨R.pm, R.nd, R.len⟩
  cn := fun q hq => ⟨(M.cn q hq).ex⟩
  zt := fun h => by cases h
  nx := fun _ => M.sS.2.2.1
  su := fun h => Bool.noConfusion (show false = true from h)
theorem run_start {N : List Str} {a : Addr} {ds : List D} {us : List V} {G H H1 : Hp} {dx C : Addr} {n : Nat} (hn : n = N.length) (sm : Same G H1) (hz : ∀ G, T.z G) (h1 : H1 a = none) (h2 : H1 dx = none) (eH : H = upd (upd H1 dx (.own a)) a (.ins C dx [])) (hne : dx ≠ a) (r : RepL T K G ds us) :
    Rel (inT T a) K [] G H (L2.start N (.ref a :: us)) H G (none :: (ds.map some ++ List.replicate (n - (ds.length + 1)) none)) ∧ Since H1 G H G a dx := by
  have hs : ∀ b o, H1 b = some o → H b = some o := fun b o z => by
    have b1 : b ≠ a := fun q => by rw [q, h1] at z; cases z
    have b2 : b ≠ dx := fun q => by rw [q, h2] at z; cases z
    rw [eH, upd_ne b1, upd_ne b2]
    exact z
  have sH : Same G H := fun b o z => hs b o (sm b o z)
  refine ⟨{ x := .refl sH, s0 := sH, z := hz _, ze := rfl, po := fun i _ h => by simp at h, len := ?_, val := fun i d h _ => ?_, own := fun i h => by simp at h, dis := fun i h => by simp at h }, hs, .refl _, sH, fun b _ h => h, Same.none sm h1, Same.none sm h2, by rw [eH, upd_ne hne, upd_same]⟩
  · unfold L2.start
    subst hn
    simp [r.length]
  · cases i with
    | zero => simp at h
    | succ i =>
      by_cases hi : i < ds.length
      · rw [List.getElem?_cons_succ, List.getElem?_append_left (by simpa using hi), List.getElem?_map] at h
        cases q : ds[i]? with
        | none => rw [q] at h; cases h
        | some d' =>
          rw [q] at h
          cases h
          obtain ⟨v, e1, e2⟩ := r.get q
          refine ⟨v, ?_, rep_T (T := T) (T' := inT T a) rfl rfl _ _ e2⟩
          unfold L2.start
          rw [List.map_cons, List.cons_append, List.getElem?_cons_succ, List.getElem?_append_left (by rw [List.length_map, ← r.length]; exact hi), List.getElem?_map, e1]
          rfl
      · rw [List.getElem?_cons_succ, List.getElem?_append_right (by simp; omega), List.getElem?_replicate] at h
        split at h <;> cases h
/-- __init__'s word, from the check -/
theorem initI_ok {x qual : Str} {st : Stmt} {f : Addr} {fd : FuncData} {ps : List Str} {n m c : Nat} {b : E.S} {as : C} {bs ss : List Stmt} {r : Option (List Nat)} (M : MF P w K mg base T Φ sub S k) (F : Fun K x qual st f fd) (SC : FnScope S.N ps (defScope st)) (hsc : S.sc = defScope st) (hraw : S.raw = defScope st)
    (hps : ps.length = m + 1) (hbody : defBody st = bs ++ ss) (h : chkSs (iniS S) [] b [] bs = some r) (hst : chkSt (iniS S) (T.fl c) as ss = true) (cl : ClsOk K (T.ca c) (T.fl c)) (hlen : (T.fl c).length ≤ 900) :
    FnOk P w K mg base (L2N.CX P w) (k + 1) f fd ps (spI T K (T.ca c) (runI Φ sub n S.N.length c b as) m) :=
  okN F SC (fun vs H Q E h => by rw [hps]; exact h.1) fun cdv A outer s H vs Q E hr ⟨hl, H1, G, ds, a, dx, us, ev, eH, h1, h2, hne, sm, rds, p⟩ => by
    have GX := gx_ofI M (qual := qual) (f := f) (cdv := cdv) (s := s) (outer := outer) (H := H) (E' := E) a SC.nd hsc hraw SC.kind hr
    have T1 := stos_ok (a := a) cl.cl (fun e σ q => q) (stos_of (T := inT T a) GX.toFx (T.fl c) as ss cl.na hst)
    have T2 := ls_app (n := n) GX T1 bs b [] r h
    have key : ∃ O', PSs (cxOf (L2N.CX P w) P w K mg base S.N qual (defScope st) f cdv A outer s H E) (defBody st) (fun D σ H' => cS (cxOf (L2N.CX P w) P w K mg base S.N qual (defScope st) f cdv A outer s H E) (inT T a) (fun cls d _ H => E cls d H) [] O' [] (evS Φ sub n b)
        { D with nx := fun σ H' => tSto (cxOf (L2N.CX P w) P w K mg base S.N qual (defScope st) f cdv A outer s H E) (inT T a) (fun cls d _ H => E cls d H) (T.ca c) a (T.fl c) (evL Φ sub as) D σ H' } σ H') := by
      rw [hbody]
      cases r with
      | none => exact ⟨[], T2 []⟩
      | some O1 => exact ⟨O1, T2⟩
    obtain ⟨O', key⟩ := key
    refine ⟨_, key, ?_⟩
    subst ev
    obtain ⟨r0, s0⟩ := run_start (T := T) (K := K) (N := S.N) (n := S.N.length) rfl sm M.z.1 h1 h2 eH hne rds
    have ha0 : H a = some (.ins (T.ca c) dx []) := by rw [eH, upd_same]
    refine ⟨G, H, G, G, _, r0, Same.refl _, ?_⟩
    unfold runI at p
    cases q : evS Φ sub n b (none :: (ds.map some ++ List.replicate (S.N.length - (ds.length + 1)) none)) with
    | nx e' =>
      rw [q] at p
      intro σ' H' G' r' gs
      obtain ⟨G2, s2, r2⟩ := r'.weaken (O' := []) (by simp)
      have x2 : Ext H G H' G2 := r2.x
      have ha' := x2.h _ _ ha0
      have sc := s0.ext x2 ⟨_, ha0⟩
      refine ⟨H1, G, G2, dx, [], [], e', r2.reset rfl, sc, h1, hne, ha', .nil, cl.nd, hlen, ?_⟩
      replace p : PostG T K (RV T K) (fun c d _ H => E c d H) [] H1 G ((evL Φ sub as e').bd fun l => .ok (.ins c l)) (fun v H2 => v = .ref a → Q .non H2) := p
      cases q2 : evL Φ sub as e' with
      | bad => rw [q2] at p; exact p
      | err c' ld =>
        rw [q2] at p
        exact fun od H'' G'' sc2 ea => p od H'' G'' sc2.toExt (exc_T (T := inT T a) (T' := T) rfl rfl ea)
      | ok rest =>
        rw [q2] at p
        intro H'' G'' fs sc2 ha2 en rl
        have sg : Same G'' (upd G'' a (.ins (T.ca c) dx fs)) := same_new sc2.ga
        refine p (.ref a) H'' (upd G'' a (.ins (T.ca c) dx fs)) ⟨sc2.h, sc2.g.trans sg, fun b' u z => ?_, fun b' z1 z2 => ?_⟩ ?_ rfl
        · by_cases hb : b' = a
          · rw [hb, upd_same] at z; rw [hb, ha2]; exact z
          · rw [upd_ne hb] at z; exact sc2.s _ _ z
        · have hb : b' ≠ a := fun e => z1 (by rw [e]; exact h1)
          rw [upd_ne hb]; exact sc2.n b' z1 z2
        · show Rep T K _ (.ins c rest) (.ref a)
          simp only [Rep]
          exact ⟨a, dx, fs, rfl, upd_same, by simpa using en, repL_T (T := inT T a) (T' := T) (K := K) rfl rfl rest _ (rl.mono sg)⟩
    | rt d => rw [q] at p; exact p.elim
    | bk e' => rw [q] at p; exact p.elim
    | ct e' => rw [q] at p; exact p.elim
    | bad => rw [q] at p; exact p.elim
    | ex e' c' l =>
      rw [q] at p
      exact fun od σ' H' G' r' gs ea => p od H' G' (s0.ext r'.x ⟨_, ha0⟩).toExt (exc_T (T := inT T a) (T' := T) rfl rfl ea)
theorem sub_kit {C D : Addr} {b : Bool} (h : PySem.W.subIn K (.ref C) (.ref D) = some b) (hs : PySem.W.subIn K (.ref C) (.ref C) = some true) (hD : (PySem.W.clsIn K D).isSome = true) (tD : PySem.W.typeIn K (.ref D) = some (.type "type")) (eD : PySem.W.subIn K (.ref D) (.type "BaseException") = some true) :
    PySem.W.kitOne K (.ref C) (.ref D) = some b ∧ PySem.W.exmOne K (.ref C) (.ref D) = some b := by
  have kc : PySem.W.kitCls K (.ref C) (.ref D) = some b := by
    show (if ((PySem.W.clsIn K D).isSome && PySem.W.typeIn K (.ref D) == some (.type "type")) = true then PySem.W.subIn K (.ref C) (.ref D) else none) = some b
    rw [hD, tD]
    exact h
  refine ⟨?_, by unfold PySem.W.exmOne; rw [eD]; exact kc⟩
  unfold PySem.W.kitOne
  split
  · rename_i q
    have e : C = D := Value.ref.inj (beq_iff_eq.mp q)
    subst e
    rw [hs] at h
    exact h
  · exact kc
end
theorem look_in {α β : Type} [BEq α] [LawfulBEq α] : ∀ {l : List (α × β)} {a : α} {b : β}, l.lookup a = some b → (a, b) ∈ l
  | [], _, _, h => by cases h
  | (x, y) :: r, a, b, h => by
    rw [List.lookup_cons] at h
    cases q : a == x with
    | true =>
      rw [q] at h
      cases h
      have := eq_of_beq q
      subst this
      exact List.mem_cons_self
    | false =>
      rw [q] at h
      exact List.mem_cons_of_mem _ (look_in h)
/-! ### the law's own word -/
def spLaw (K : PySem.W.Frag) : Sp := fun vs H Q _ => ∃ (a : Addr) (ns : List Int), vs = [.ref a] ∧ SqL K H a (ns.map V.int) ∧ ns.length ≤ 63 ∧ ∀ H', Q (.bl true) H'
theorem law_ok {P : Program} {w : World} {K : PySem.W.Frag} {mg : Str → Option Value} {base : Heap} {T : Tb} {CX : CXT} {k : Nat} {f : Addr} {fd : FuncData} {ps : List Str} {F : List D → Res D} (Fn : FnOk P w K mg base CX k f fd ps (spOf T K F 1)) (hl : ps.length = 1) (h : ∀ ns : List Int, ns.length ≤ 63 → F [.scr ns] = .ok (.bl true)) : FnOk P w K mg base CX k f fd ps (spLaw K) where
  len := fun vs H Q E ⟨a, ns, e, _⟩ => by subst e; exact hl.symm
  run := fun A outer s H args us vs Q E hr e0 hb r ⟨a, ns, e, hS, hn, q⟩ => by
    subst e
    refine Fn.run A outer s H args us _ Q E hr e0 hb r ⟨rfl, H, [.scr ns], Same.refl _, .cons (by simp only [Rep]; exact ⟨a, rfl, hS⟩) .nil, ?_⟩
    rw [h ns hn]
    intro v H' G' x rv
    rw [Rep.bl rv]
    exact q H'
end E

set_option autoImplicit false
set_option linter.all false
set_option Elab.async false
set_option maxRecDepth 100000
/-! E23: the evaluator's equations, for simp. -/
namespace E
@[simp] theorem look0 (d : D) (e : Env) : look 0 (some d :: e) = .ok d := id rfl
@[simp] theorem lookS (i : Nat) (x : Option D) (e : Env) : look (i + 1) (x :: e) = look i e := id rfl
def bindO (o : Out) (g : Env → Out) : Out := match o with
  | .nx e' => g e'
  | o => o
@[simp] theorem bindO_nx (e : Env) (g : Env → Out) : bindO (.nx e) g = g e := id rfl
@[simp] theorem bindO_rt (d : D) (g : Env → Out) : bindO (.rt d) g = .rt d := id rfl
@[simp] theorem bindO_bk (e : Env) (g : Env → Out) : bindO (.bk e) g = .bk e := id rfl
@[simp] theorem bindO_ct (e : Env) (g : Env → Out) : bindO (.ct e) g = .ct e := id rfl
@[simp] theorem bindO_ex (e : Env) (c : Nat) (l : List D) (g : Env → Out) : bindO (.ex e c l) g = .ex e c l := id rfl
@[simp] theorem bindO_bad (g : Env → Out) : bindO .bad g = .bad := id rfl
@[simp] theorem fin_nx (e : Env) : fin (.nx e) = .ok .non := id rfl
@[simp] theorem fin_rt (d : D) : fin (.rt d) = .ok d := id rfl
@[simp] theorem fin_ex (e : Env) (c : Nat) (l : List D) : fin (.ex e c l) = .err c l := id rfl
section
variable (Φ : Nat → List D → Res D) (sub : Nat → Nat → Option Bool) (n : Nat) (e : Env)
@[simp] theorem ev_var (i : Nat) : ev Φ sub (.var i) e = look i e := by rw [ev]
@[simp] theorem ev_non : ev Φ sub .non e = .ok .non := by rw [ev]
@[simp] theorem ev_bl (b : Bool) : ev Φ sub (.bl b) e = .ok (.bl b) := by rw [ev]
@[simp] theorem ev_int (i : Int) : ev Φ sub (.int i) e = .ok (.int i) := by rw [ev]
@[simp] theorem ev_str (s : List Nat) : ev Φ sub (.str s) e = .ok (.str s) := by rw [ev]
@[simp] theorem ev_glb (x : List Nat) (d : D) : ev Φ sub (.glb x d) e = .ok d := by rw [ev]
@[simp] theorem ev_op (o : Op2) (a b : C) : ev Φ sub (.op o a b) e = (ev Φ sub a e).bd fun x => (ev Φ sub b e).bd fun y => op2 o x y := by rw [ev]
@[simp] theorem ev_chn (o1 o2 : Op2) (a b c : C) : ev Φ sub (.chn o1 o2 a b c) e = chnF o1 o2 (ev Φ sub a) (ev Φ sub b) (ev Φ sub c) e := by rw [ev]; rfl
def negD : D → Res D
  | .int i => .ok (.int (-i))
  | _ => .bad
@[simp] theorem negD_int (i : Int) : negD (.int i) = .ok (.int (-i)) := id rfl
@[simp] theorem ev_neg (a : C) : ev Φ sub (.neg a) e = (ev Φ sub a e).bd negD := by rw [ev]; rfl
@[simp] theorem ev_one (a : C) : ev Φ sub (.one a) e = ev Φ sub a e := by rw [ev]
@[simp] theorem ev_and (a b : C) : ev Φ sub (.and a b) e = (ev Φ sub a e).bd fun x => (truth x).bd fun k => if k = true then ev Φ sub b e else .ok x := by rw [ev]
@[simp] theorem ev_or (a b : C) : ev Φ sub (.or a b) e = (ev Φ sub a e).bd fun x => (truth x).bd fun k => if k = true then .ok x else ev Φ sub b e := by rw [ev]
@[simp] theorem ev_not (a : C) : ev Φ sub (.not a) e = (ev Φ sub a e).bd fun x => (truth x).bd fun k => .ok (.bl (!k)) := by rw [ev]
@[simp] theorem ev_ite (c a b : C) : ev Φ sub (.ite c a b) e = (ev Φ sub c e).bd fun x => (truth x).bd fun k => if k = true then ev Φ sub a e else ev Φ sub b e := by rw [ev]
@[simp] theorem ev_is (d : D) (neg : Bool) (a : C) : ev Φ sub (.is_ d neg a) e = (ev Φ sub a e).bd (dIs d neg) := by rw [ev]
@[simp] theorem ev_isi (a : C) (k : Kd) : ev Φ sub (.isi a k) e = (ev Φ sub a e).bd fun x => if kdOk x = true then .ok (.bl (isKd x k)) else .bad := by rw [ev]
@[simp] theorem ev_isi2 (a : C) (k k2 : Kd) : ev Φ sub (.isi2 a k k2) e = (ev Φ sub a e).bd fun x => if kdOk x = true then .ok (.bl (isKd x k || isKd x k2)) else .bad := by rw [ev]
@[simp] theorem ev_call (k : Nat) (x : List Nat) (as : C) : ev Φ sub (.call k x as) e = (evL Φ sub as e).bd (Φ k) := by rw [ev]
@[simp] theorem ev_bi (f : BI) (as : C) : ev Φ sub (.bi f as) e = (evL Φ sub as e).bd (biF f) := by rw [ev]
@[simp] theorem ev_mt (m : MT) (a as : C) : ev Φ sub (.mt m a as) e = (ev Φ sub a e).bd fun x => if isStr x = true then (evL Φ sub as e).bd (meth m x) else .bad := by rw [ev]
@[simp] theorem ev_idx (a b : C) : ev Φ sub (.idx a b) e = (ev Φ sub a e).bd fun x => (ev Φ sub b e).bd fun y => dIdx x y := by rw [ev]
@[simp] theorem ev_slc (a lo hi : C) : ev Φ sub (.slc a lo hi) e = (ev Φ sub a e).bd fun x => ((ev Φ sub lo e).bd prt).bd fun l => ((ev Φ sub hi e).bd prt).bd fun h => dSlc x l h := by rw [ev]
@[simp] theorem ev_rev (a : C) : ev Φ sub (.rev a) e = (ev Φ sub a e).bd dRev := by rw [ev]
@[simp] theorem ev_tup (as : C) : ev Φ sub (.tup as) e = (evL Φ sub as e).bd fun xs => if xs.length ≤ LIM then .ok (.tup xs) else .bad := by rw [ev]
@[simp] theorem ev_lst (as : C) : ev Φ sub (.lst as) e = (evL Φ sub as e).bd fun xs => if xs.length ≤ LIM then .ok (.lst xs) else .bad := by rw [ev]
@[simp] theorem ev_fld (c j : Nat) (a : C) : ev Φ sub (.fld c j a) e = (ev Φ sub a e).bd (dFld c j) := by rw [ev]
@[simp] theorem ev_efld (i c j : Nat) : ev Φ sub (.efld i c j) e = efldF i c j e := by rw [ev]; rfl
@[simp] theorem ev_eisi (i k : Nat) : ev Φ sub (.eisi i k) e = eisiF sub i k e := by rw [ev]; rfl
@[simp] theorem ev_gdx (x : List Nat) (ks vs : List (List Nat)) (a : C) : ev Φ sub (.gdx x ks vs a) e = (ev Φ sub a e).bd (dGdx ks vs) := by rw [ev]
@[simp] theorem ev_gdi (neg : Bool) (x : List Nat) (ks vs : List (List Nat)) (a : C) : ev Φ sub (.gdi neg x ks vs a) e = (ev Φ sub a e).bd (dGdi neg ks vs) := by rw [ev]
@[simp] theorem ev_isc (k : Nat) (x : List Nat) (a : C) : ev Φ sub (.isc k x a) e = (ev Φ sub a e).bd (dIsc k) := by rw [ev]
@[simp] theorem ev_fst (as : C) : ev Φ sub (.fst as) e = (evF Φ sub as [] e).bd fun s => .ok (.str s) := by rw [ev]
@[simp] theorem evF_nil (acc : List Nat) : evF Φ sub .nil acc e = .ok acc := by rw [evF]
@[simp] theorem evF_cons (a r : C) (acc : List Nat) : evF Φ sub (.cons a r) acc e = (ev Φ sub a e).bd fun x => (fmt1 x).bd fun s => if (acc ++ s).length ≤ LIM then evF Φ sub r (acc ++ s) e else .bad := by rw [evF]
@[simp] theorem ev_nil : ev Φ sub .nil e = .ok .non := by rw [ev]
@[simp] theorem evL_nil : evL Φ sub .nil e = .ok [] := by rw [evL]
@[simp] theorem evL_cons (a r : C) : evL Φ sub (.cons a r) e = (ev Φ sub a e).bd fun x => (evL Φ sub r e).bd fun xs => .ok (x :: xs) := by rw [evL]
@[simp] theorem evS_skip : evS Φ sub n .skip e = .nx e := by rw [evS]
@[simp] theorem evS_seq (a b : E.S) : evS Φ sub n (.seq a b) e = bindO (evS Φ sub n a e) (evS Φ sub n b) := by
  rw [evS]; unfold bindO; cases evS Φ sub n a e <;> rfl
@[simp] theorem evS_asg (t : List Nat) (one : Bool) (c : C) : evS Φ sub n (.asg t one c) e = (ev Φ sub c e).out e fun d => omO (asg t one d e) .nx := by rw [evS]
@[simp] theorem evS_own (i : Nat) (c : C) : evS Φ sub n (.own i c) e = ((ev Φ sub c e).bd onlyL).out e fun d => .nx (e.set i (some d)) := by rw [evS]
@[simp] theorem evS_mu (m : Mu) (i : Nat) (as : C) : evS Φ sub n (.mu m i as) e = muF m i (evL Φ sub as) e := by rw [evS]; rfl
@[simp] theorem evS_if (c : C) (a b : E.S) : evS Φ sub n (.if_ c a b) e = ((ev Φ sub c e).bd truth).out e fun k => if k = true then evS Φ sub n a e else evS Φ sub n b e := by rw [evS]
theorem evS_while (L : List Nat) (c : C) (b : E.S) : evS Φ sub n (.while_ L c b) e = whL (fun e => (ev Φ sub c e).bd truth) (evS Φ sub n b) n e := by rw [evS]
theorem evS_for (L t : List Nat) (one : Bool) (it : C) (b : E.S) : evS Φ sub n (.for_ L t one it b) e = (ev Φ sub it e).out e fun x => omO (items x) fun l => forL (fun d e => omO (asg t one d e) (evS Φ sub n b)) l e := by rw [evS]
@[simp] theorem evS_ret (c : C) : evS Φ sub n (.ret c) e = (ev Φ sub c e).out e .rt := by rw [evS]
@[simp] theorem evS_retN : evS Φ sub n .retN e = .rt .non := by rw [evS]
@[simp] theorem evS_expr (c : C) : evS Φ sub n (.expr c) e = (ev Φ sub c e).out e fun _ => .nx e := by rw [evS]
@[simp] theorem evS_raise (c : Nat) (x : List Nat) (as : C) : evS Φ sub n (.raise c x as) e = (evL Φ sub as e).out e fun xs => .ex e c xs := by rw [evS]
@[simp] theorem evS_brk : evS Φ sub n .brk e = .bk e := by rw [evS]
@[simp] theorem evS_cont : evS Φ sub n .cont e = .ct e := by rw [evS]
@[simp] theorem evS_dnew (i : Nat) : evS Φ sub n (.dnew i) e = .nx (e.set i (some (.dic [] []))) := by rw [evS]
@[simp] theorem evS_dnew1 (i : Nat) (k v : C) : evS Φ sub n (.dnew1 i k v) e = (ev Φ sub k e).out e fun x => (ev Φ sub v e).out e fun y => if isKey x = true then .nx (e.set i (some (.dic [x] [y]))) else .bad := by rw [evS]
theorem evS_fpop (L t : List Nat) (one : Bool) (a : C) (i : Nat) (b : E.S) : evS Φ sub n (.fpop L t one a i b) e = (ev Φ sub a e).out e fun x => (look i e).out e fun z => match z with
    | .lst l => omO l.getLast? fun j => (dIdx x j).out e fun y => omO (items y) fun ys => forL (fun d e => omO (asg t one d e) (evS Φ sub n b)) ys (e.set i (some (.lst l.dropLast)))
    | _ => .bad := by rw [evS] <;> rfl
@[simp] theorem evS_frz (i : Nat) (a : E.S) : evS Φ sub n (.frz i a) e = evS Φ sub n a e := by rw [evS]
@[simp] theorem evS_try (b h : E.S) : evS Φ sub n (.try_ b h) e = tryF (evS Φ sub n b) (fun c l e => evH Φ sub n c l h e) e := by
  rw [evS]; unfold tryF; cases evS Φ sub n b e <;> rfl
@[simp] theorem evH_hnd (c : Nat) (l : List D) (k : Nat) (nm x : List Nat) (i : Nat) (b r : E.S) : evH Φ sub n c l (.hnd k nm i x b r) e = hdStep sub i k (evS Φ sub n b) (fun c l e => evH Φ sub n c l r e) c l e := by
  rw [evH]; rfl
@[simp] theorem evH_skip (c : Nat) (l : List D) : evH Φ sub n c l .skip e = .ex e c l := by
  rw [evH]; exact fun _ _ _ _ _ _ z => nomatch z
end
/-! operations -/
@[simp] theorem op2_add (x y : D) : op2 .add x y = dAdd x y := id rfl
@[simp] theorem op2_mul (x y : D) : op2 .mul x y = dMul x y := id rfl
@[simp] theorem op2_sub (a b : Int) : op2 .sub (.int a) (.int b) = .ok (.int (a - b)) := id rfl
@[simp] theorem op2_fdiv (a b : Int) : op2 .fdiv (.int a) (.int b) = if 0 < b ∧ b.natAbs < BIG then .ok (.int (a / b)) else .bad := id rfl
@[simp] theorem op2_mod (a b : Int) : op2 .mod (.int a) (.int b) = if 0 < b then .ok (.int (a % b)) else .bad := id rfl
@[simp] theorem op2_pow (a b : Int) : op2 .pow (.int a) (.int b) = if 0 ≤ b ∧ b ≤ 1000000 ∧ a.natAbs < 18446744073709551616 then .ok (.int (a ^ b.toNat)) else .bad := id rfl
@[simp] theorem op2_eqs (a b : List Nat) : op2 .eq (.str a) (.str b) = .ok (.bl (a == b)) := id rfl
@[simp] theorem op2_nes (a b : List Nat) : op2 .ne (.str a) (.str b) = .ok (.bl (!(a == b))) := id rfl
@[simp] theorem op2_eqi (a b : Int) : op2 .eq (.int a) (.int b) = .ok (.bl (a == b)) := by simp [op2, plain, eqv]
@[simp] theorem op2_nei (a b : Int) : op2 .ne (.int a) (.int b) = .ok (.bl (!(a == b))) := by simp [op2, plain, eqv]
@[simp] theorem op2_eqb (a b : Bool) : op2 .eq (.bl a) (.bl b) = .ok (.bl (a == b)) := by simp [op2, plain, eqv]
@[simp] theorem op2_neb (a b : Bool) : op2 .ne (.bl a) (.bl b) = .ok (.bl (!(a == b))) := by simp [op2, plain, eqv]
@[simp] theorem op2_lt (a b : Int) : op2 .lt (.int a) (.int b) = .ok (.bl (decide (a < b))) := id rfl
@[simp] theorem op2_le (a b : Int) : op2 .le (.int a) (.int b) = .ok (.bl (decide (a ≤ b))) := id rfl
@[simp] theorem op2_gt (a b : Int) : op2 .gt (.int a) (.int b) = .ok (.bl (decide (b < a))) := id rfl
@[simp] theorem op2_ge (a b : Int) : op2 .ge (.int a) (.int b) = .ok (.bl (decide (b ≤ a))) := id rfl
@[simp] theorem op2_in (x y : D) : op2 .in_ x y = (inD x y).bd fun b => .ok (.bl b) := id rfl
@[simp] theorem op2_nin (x y : D) : op2 .notIn x y = (inD x y).bd fun b => .ok (.bl (!b)) := id rfl
@[simp] theorem dAdd_i (a b : Int) : dAdd (.int a) (.int b) = .ok (.int (a + b)) := id rfl
theorem dAdd_s {a b : List Nat} (h : a.length + b.length ≤ LIM) : dAdd (.str a) (.str b) = .ok (.str (a ++ b)) := if_pos h
theorem dAdd_l {a b : List D} (h : a.length + b.length ≤ LIM) : dAdd (.lst a) (.lst b) = .ok (.lst (a ++ b)) := if_pos h
theorem dMul_i {a b : Int} (h : a.natAbs < BIG) (h2 : b.natAbs < BIG) : dMul (.int a) (.int b) = .ok (.int (a * b)) := if_pos ⟨h, h2⟩
theorem dMul_s {a : List Nat} {n : Int} (h : n < 4611686018427387904 ∧ -4611686018427387904 < n ∧ a.length * n.toNat ≤ LIM) : dMul (.str a) (.int n) = .ok (.str (List.replicate n.toNat a).flatten) := if_pos h
@[simp] theorem truth_non : truth .non = .ok false := id rfl
@[simp] theorem truth_bl (b : Bool) : truth (.bl b) = .ok b := id rfl
@[simp] theorem truth_int (i : Int) : truth (.int i) = .ok (i != 0) := id rfl
@[simp] theorem truth_lst (l : List D) : truth (.lst l) = .ok (l.length != 0) := id rfl
@[simp] theorem truth_tup (l : List D) : truth (.tup l) = .ok (l.length != 0) := id rfl
@[simp] theorem len_l (l : List D) : biF .len [.lst l] = .ok (.int l.length) := id rfl
@[simp] theorem len_t (l : List D) : biF .len [.tup l] = .ok (.int l.length) := id rfl
@[simp] theorem len_c (l : List Int) : biF .len [.scr l] = .ok (.int l.length) := id rfl
theorem len_s {s : List Nat} (h : s.length ≤ LIM) : biF .len [.str s] = .ok (.int s.length) := if_pos h
@[simp] theorem int_i (i : Int) : biF .int [.int i] = .ok (.int i) := id rfl
@[simp] theorem int_b (b : Bool) : biF .int [.bl b] = .ok (.int (if b then 1 else 0)) := id rfl
@[simp] theorem min_i (i j : Int) : biF .min2 [.int i, .int j] = .ok (.int (if j < i then j else i)) := id rfl
@[simp] theorem max_i (i j : Int) : biF .max2 [.int i, .int j] = .ok (.int (if j > i then j else i)) := id rfl
theorem rng1_ok {j : Int} (h : -4611686018427387904 ≤ j ∧ j < 4611686018427387904) : biF .rng1 [.int j] = .ok (.lst (rangeD 0 j)) := if_pos h
@[simp] theorem asg1 (i : Nat) (d : D) (e : Env) : asg [i] true d e = some (e.set i (some d)) := id rfl
@[simp] theorem asgT (t : List Nat) (l : List D) (e : Env) : asg t false (.tup l) e = setAll t l e := id rfl
@[simp] theorem asgTL (t : List Nat) (l : List D) (e : Env) : asg t false (.lst l) e = setAll t l e := id rfl
@[simp] theorem setAll0 (e : Env) : setAll [] [] e = some e := id rfl
@[simp] theorem setAllS (i : Nat) (is : List Nat) (d : D) (ds : List D) (e : Env) : setAll (i :: is) (d :: ds) e = setAll is ds (e.set i (some d)) := id rfl
@[simp] theorem items_l (l : List D) : items (.lst l) = some l := id rfl
@[simp] theorem items_t (l : List D) : items (.tup l) = some l := id rfl
@[simp] theorem items_s (s : List Nat) : items (.str s) = some (s.map fun c => .str [c]) := id rfl
@[simp] theorem items_c (l : List Int) : items (.scr l) = some (l.map D.int) := id rfl
@[simp] theorem onlyL_l (l : List D) : onlyL (.lst l) = .ok (.lst l) := id rfl
theorem mu_app {i : Nat} {fs : Env → Res (List D)} {e : Env} {l : List D} {d : D} (h : look i e = .ok (.lst l)) (hf : fs e = .ok [d]) (hl : l.length < LIM) : muF .append i fs e = .nx (e.set i (some (.lst (l ++ [d])))) := by
  unfold muF
  simp [h, hf, muD, hl]
theorem forL_nx {f : D → Env → Out} {x : D} {r : List D} {e e' : Env} (h : f x e = .nx e') : forL f (x :: r) e = forL f r e' := by rw [forL, h]
theorem forL_rt {f : D → Env → Out} {x : D} {r : List D} {e : Env} {d : D} (h : f x e = .rt d) : forL f (x :: r) e = .rt d := by rw [forL, h]
theorem forL_ex {f : D → Env → Out} {x : D} {r : List D} {e e' : Env} {c : Nat} {l : List D} (h : f x e = .ex e' c l) : forL f (x :: r) e = .ex e' c l := by rw [forL, h]
@[simp] theorem forL_nil (f : D → Env → Out) (e : Env) : forL f [] e = .nx e := by rw [forL]
@[simp] theorem out_out {α β : Type} (r : Res α) (f : α → Res β) (e : Env) (g : β → Out) : (r.bd f).out e g = r.out e fun a => (f a).out e g := by cases r <;> rfl
@[simp] theorem bd_bd' {α β γ : Type} (r : Res α) (f : α → Res β) (g : β → Res γ) : (r.bd f).bd g = r.bd fun a => (f a).bd g := bd_bd r f g
end E

set_option autoImplicit false
set_option linter.all false
set_option Elab.async false
set_option maxRecDepth 100000
/-! E24: plain lemmas for the laws. -/
namespace E
theorem lim_le {n : Nat} (h : n ≤ 1000000) : n ≤ LIM := Nat.le_trans h (by decide)
theorem lim_lt {n : Nat} (h : n ≤ 1000000) : n < LIM := Nat.lt_of_le_of_lt h (by decide)
theorem lt_big {a : Int} (h1 : -(2 ^ 210) < a) (h2 : a < 2 ^ 210) : a.natAbs < BIG := by
  have h3 : a.natAbs < 2 ^ 210 := by omega
  exact Nat.lt_of_lt_of_le h3 (Nat.pow_le_pow_right (by decide) (by decide))
theorem nat_big {a : Nat} (h : a < 2 ^ 210) : a < BIG := Nat.lt_of_lt_of_le h (Nat.pow_le_pow_right (by decide) (by decide))
theorem emod_b (a : Int) {b : Int} (h : 0 < b) : 0 ≤ a % b ∧ a % b < b := ⟨Int.emod_nonneg a (by omega), Int.emod_lt_of_pos a h⟩
theorem beq_iff {P Q : Bool} (h : P = true ↔ Q = true) : P = Q := by cases P <;> cases Q <;> simp_all
theorem nat_beq (n m : Nat) : ((n : Int) == (m : Int)) = (n == m) := beq_iff (by rw [beq_iff_eq, beq_iff_eq]; omega)
theorem beq_tt (a : Bool) : (a == a) = true := by cases a <;> rfl
theorem range_eq (n : Nat) : rangeD 0 (n : Int) = (List.range' 0 n).map fun (k : Nat) => D.int (k : Int) := by
  unfold rangeD
  rw [show ((n : Int) - 0).toNat = n by omega, List.range_eq_range']
  simp
theorem range_eq2 (a b : Nat) : rangeD (a : Int) (b : Int) = (List.range' a (b - a)).map fun (k : Nat) => D.int (k : Int) := by
  unfold rangeD
  rw [show ((b : Int) - a).toNat = b - a by omega, List.range_eq_range', List.range'_eq_map_range (s := a)]
  simp [List.range_eq_range']
theorem rng_n (n : Nat) (h : n < 4611686018427387904) : biF .rng1 [.int (n : Int)] = .ok (.lst ((List.range' 0 n).map fun (k : Nat) => D.int (k : Int))) := by
  rw [rng1_ok (by omega), range_eq]
/-! texts -/
theorem addS {a b : List Nat} (h : a.length + b.length ≤ 1000000) : dAdd (.str a) (.str b) = .ok (.str (a ++ b)) := dAdd_s (lim_le h)
theorem addL {a b : List D} (h : a.length + b.length ≤ 1000000) : dAdd (.lst a) (.lst b) = .ok (.lst (a ++ b)) := dAdd_l (lim_le h)
theorem mulI {a b : Int} (h1 : -(2 ^ 210) < a) (h2 : a < 2 ^ 210) (h3 : -(2 ^ 210) < b) (h4 : b < 2 ^ 210) : dMul (.int a) (.int b) = .ok (.int (a * b)) := dMul_i (lt_big h1 h2) (lt_big h3 h4)
theorem mulN {a b : Nat} (h1 : a < 2 ^ 210) (h2 : b < 2 ^ 210) : dMul (.int (a : Int)) (.int (b : Int)) = .ok (.int ((a * b : Nat) : Int)) := by
  rw [dMul_i (lt_big (by omega) (by omega)) (lt_big (by omega) (by omega)), Int.natCast_mul]
theorem mulT (t : List Nat) (n : Nat) (h : t.length * n ≤ 1000000) (hn : n ≤ 1000000) : dMul (.str t) (.int (n : Int)) = .ok (.str (List.replicate n t).flatten) := by
  rw [dMul_s ⟨by omega, by omega, lim_le (by simpa using h)⟩, Int.toNat_natCast]
theorem rep1 (n c : Nat) : (List.replicate n [c]).flatten = List.replicate n c := by
  induction n with
  | zero => rfl
  | succ n ih => simp [List.replicate_succ, ih]
theorem mulS (c : Nat) (n : Nat) (h : n ≤ 1000000) : dMul (.str [c]) (.int (n : Int)) = .ok (.str (List.replicate n c)) := by
  rw [mulT _ _ (by simpa using h) h, rep1]
theorem len_s' {s : List Nat} (h : s.length ≤ 1000000) : biF .len [.str s] = .ok (.int (s.length : Nat)) := len_s (lim_le h)
theorem inS (c : Nat) (s : List Nat) : inD (.str [c]) (.str s) = .ok (s.contains c) := id rfl
theorem lt_of_get {α : Type} {l : List α} {i : Nat} {a : α} (h : l[i]? = some a) : i < l.length := by
  rcases Nat.lt_or_ge i l.length with q | q
  · exact q
  · rw [List.getElem?_eq_none q] at h; cases h
theorem at_n {α : Type} {l : List α} {i : Nat} {a : α} (h : l[i]? = some a) : at_ l (i : Int) = some a := by
  have := lt_of_get h
  unfold at_ ixOf
  rw [if_pos (by omega), if_pos (by omega)]
  simpa using h
theorem idx_s (t : List Nat) (hl : t.length ≤ LIM) (i : Nat) (c : Nat) (h : t[i]? = some c) : dIdx (.str t) (.int (i : Int)) = .ok (.str [c]) := by
  show (if t.length ≤ LIM then om (at_ t (i : Int)) fun c => Res.ok (D.str [c]) else .bad) = _
  rw [if_pos hl, at_n h]; rfl
theorem idx_l (l : List D) (i : Nat) (d : D) (h : l[i]? = some d) : dIdx (.lst l) (.int (i : Int)) = .ok d := by
  show om (at_ l (i : Int)) .ok = _
  rw [at_n h]; rfl
theorem idx_t (l : List D) (i : Nat) (d : D) (h : l[i]? = some d) : dIdx (.tup l) (.int (i : Int)) = .ok d := by
  show om (at_ l (i : Int)) .ok = _
  rw [at_n h]; rfl
theorem get_l (ds : List Int) (i : Nat) (d : Int) (h : ds[i]? = some d) : dIdx (.lst (ds.map D.int)) (.int (i : Int)) = .ok (.int d) := idx_l _ _ _ (by simp [h])
theorem slc_any {t : List Nat} (hl : t.length ≤ LIM) (lo hi : D) (h1 : isPart lo = true) (h2 : isPart hi = true) : dSlc (.str t) lo hi = .ok (.str (cut t lo hi)) := by
  show (if (isPart lo && isPart hi && decide (t.length ≤ LIM)) = true then (Res.ok (D.str (cut t lo hi))) else .bad) = _
  rw [if_pos (by simp [h1, h2, hl])]
theorem cut_mem {α : Type} {t : List α} {lo hi : D} {c : α} (h : c ∈ cut t lo hi) : c ∈ t := List.mem_of_mem_drop (List.mem_of_mem_take h)
theorem cut_len {α : Type} (t : List α) (lo hi : D) : (cut t lo hi).length ≤ t.length := by
  unfold cut
  simp
  omega
theorem cut_pre {α : Type} (t : List α) (k : Nat) : cut t .non (.int (k : Int)) = t.take k := by
  simp only [cut, sx]
  rw [if_neg (by omega), Int.toNat_natCast]
  simp
theorem slc_pre {t : List Nat} (hl : t.length ≤ LIM) (k : Nat) : dSlc (.str t) .non (.int (k : Int)) = .ok (.str (t.take k)) := by
  rw [slc_any hl _ _ rfl rfl, cut_pre]
theorem strs_map {α : Type} (h : α → List Nat) : ∀ xs : List α, strsD (xs.map fun x => D.str (h x)) = some (xs.map h)
  | [] => rfl
  | x :: xs => by simp [strsD, strs_map h xs]
theorem ints_map {α : Type} (h : α → Int) : ∀ xs : List α, intsD (xs.map fun x => D.int (h x)) = some (xs.map h)
  | [] => rfl
  | x :: xs => by simp [intsD, ints_map h xs]
theorem sum_ok {α : Type} (h : α → Int) (xs : List α) : biF .sum [.lst (xs.map fun x => D.int (h x))] = .ok (.int (xs.map h).sum) := by
  show (om (intsD _) fun is => Res.ok (D.int is.sum)) = _
  rw [ints_map, om_some]
theorem join_nil : ∀ ts : List (List Nat), joinT [] ts = ts.flatten
  | [] => rfl
  | [x] => by simp [joinT]
  | x :: y :: r => by
    have := join_nil (y :: r)
    rw [joinT, this]
    · simp
    · simp
theorem join_ok {ts : List (List Nat)} {l : List D} (h : strsD l = some ts) (hl : ts.flatten.length ≤ LIM) : meth .join (.str []) [.lst l] = .ok (.str ts.flatten) := by
  show (om (strsD l) fun ts => if (ts.map (·.length)).sum + ts.length * ([] : List Nat).length ≤ LIM then Res.ok (D.str (joinT [] ts)) else .bad) = _
  rw [h, om_some, if_pos (by rw [List.length_flatten] at hl; simpa using hl), join_nil]
theorem isStr_s (s : List Nat) : isStr (.str s) = true := id rfl
/-! comprehensions and loops -/
theorem ev_lc (Φ : Nat → List D → Res D) (sb : Nat → Nat → Option Bool) (t : List Nat) (one : Bool) (it cnd elt : C) (e : Env) : ev Φ sb (.lc t one it cnd elt) e = (ev Φ sb it e).bd fun x => om (items x) fun l => if l.length < LIM then (lcL (fun d => om (asg t one d e) fun e' => (ev Φ sb cnd e').bd fun c => (truth c).bd fun k => if k = true then (ev Φ sb elt e').bd fun y => .ok (some y) else .ok none) l).bd fun ys => .ok (.lst ys) else .bad := by rw [ev]
theorem lc_filter {α : Type} (f : D → Res (Option D)) (g : α → D) (p : α → Bool) : ∀ (xs : List α), (∀ x ∈ xs, f (g x) = .ok (if p x = true then some (g x) else none)) → lcL f (xs.map g) = .ok ((xs.filter p).map g)
  | [], _ => rfl
  | x :: xs, h => by
    rw [List.map_cons, lcL, h x List.mem_cons_self, lc_filter f g p xs (fun y hy => h y (List.mem_cons_of_mem _ hy))]
    by_cases hp : p x = true
    · rw [if_pos hp, List.filter_cons_of_pos hp]; rfl
    · rw [if_neg hp, List.filter_cons_of_neg hp]; rfl
theorem lc_map {α : Type} (f : D → Res (Option D)) (g h : α → D) : ∀ (xs : List α), (∀ x ∈ xs, f (g x) = .ok (some (h x))) → lcL f (xs.map g) = .ok (xs.map h)
  | [], _ => rfl
  | x :: xs, q => by
    rw [List.map_cons, lcL, q x List.mem_cons_self, lc_map f g h xs (fun y hy => q y (List.mem_cons_of_mem _ hy))]
    rfl
theorem lc_mapf {α : Type} (f : D → Res (Option D)) (g h : α → D) (p : α → Bool) : ∀ (xs : List α), (∀ x ∈ xs, f (g x) = .ok (if p x = true then some (h x) else none)) → lcL f (xs.map g) = .ok ((xs.filter p).map h)
  | [], _ => rfl
  | x :: xs, q => by
    rw [List.map_cons, lcL, q x List.mem_cons_self, lc_mapf f g h p xs (fun y hy => q y (List.mem_cons_of_mem _ hy))]
    by_cases hp : p x = true
    · rw [if_pos hp, List.filter_cons_of_pos hp]; rfl
    · rw [if_neg hp, List.filter_cons_of_neg hp]; rfl
/-- a comprehension over xs.map g without a condition -/
theorem lcm_ok {α : Type} (Φ : Nat → List D → Res D) (sb : Nat → Nat → Option Bool) (t : List Nat) (one : Bool) (it elt : C) (e : Env) (x : D) (xs : List α) (g h : α → D) (hi : ev Φ sb it e = .ok x) (hx : items x = some (xs.map g)) (hl : xs.length ≤ 1000000)
    (hs : ∀ a ∈ xs, ∃ e', asg t one (g a) e = some e' ∧ ev Φ sb elt e' = .ok (h a)) : ev Φ sb (.lc t one it (.bl true) elt) e = .ok (.lst (xs.map h)) := by
  rw [ev_lc, hi, bd_ok, hx, om_some, if_pos (by simpa using lim_lt hl), lc_map _ g h]
  · rfl
  · intro a ha
    obtain ⟨e', h1, h2⟩ := hs a ha
    simp [h1, h2]
/-- with a condition -/
theorem lcf_ok {α : Type} (Φ : Nat → List D → Res D) (sb : Nat → Nat → Option Bool) (t : List Nat) (one : Bool) (it cnd elt : C) (e : Env) (x : D) (xs : List α) (g h : α → D) (p : α → Bool) (hi : ev Φ sb it e = .ok x) (hx : items x = some (xs.map g)) (hl : xs.length ≤ 1000000)
    (hs : ∀ a ∈ xs, ∃ e', asg t one (g a) e = some e' ∧ (ev Φ sb cnd e').bd truth = .ok (p a) ∧ (p a = true → ev Φ sb elt e' = .ok (h a))) : ev Φ sb (.lc t one it cnd elt) e = .ok (.lst ((xs.filter p).map h)) := by
  rw [ev_lc, hi, bd_ok, hx, om_some, if_pos (by simpa using lim_lt hl), lc_mapf _ g h p]
  · rfl
  · intro a ha
    obtain ⟨e', h1, h2, h3⟩ := hs a ha
    rw [h1, om_some]
    cases q : ev Φ sb cnd e' with
    | err c l => rw [q] at h2; cases h2
    | bad => rw [q] at h2; cases h2
    | ok c =>
      rw [q] at h2
      simp only [bd_ok] at h2
      rw [bd_ok, h2, bd_ok]
      by_cases hp : p a = true
      · rw [if_pos hp, if_pos hp, h3 hp]; rfl
      · rw [if_neg hp, if_neg hp]
theorem forL_inv (f : D → Env → Out) (P : Env → Prop) : ∀ (l : List D), (∀ d ∈ l, ∀ e, P e → ∃ e', f d e = .nx e' ∧ P e') → ∀ e, P e → ∃ e', forL f l e = .nx e' ∧ P e'
  | [], _, e, h => ⟨e, forL_nil _ _, h⟩
  | d :: l, h, e, he => by
    obtain ⟨e1, h1, p1⟩ := h d List.mem_cons_self e he
    obtain ⟨e2, h2, p2⟩ := forL_inv f P l (fun x hx => h x (List.mem_cons_of_mem _ hx)) e1 p1
    exact ⟨e2, by rw [forL_nx h1, h2], p2⟩
/-- a loop that folds: the state s is what the environment E s holds; the rest of it (z) may be anything -/
theorem forL_fold {α σ ζ : Type} (f : D → Env → Out) (g : α → D) (En : σ → ζ → Env) (step : σ → α → σ) (I : σ → Prop) : ∀ (xs : List α) (s : σ) (z : ζ), I s → (∀ a ∈ xs, ∀ s z, I s → ∃ z', f (g a) (En s z) = .nx (En (step s a) z') ∧ I (step s a)) →
    ∃ z', forL f (xs.map g) (En s z) = .nx (En (xs.foldl step s) z') ∧ I (xs.foldl step s)
  | [], s, z, hi, _ => ⟨z, forL_nil _ _, hi⟩
  | a :: xs, s, z, hi, h => by
    obtain ⟨z1, h1, i1⟩ := h a List.mem_cons_self s z hi
    obtain ⟨z2, h2, i2⟩ := forL_fold f g En step I xs (step s a) z1 i1 (fun b hb => h b (List.mem_cons_of_mem _ hb))
    exact ⟨z2, by rw [List.map_cons, forL_nx h1, h2]; rfl, i2⟩
mutual
theorem eqv_refl : ∀ (x : D) (k : Nat), plain x k = true → eqv x x = true
  | .non, _, _ => by simp [eqv]
  | .bl _, _, _ => by simp [eqv]
  | .int _, _, _ => by simp [eqv]
  | .str _, _, _ => by simp [eqv]
  | .lst l, 0, h => by simp [plain] at h
  | .tup l, 0, h => by simp [plain] at h
  | .lst l, k + 1, h => by
    simp only [plain] at h
    simp only [eqv]
    exact eqvL_refl l k h
  | .tup l, k + 1, h => by
    simp only [plain] at h
    simp only [eqv]
    exact eqvL_refl l k h
  | .dic _ _, k, h => by cases k <;> simp [plain] at h
  | .set _, k, h => by cases k <;> simp [plain] at h
  | .ins _ _, k, h => by cases k <;> simp [plain] at h
  | .exc _ _, k, h => by cases k <;> simp [plain] at h
  | .scr _, k, h => by cases k <;> simp [plain] at h
theorem eqvL_refl : ∀ (l : List D) (k : Nat), plainL l k = true → eqvL l l = true
  | [], _, _ => by simp [eqvL]
  | x :: xs, k, h => by
    simp only [plainL, Bool.and_eq_true] at h
    simp [eqvL, eqv_refl x k h.1, eqvL_refl xs k h.2]
end
theorem plainL_all : ∀ (l : List D) (k : Nat), plainL l k = l.all (plain · k)
  | [], _ => rfl
  | x :: xs, k => by simp [plainL, plainL_all xs k]
theorem ne_refl (x : D) (h : plain x 60 = true) : op2 .ne x x = .ok (.bl false) := by
  have e := eqv_refl x 60 h
  cases x <;> first
    | (simp [op2, h, e]; done)
    | (simp [op2, plain, e]; done)
    | (simp [plain] at h; done)
theorem eq_refl (x : D) (h : plain x 60 = true) : op2 .eq x x = .ok (.bl true) := by
  have e := eqv_refl x 60 h
  cases x <;> first
    | (simp [op2, h, e]; done)
    | (simp [op2, plain, e]; done)
    | (simp [plain] at h; done)
end E

set_option maxRecDepth 100000
namespace Lw
open PySem PySem.Spec PyProof.Rows L2 E
def topS (i : Nat) : Stmt := PySem.Challenge.pw_straightclock_k77_written_programs.main.body.getD i (.Pass ⟨0, 0, 0, 0⟩)
def clsB (s : Stmt) : List Stmt := match s with
  | .ClassDef _ _ _ b _ _ _ _ _ _ _ => b
  | _ => []
abbrev s_frozen : Stmt := topS 7
abbrev s_is_whole : Stmt := topS 8
abbrev s_are_letters : Stmt := topS 9
abbrev s_check_letters : Stmt := topS 10
abbrev s_plain_number : Stmt := topS 12
abbrev s_is_target : Stmt := topS 14
abbrev s_characters_of : Stmt := topS 20
abbrev s_is_item : Stmt := topS 21
abbrev s_is_line : Stmt := topS 22
abbrev s_Program : Stmt := (clsB (topS 23)).getD 0 (.Pass ⟨0, 0, 0, 0⟩)
abbrev s_target_note : Stmt := topS 25
abbrev s_item_note : Stmt := topS 26
abbrev s_format_program : Stmt := topS 27
abbrev s_read_head : Stmt := topS 28
abbrev s_read_target : Stmt := topS 29
abbrev s_read_word : Stmt := topS 30
abbrev s_read_line : Stmt := topS 31
abbrev s_parse_program : Stmt := topS 32
abbrev s__law_whole : Stmt := topS 34
abbrev s__law_cell : Stmt := topS 35
abbrev s__law_digits : Stmt := topS 36
abbrev s__law_letters : Stmt := topS 37
abbrev s__law_target : Stmt := topS 38
abbrev s__law_line : Stmt := topS 39
abbrev s__law_program : Stmt := topS 40
abbrev s__law_word : Stmt := topS 41
abbrev s__law_note : Stmt := topS 42
abbrev s__law_wider : Stmt := topS 43
abbrev s__law_spoilt : Stmt := topS 44
abbrev s__law_is_refused : Stmt := topS 45
abbrev s_law : Stmt := topS 46
abbrev i_BadLetters : Stmt := (clsB (topS 2)).getD 0 (.Pass ⟨0, 0, 0, 0⟩)
abbrev i_BadLine : Stmt := (clsB (topS 3)).getD 0 (.Pass ⟨0, 0, 0, 0⟩)
abbrev i_BadProgram : Stmt := (clsB (topS 4)).getD 0 (.Pass ⟨0, 0, 0, 0⟩)
def tab : List ((Nat × Nat) × Bool) := [((1, 0), true), ((1, 2), false), ((2, 0), true), ((2, 2), true), ((3, 0), true), ((3, 2), false)]
def sub (c k : Nat) : Option Bool := tab.lookup (c, k)
def fls : List (List Str) := [[], ["letters"], ["line"], ["index"], ["letters", "marks", "lines"]]
def glbs : List (Str × D) := [("ALPHABET", (.str [97, 98, 99, 100, 101, 102, 103, 104, 105, 106, 107, 108, 109, 110, 111, 112, 113, 114, 115, 116, 117, 118, 119, 120, 121, 122])), ("MARKS", (.str [65, 66, 67, 68, 69])), ("MOST_STEP", (.int 6)), ("MOST_TARGETS", (.int 6))]
def xcsL : List (Str × Nat) := [("BadLetters", 1), ("BadLine", 2), ("BadProgram", 3)]
def cnL : List (Str × Nat) := [("ClockError", 0), ("BadLine", 2)]
def S_frozen : Scp := { N := ["value", "part"], sc := defScope s_frozen, raw := defScope s_frozen, fns := [(0, "frozen", 1)], hot := [], glb := [], fl := fls, xcs := [], cn := [], ics := [], gds := [], iscs := [] }
abbrev fo_frozen_1 : C := (.lc [1] true (.var 0) (.bl true) (.call 0 [102, 114, 111, 122, 101, 110] (.cons (.var 1) .nil)))
def b_frozen : E.S := (.seq (.if_ (.isi2 (.var 0) .lst .tup) (.seq (.ret (.bi .tuple (.cons fo_frozen_1 .nil))) .skip) .skip) (.seq (.ret (.var 0)) .skip))
def F_frozen_0 : List D → Res D := fun _ => .bad
def P_frozen_1 : Nat → List D → Res D
  | 0 => F_frozen_0
  | _ => fun _ => .bad
def F_frozen_1 : List D → Res D := run P_frozen_1 sub FUEL 2 b_frozen
def P_frozen_2 : Nat → List D → Res D
  | 0 => F_frozen_1
  | _ => fun _ => .bad
def F_frozen_2 : List D → Res D := run P_frozen_2 sub FUEL 2 b_frozen
def P_frozen_3 : Nat → List D → Res D
  | 0 => F_frozen_2
  | _ => fun _ => .bad
def F_frozen_3 : List D → Res D := run P_frozen_3 sub FUEL 2 b_frozen
def P_frozen_4 : Nat → List D → Res D
  | 0 => F_frozen_3
  | _ => fun _ => .bad
def F_frozen_4 : List D → Res D := run P_frozen_4 sub FUEL 2 b_frozen
def P_frozen_5 : Nat → List D → Res D
  | 0 => F_frozen_4
  | _ => fun _ => .bad
def F_frozen_5 : List D → Res D := run P_frozen_5 sub FUEL 2 b_frozen
abbrev F_frozen : List D → Res D := F_frozen_5
def S_is_whole : Scp := { N := ["value"], sc := defScope s_is_whole, raw := defScope s_is_whole, fns := [], hot := [], glb := [], fl := fls, xcs := [], cn := [], ics := [], gds := [], iscs := [] }
def b_is_whole : E.S := (.seq (.ret (.and (.isi (.var 0) .int) (.one (.not (.isi (.var 0) .bool))))) .skip)
def P_is_whole : Nat → List D → Res D
  | _ => fun _ => .bad
def F_is_whole : List D → Res D := run P_is_whole sub FUEL 1 b_is_whole
def S_are_letters : Scp := { N := ["letters", "places", "letter"], sc := defScope s_are_letters, raw := defScope s_are_letters, fns := [], hot := [], glb := glbs, fl := fls, xcs := [], cn := [], ics := [], gds := [], iscs := [] }
abbrev fo_are_letters_1 : C := (.lc [2] true (.var 0) (.bl true) (.mt .find (.glb [65, 76, 80, 72, 65, 66, 69, 84] (.str [97, 98, 99, 100, 101, 102, 103, 104, 105, 106, 107, 108, 109, 110, 111, 112, 113, 114, 115, 116, 117, 118, 119, 120, 121, 122])) (.cons (.var 2) .nil)))
def b_are_letters : E.S := (.seq (.asg [1] true fo_are_letters_1) (.seq (.ret (.and (.chn .le .le (.int 1) (.bi .len (.cons (.var 0) .nil)) (.int 3)) (.and (.op .notIn (.neg (.int 1)) (.var 1)) (.one (.op .eq (.var 1) (.bi .sset (.cons (.var 1) .nil))))))) .skip))
def P_are_letters : Nat → List D → Res D
  | _ => fun _ => .bad
def F_are_letters : List D → Res D := run P_are_letters sub FUEL 3 b_are_letters
def S_check_letters : Scp := { N := ["letters"], sc := defScope s_check_letters, raw := defScope s_check_letters, fns := [(2, "are_letters", 1)], hot := [], glb := [], fl := fls, xcs := xcsL, cn := [], ics := [], gds := [], iscs := [] }
def b_check_letters : E.S := (.seq (.if_ (.not (.call 2 [97, 114, 101, 95, 108, 101, 116, 116, 101, 114, 115] (.cons (.var 0) .nil))) (.seq (.raise 1 [66, 97, 100, 76, 101, 116, 116, 101, 114, 115] (.cons (.var 0) .nil)) .skip) .skip) .skip)
def P_check_letters : Nat → List D → Res D
  | 2 => F_are_letters
  | _ => fun _ => .bad
def F_check_letters : List D → Res D := run P_check_letters sub FUEL 1 b_check_letters
def S_plain_number : Scp := { N := ["word", "digits", "sign"], sc := defScope s_plain_number, raw := defScope s_plain_number, fns := [], hot := [], glb := [], fl := fls, xcs := [], cn := [], ics := [], gds := [], iscs := [] }
abbrev fo_plain_number_1 : C := (.lc [2] true (.var 0) (.op .notIn (.var 2) (.str [48, 49, 50, 51, 52, 53, 54, 55, 56, 57])) (.var 2))
def b_plain_number : E.S := (.seq (.if_ (.or (.op .eq (.var 0) (.str [])) (.or (.op .gt (.bi .len (.cons (.var 0) .nil)) (.var 1)) (.one fo_plain_number_1))) (.seq (.ret .non) .skip) .skip) (.seq (.if_ (.and (.op .eq (.idx (.var 0) (.int 0)) (.str [48])) (.one (.op .gt (.bi .len (.cons (.var 0) .nil)) (.int 1)))) (.seq (.ret .non) .skip) .skip) (.seq (.ret (.bi .int (.cons (.var 0) .nil))) .skip)))
def P_plain_number : Nat → List D → Res D
  | _ => fun _ => .bad
def F_plain_number : List D → Res D := run P_plain_number sub FUEL 3 b_plain_number
def S_is_target : Scp := { N := ["value", "sweeps"], sc := defScope s_is_target, raw := defScope s_is_target, fns := [(1, "is_whole", 1)], hot := [], glb := [], fl := fls, xcs := [], cn := [], ics := [], gds := [], iscs := [] }
def b_is_target : E.S := (.seq (.ret (.or (.is_ (.bl true) false (.var 0)) (.or (.is_ (.bl false) false (.var 0)) (.one (.and (.call 1 [105, 115, 95, 119, 104, 111, 108, 101] (.cons (.var 0) .nil)) (.one (.chn .le .lt (.int 0) (.var 0) (.var 1)))))))) .skip)
def P_is_target : Nat → List D → Res D
  | 1 => F_is_whole
  | _ => fun _ => .bad
def F_is_target : List D → Res D := run P_is_target sub FUEL 2 b_is_target
def S_characters_of : Scp := { N := ["letters", "marks"], sc := defScope s_characters_of, raw := defScope s_characters_of, fns := [], hot := [], glb := glbs, fl := fls, xcs := [], cn := [], ics := [], gds := [], iscs := [] }
def b_characters_of : E.S := (.seq (.ret (.op .add (.var 0) (.slc (.glb [77, 65, 82, 75, 83] (.str [65, 66, 67, 68, 69])) .nil (.var 1)))) .skip)
def P_characters_of : Nat → List D → Res D
  | _ => fun _ => .bad
def F_characters_of : List D → Res D := run P_characters_of sub FUEL 2 b_characters_of
def S_is_item : Scp := { N := ["shape", "item", "characters", "lines", "target"], sc := defScope s_is_item, raw := defScope s_is_item, fns := [(1, "is_whole", 1), (5, "is_target", 2)], hot := [], glb := glbs, fl := fls, xcs := [], cn := [], ics := [], gds := [], iscs := [] }
abbrev fo_is_item_1 : C := (.lc [4] true (.var 1) (.bl true) (.call 5 [105, 115, 95, 116, 97, 114, 103, 101, 116] (.cons (.var 4) (.cons (.var 3) .nil))))
def b_is_item : E.S := (.seq (.if_ (.op .eq (.var 0) (.str [99])) (.seq (.ret (.and (.isi (.var 1) .str) (.and (.op .eq (.bi .len (.cons (.var 1) .nil)) (.int 1)) (.one (.op .in_ (.var 1) (.var 2)))))) .skip) .skip) (.seq (.if_ (.op .eq (.var 0) (.str [110])) (.seq (.ret (.and (.call 1 [105, 115, 95, 119, 104, 111, 108, 101] (.cons (.var 1) .nil)) (.one (.chn .le .le (.int 1) (.var 1) (.glb [77, 79, 83, 84, 95, 83, 84, 69, 80] (.int 6)))))) .skip) .skip) (.seq (.if_ (.op .eq (.var 0) (.str [116])) (.seq (.ret (.call 5 [105, 115, 95, 116, 97, 114, 103, 101, 116] (.cons (.var 1) (.cons (.var 3) .nil)))) .skip) .skip) (.seq (.if_ (.or (.not (.isi (.var 1) .tup)) (.one (.not (.chn .le .le (.int 1) (.bi .len (.cons (.var 1) .nil)) (.glb [77, 79, 83, 84, 95, 84, 65, 82, 71, 69, 84, 83] (.int 6)))))) (.seq (.ret (.bl false)) .skip) .skip) (.seq (.ret (.bi .all (.cons fo_is_item_1 .nil))) .skip)))))
def P_is_item : Nat → List D → Res D
  | 1 => F_is_whole
  | 5 => F_is_target
  | _ => fun _ => .bad
def F_is_item : List D → Res D := run P_is_item sub FUEL 5 b_is_item
def S_is_line : Scp := { N := ["line", "characters", "lines", "shapes", "at", "shape"], sc := defScope s_is_line, raw := defScope s_is_line, fns := [(7, "is_item", 4)], hot := [], glb := [], fl := fls, xcs := [], cn := [], ics := [], gds := [("SHAPES", [[99, 104, 97, 110, 103, 101], [115, 119, 97, 112], [102, 105, 114, 115, 116], [101, 118, 101, 114, 121], [99, 111, 117, 110, 116], [108, 101, 97, 100, 115]], [[99, 99, 116], [99, 99, 116], [99, 99, 116, 116], [99, 99, 110, 116, 116], [99, 115], [99, 116, 116]])], iscs := [] }
abbrev fo_is_line_1 : C := (.lc [4, 5] false (.bi .enum (.cons (.var 3) .nil)) (.bl true) (.call 7 [105, 115, 95, 105, 116, 101, 109] (.cons (.var 5) (.cons (.idx (.var 0) (.op .add (.var 4) (.int 1))) (.cons (.var 1) (.cons (.var 2) .nil))))))
def b_is_line : E.S := (.seq (.if_ (.or (.not (.isi (.var 0) .tup)) (.or (.op .eq (.bi .len (.cons (.var 0) .nil)) (.int 0)) (.one (.gdi true [83, 72, 65, 80, 69, 83] [[99, 104, 97, 110, 103, 101], [115, 119, 97, 112], [102, 105, 114, 115, 116], [101, 118, 101, 114, 121], [99, 111, 117, 110, 116], [108, 101, 97, 100, 115]] [[99, 99, 116], [99, 99, 116], [99, 99, 116, 116], [99, 99, 110, 116, 116], [99, 115], [99, 116, 116]] (.idx (.var 0) (.int 0)))))) (.seq (.ret (.bl false)) .skip) .skip) (.seq (.asg [3] true (.gdx [83, 72, 65, 80, 69, 83] [[99, 104, 97, 110, 103, 101], [115, 119, 97, 112], [102, 105, 114, 115, 116], [101, 118, 101, 114, 121], [99, 111, 117, 110, 116], [108, 101, 97, 100, 115]] [[99, 99, 116], [99, 99, 116], [99, 99, 116, 116], [99, 99, 110, 116, 116], [99, 115], [99, 116, 116]] (.idx (.var 0) (.int 0)))) (.seq (.if_ (.op .ne (.bi .len (.cons (.var 0) .nil)) (.op .add (.bi .len (.cons (.var 3) .nil)) (.int 1))) (.seq (.ret (.bl false)) .skip) .skip) (.seq (.ret (.bi .all (.cons fo_is_line_1 .nil))) .skip))))
def P_is_line : Nat → List D → Res D
  | 7 => F_is_item
  | _ => fun _ => .bad
def F_is_line : List D → Res D := run P_is_line sub FUEL 6 b_is_line
def S_Program : Scp := { N := ["self", "letters", "marks", "lines", "told", "index", "line"], sc := defScope s_Program, raw := defScope s_Program, fns := [(0, "frozen", 1), (3, "check_letters", 1), (6, "characters_of", 2), (8, "is_line", 3)], hot := [], glb := [], fl := fls, xcs := xcsL, cn := [], ics := [], gds := [], iscs := [] }
abbrev lb_Program_1 : E.S := (.seq (.if_ (.not (.call 8 [105, 115, 95, 108, 105, 110, 101] (.cons (.var 6) (.cons (.call 6 [99, 104, 97, 114, 97, 99, 116, 101, 114, 115, 95, 111, 102] (.cons (.var 1) (.cons (.var 2) .nil))) (.cons (.bi .len (.cons (.var 4) .nil)) .nil))))) (.seq (.raise 3 [66, 97, 100, 80, 114, 111, 103, 114, 97, 109] (.cons (.var 5) .nil)) .skip) .skip) .skip)
abbrev fo_Program_1 : E.S := (.for_ [] [5, 6] false (.bi .enum (.cons (.var 4) .nil)) lb_Program_1)
def b_Program : E.S := (.seq (.expr (.call 3 [99, 104, 101, 99, 107, 95, 108, 101, 116, 116, 101, 114, 115] (.cons (.var 1) .nil))) (.seq (.asg [4] true (.call 0 [102, 114, 111, 122, 101, 110] (.cons (.var 3) .nil))) (.seq (.if_ (.op .eq (.bi .len (.cons (.var 4) .nil)) (.int 0)) (.seq (.raise 3 [66, 97, 100, 80, 114, 111, 103, 114, 97, 109] (.cons (.int 0) .nil)) .skip) .skip) (.seq fo_Program_1 .skip))))
def P_Program : Nat → List D → Res D
  | 0 => F_frozen
  | 3 => F_check_letters
  | 6 => F_characters_of
  | 8 => F_is_line
  | _ => fun _ => .bad
def a_Program : C := (.cons (.var 1) (.cons (.var 2) (.cons (.var 4) .nil)))
def F_Program : List D → Res D := runI P_Program sub FUEL 7 4 b_Program a_Program
def S_target_note : Scp := { N := ["target"], sc := defScope s_target_note, raw := defScope s_target_note, fns := [], hot := [], glb := [], fl := fls, xcs := [], cn := [], ics := [], gds := [], iscs := [] }
def b_target_note : E.S := (.seq (.if_ (.is_ (.bl true) false (.var 0)) (.seq (.ret (.str [121, 101, 115])) .skip) .skip) (.seq (.if_ (.is_ (.bl false) false (.var 0)) (.seq (.ret (.str [110, 111])) .skip) .skip) (.seq (.ret (.bi .str (.cons (.var 0) .nil))) .skip)))
def P_target_note : Nat → List D → Res D
  | _ => fun _ => .bad
def F_target_note : List D → Res D := run P_target_note sub FUEL 1 b_target_note
def S_item_note : Scp := { N := ["shape", "item", "target"], sc := defScope s_item_note, raw := defScope s_item_note, fns := [(9, "target_note", 1)], hot := [], glb := [], fl := fls, xcs := [], cn := [], ics := [], gds := [], iscs := [] }
abbrev fo_item_note_1 : C := (.lc [2] true (.var 1) (.bl true) (.call 9 [116, 97, 114, 103, 101, 116, 95, 110, 111, 116, 101] (.cons (.var 2) .nil)))
def b_item_note : E.S := (.seq (.if_ (.op .eq (.var 0) (.str [99])) (.seq (.ret (.var 1)) .skip) .skip) (.seq (.if_ (.op .eq (.var 0) (.str [115])) (.seq (.ret (.mt .join (.str [32]) (.cons fo_item_note_1 .nil))) .skip) .skip) (.seq (.ret (.call 9 [116, 97, 114, 103, 101, 116, 95, 110, 111, 116, 101] (.cons (.var 1) .nil))) .skip)))
def P_item_note : Nat → List D → Res D
  | 9 => F_target_note
  | _ => fun _ => .bad
def F_item_note : List D → Res D := run P_item_note sub FUEL 3 b_item_note
def S_format_program : Scp := { N := ["program", "lines", "at", "line", "words", "place", "shape"], sc := defScope s_format_program, raw := defScope s_format_program, fns := [(10, "item_note", 2)], hot := [], glb := [], fl := fls, xcs := [], cn := [], ics := [4], gds := [("SHAPES", [[99, 104, 97, 110, 103, 101], [115, 119, 97, 112], [102, 105, 114, 115, 116], [101, 118, 101, 114, 121], [99, 111, 117, 110, 116], [108, 101, 97, 100, 115]], [[99, 99, 116], [99, 99, 116], [99, 99, 116, 116], [99, 99, 110, 116, 116], [99, 115], [99, 116, 116]])], iscs := [] }
abbrev lb_format_program_2 : E.S := (.seq (.mu .append 4 (.cons (.call 10 [105, 116, 101, 109, 95, 110, 111, 116, 101] (.cons (.var 6) (.cons (.idx (.var 3) (.op .add (.var 5) (.int 1))) .nil))) .nil)) .skip)
abbrev fo_format_program_2 : E.S := (.for_ [1, 4] [5, 6] false (.bi .enum (.cons (.gdx [83, 72, 65, 80, 69, 83] [[99, 104, 97, 110, 103, 101], [115, 119, 97, 112], [102, 105, 114, 115, 116], [101, 118, 101, 114, 121], [99, 111, 117, 110, 116], [108, 101, 97, 100, 115]] [[99, 99, 116], [99, 99, 116], [99, 99, 116, 116], [99, 99, 110, 116, 116], [99, 115], [99, 116, 116]] (.idx (.var 3) (.int 0))) .nil)) lb_format_program_2)
abbrev lb_format_program_1 : E.S := (.seq (.own 4 (.lst (.cons (.bi .str (.cons (.var 2) .nil)) (.cons (.idx (.var 3) (.int 0)) .nil)))) (.seq fo_format_program_2 (.seq (.mu .append 1 (.cons (.mt .join (.str [32]) (.cons (.var 4) .nil)) .nil)) .skip)))
abbrev fo_format_program_1 : E.S := (.for_ [1] [2, 3] false (.bi .enum (.cons (.fld 4 2 (.var 0)) .nil)) lb_format_program_1)
def b_format_program : E.S := (.seq (.own 1 (.lst (.cons (.fst (.cons (.str [112, 114, 111, 103, 114, 97, 109, 32]) (.cons (.fld 4 0 (.var 0)) (.cons (.str [32]) (.cons (.fld 4 1 (.var 0)) .nil))))) .nil))) (.seq fo_format_program_1 (.seq (.ret (.mt .join (.str [10]) (.cons (.var 1) .nil))) .skip)))
def P_format_program : Nat → List D → Res D
  | 10 => F_item_note
  | _ => fun _ => .bad
def F_format_program : List D → Res D := run P_format_program sub FUEL 7 b_format_program
def S_read_head : Scp := { N := ["line", "words"], sc := defScope s_read_head, raw := defScope s_read_head, fns := [(2, "are_letters", 1)], hot := [], glb := [], fl := fls, xcs := [], cn := [], ics := [], gds := [], iscs := [] }
def b_read_head : E.S := (.seq (.asg [1] true (.mt .split (.var 0) (.cons (.str [32]) .nil))) (.seq (.if_ (.or (.op .ne (.bi .len (.cons (.var 1) .nil)) (.int 3)) (.or (.op .ne (.idx (.var 1) (.int 0)) (.str [112, 114, 111, 103, 114, 97, 109])) (.one (.not (.call 2 [97, 114, 101, 95, 108, 101, 116, 116, 101, 114, 115] (.cons (.idx (.var 1) (.int 1)) .nil)))))) (.seq (.ret .non) .skip) .skip) (.seq (.if_ (.op .notIn (.idx (.var 1) (.int 2)) (.tup (.cons (.str [48]) (.cons (.str [49]) (.cons (.str [50]) (.cons (.str [51]) (.cons (.str [52]) (.cons (.str [53]) .nil)))))))) (.seq (.ret .non) .skip) .skip) (.seq (.ret (.tup (.cons (.idx (.var 1) (.int 1)) (.cons (.bi .int (.cons (.idx (.var 1) (.int 2)) .nil)) .nil)))) .skip))))
def P_read_head : Nat → List D → Res D
  | 2 => F_are_letters
  | _ => fun _ => .bad
def F_read_head : List D → Res D := run P_read_head sub FUEL 2 b_read_head
def S_read_target : Scp := { N := ["word", "lines", "number"], sc := defScope s_read_target, raw := defScope s_read_target, fns := [(4, "plain_number", 2)], hot := [], glb := [], fl := fls, xcs := [], cn := [], ics := [], gds := [], iscs := [] }
def b_read_target : E.S := (.seq (.if_ (.op .eq (.var 0) (.str [121, 101, 115])) (.seq (.ret (.bl true)) .skip) .skip) (.seq (.if_ (.op .eq (.var 0) (.str [110, 111])) (.seq (.ret (.bl false)) .skip) .skip) (.seq (.asg [2] true (.call 4 [112, 108, 97, 105, 110, 95, 110, 117, 109, 98, 101, 114] (.cons (.var 0) (.cons (.int 2) .nil)))) (.seq (.if_ (.or (.is_ .non false (.var 2)) (.one (.op .ge (.var 2) (.var 1)))) (.seq (.ret .non) .skip) .skip) (.seq (.ret (.var 2)) .skip)))))
def P_read_target : Nat → List D → Res D
  | 4 => F_plain_number
  | _ => fun _ => .bad
def F_read_target : List D → Res D := run P_read_target sub FUEL 3 b_read_target
def S_read_word : Scp := { N := ["shape", "word", "characters", "lines", "number"], sc := defScope s_read_word, raw := defScope s_read_word, fns := [(4, "plain_number", 2), (13, "read_target", 2)], hot := [], glb := glbs, fl := fls, xcs := [], cn := [], ics := [], gds := [], iscs := [] }
def b_read_word : E.S := (.seq (.if_ (.op .eq (.var 0) (.str [99])) (.seq (.if_ (.and (.op .eq (.bi .len (.cons (.var 1) .nil)) (.int 1)) (.one (.op .in_ (.var 1) (.var 2)))) (.seq (.ret (.var 1)) .skip) .skip) (.seq (.ret .non) .skip)) .skip) (.seq (.if_ (.op .eq (.var 0) (.str [116])) (.seq (.ret (.call 13 [114, 101, 97, 100, 95, 116, 97, 114, 103, 101, 116] (.cons (.var 1) (.cons (.var 3) .nil)))) .skip) .skip) (.seq (.asg [4] true (.call 4 [112, 108, 97, 105, 110, 95, 110, 117, 109, 98, 101, 114] (.cons (.var 1) (.cons (.int 2) .nil)))) (.seq (.if_ (.or (.is_ .non false (.var 4)) (.one (.not (.chn .le .le (.int 1) (.var 4) (.glb [77, 79, 83, 84, 95, 83, 84, 69, 80] (.int 6)))))) (.seq (.ret .non) .skip) .skip) (.seq (.ret (.var 4)) .skip)))))
def P_read_word : Nat → List D → Res D
  | 4 => F_plain_number
  | 13 => F_read_target
  | _ => fun _ => .bad
def F_read_word : List D → Res D := run P_read_word sub FUEL 5 b_read_word
def S_read_line : Scp := { N := ["line", "at", "characters", "lines", "words", "shapes", "items", "place", "shape"], sc := defScope s_read_line, raw := defScope s_read_line, fns := [(14, "read_word", 4)], hot := [], glb := glbs, fl := fls, xcs := [], cn := [], ics := [], gds := [("SHAPES", [[99, 104, 97, 110, 103, 101], [115, 119, 97, 112], [102, 105, 114, 115, 116], [101, 118, 101, 114, 121], [99, 111, 117, 110, 116], [108, 101, 97, 100, 115]], [[99, 99, 116], [99, 99, 116], [99, 99, 116, 116], [99, 99, 110, 116, 116], [99, 115], [99, 116, 116]])], iscs := [] }
abbrev fo_read_line_1 : C := (.lc [7, 8] false (.bi .enum (.cons (.var 5) .nil)) (.bl true) (.call 14 [114, 101, 97, 100, 95, 119, 111, 114, 100] (.cons (.var 8) (.cons (.idx (.var 4) (.op .add (.var 7) (.int 2))) (.cons (.var 2) (.cons (.var 3) .nil))))))
def b_read_line : E.S := (.seq (.asg [4] true (.mt .split (.var 0) (.cons (.str [32]) .nil))) (.seq (.if_ (.or (.op .lt (.bi .len (.cons (.var 4) .nil)) (.int 3)) (.or (.op .ne (.idx (.var 4) (.int 0)) (.bi .str (.cons (.var 1) .nil))) (.one (.gdi true [83, 72, 65, 80, 69, 83] [[99, 104, 97, 110, 103, 101], [115, 119, 97, 112], [102, 105, 114, 115, 116], [101, 118, 101, 114, 121], [99, 111, 117, 110, 116], [108, 101, 97, 100, 115]] [[99, 99, 116], [99, 99, 116], [99, 99, 116, 116], [99, 99, 110, 116, 116], [99, 115], [99, 116, 116]] (.idx (.var 4) (.int 1)))))) (.seq (.ret .non) .skip) .skip) (.seq (.asg [5] true (.gdx [83, 72, 65, 80, 69, 83] [[99, 104, 97, 110, 103, 101], [115, 119, 97, 112], [102, 105, 114, 115, 116], [101, 118, 101, 114, 121], [99, 111, 117, 110, 116], [108, 101, 97, 100, 115]] [[99, 99, 116], [99, 99, 116], [99, 99, 116, 116], [99, 99, 110, 116, 116], [99, 115], [99, 116, 116]] (.idx (.var 4) (.int 1)))) (.seq (.if_ (.op .eq (.var 5) (.str [99, 115])) (.seq (.asg [5] true (.op .add (.str [99]) (.op .mul (.str [116]) (.bi .min2 (.cons (.bi .max2 (.cons (.op .sub (.bi .len (.cons (.var 4) .nil)) (.int 3)) (.cons (.int 1) .nil))) (.cons (.glb [77, 79, 83, 84, 95, 84, 65, 82, 71, 69, 84, 83] (.int 6)) .nil)))))) .skip) .skip) (.seq (.if_ (.op .ne (.bi .len (.cons (.var 4) .nil)) (.op .add (.bi .len (.cons (.var 5) .nil)) (.int 2))) (.seq (.ret .non) .skip) .skip) (.seq (.asg [6] true fo_read_line_1) (.seq (.if_ (.op .in_ .non (.var 6)) (.seq (.ret .non) .skip) .skip) (.seq (.if_ (.op .eq (.idx (.var 4) (.int 1)) (.str [99, 111, 117, 110, 116])) (.seq (.ret (.tup (.cons (.idx (.var 4) (.int 1)) (.cons (.idx (.var 6) (.int 0)) (.cons (.slc (.var 6) (.int 1) .nil) .nil))))) .skip) .skip) (.seq (.ret (.bi .tuple (.cons (.op .add (.lst (.cons (.idx (.var 4) (.int 1)) .nil)) (.var 6)) .nil))) .skip)))))))))
def P_read_line : Nat → List D → Res D
  | 14 => F_read_word
  | _ => fun _ => .bad
def F_read_line : List D → Res D := run P_read_line sub FUEL 9 b_read_line
def S_parse_program : Scp := { N := ["string", "lines", "told", "found", "at", "line", "read"], sc := defScope s_parse_program, raw := defScope s_parse_program, fns := [(6, "characters_of", 2), (12, "read_head", 1), (15, "read_line", 4), (1004, "Program", 3)], hot := [], glb := [], fl := fls, xcs := xcsL, cn := [], ics := [], gds := [], iscs := [] }
abbrev lb_parse_program_1 : E.S := (.seq (.asg [6] true (.call 15 [114, 101, 97, 100, 95, 108, 105, 110, 101] (.cons (.var 5) (.cons (.var 4) (.cons (.call 6 [99, 104, 97, 114, 97, 99, 116, 101, 114, 115, 95, 111, 102] (.cons (.idx (.var 2) (.int 0)) (.cons (.idx (.var 2) (.int 1)) .nil))) (.cons (.op .sub (.bi .len (.cons (.var 1) .nil)) (.int 1)) .nil)))))) (.seq (.if_ (.is_ .non false (.var 6)) (.seq (.raise 2 [66, 97, 100, 76, 105, 110, 101] (.cons (.op .add (.var 4) (.int 2)) .nil)) .skip) .skip) (.seq (.mu .append 3 (.cons (.var 6) .nil)) .skip)))
abbrev fo_parse_program_1 : E.S := (.for_ [3] [4, 5] false (.bi .enum (.cons (.slc (.var 1) (.int 1) .nil) .nil)) lb_parse_program_1)
def b_parse_program : E.S := (.seq (.asg [1] true (.mt .split (.var 0) (.cons (.str [10]) .nil))) (.seq (.asg [2] true (.call 12 [114, 101, 97, 100, 95, 104, 101, 97, 100] (.cons (.idx (.var 1) (.int 0)) .nil))) (.seq (.if_ (.is_ .non false (.var 2)) (.seq (.raise 2 [66, 97, 100, 76, 105, 110, 101] (.cons (.int 1) .nil)) .skip) .skip) (.seq (.if_ (.op .eq (.bi .len (.cons (.var 1) .nil)) (.int 1)) (.seq (.raise 2 [66, 97, 100, 76, 105, 110, 101] (.cons (.int 2) .nil)) .skip) .skip) (.seq (.own 3 (.lst .nil)) (.seq fo_parse_program_1 (.seq (.frz 3 (.ret (.call 1004 [80, 114, 111, 103, 114, 97, 109] (.cons (.idx (.var 2) (.int 0)) (.cons (.idx (.var 2) (.int 1)) (.cons (.var 3) .nil)))))) .skip)))))))
def P_parse_program : Nat → List D → Res D
  | 6 => F_characters_of
  | 12 => F_read_head
  | 15 => F_read_line
  | 1004 => F_Program
  | _ => fun _ => .bad
def F_parse_program : List D → Res D := run P_parse_program sub FUEL 7 b_parse_program
def S__law_whole : Scp := { N := ["value"], sc := defScope s__law_whole, raw := defScope s__law_whole, fns := [], hot := [], glb := [], fl := fls, xcs := [], cn := [], ics := [], gds := [], iscs := [] }
def b__law_whole : E.S := (.seq (.ret (.and (.isi (.var 0) .int) (.one (.not (.isi (.var 0) .bool))))) .skip)
def P__law_whole : Nat → List D → Res D
  | _ => fun _ => .bad
def F__law_whole : List D → Res D := run P__law_whole sub FUEL 1 b__law_whole
def S__law_cell : Scp := { N := ["script", "k", "seed", "cell"], sc := defScope s__law_cell, raw := defScope s__law_cell, fns := [], hot := [], glb := [], fl := fls, xcs := [], cn := [], ics := [], gds := [], iscs := [] }
abbrev lb__law_cell_1 : E.S := (.seq (.asg [2] true (.op .mod (.bi .int (.cons (.op .add (.op .mul (.var 2) (.int 31)) (.op .mod (.bi .int (.cons (.var 3) .nil)) (.int 1000003))) .nil)) (.int 1000003))) .skip)
abbrev fo__law_cell_1 : E.S := (.for_ [] [3] true (.var 0) lb__law_cell_1)
def b__law_cell : E.S := (.seq (.if_ (.op .lt (.var 1) (.bi .len (.cons (.var 0) .nil))) (.seq (.ret (.op .mod (.bi .int (.cons (.idx (.var 0) (.var 1)) .nil)) (.op .mul (.op .pow (.int 10) (.int 60)) (.op .pow (.int 10) (.int 60))))) .skip) .skip) (.seq (.asg [2] true (.int 17)) (.seq fo__law_cell_1 (.seq (.ret (.op .mod (.bi .int (.cons (.op .mul (.op .mul (.op .add (.var 2) (.int 7)) (.op .add (.var 1) (.int 3))) (.int 69621)) .nil)) (.int 2147483647))) .skip))))
def P__law_cell : Nat → List D → Res D
  | _ => fun _ => .bad
def F__law_cell : List D → Res D := run P__law_cell sub FUEL 4 b__law_cell
def S__law_digits : Scp := { N := ["cell", "sizes", "row", "rest", "seed", "k", "size", "twice"], sc := defScope s__law_digits, raw := defScope s__law_digits, fns := [], hot := [], glb := [], fl := fls, xcs := [], cn := [], ics := [], gds := [], iscs := [] }
abbrev lb__law_digits_2 : E.S := (.seq (.asg [4] true (.op .mod (.bi .int (.cons (.op .add (.op .add (.op .mul (.var 4) (.int 48271)) (.op .mul (.int 974711) (.var 5))) (.int 12345)) .nil)) (.int 2147483647))) (.seq (.asg [7] true (.op .mod (.bi .int (.cons (.op .mul (.var 4) (.op .add (.op .fdiv (.var 4) (.int 65537)) (.int 3))) .nil)) (.int 2147483629))) (.seq (.mu .append 2 (.cons (.op .mod (.op .fdiv (.var 7) (.int 19)) (.idx (.var 1) (.var 5))) .nil)) .skip)))
abbrev fo__law_digits_2 : E.S := (.for_ [2] [5] true (.bi .rng1 (.cons (.bi .len (.cons (.var 1) .nil)) .nil)) lb__law_digits_2)
abbrev lb__law_digits_1 : E.S := (.seq (.mu .append 2 (.cons (.op .mod (.bi .int (.cons (.var 3) .nil)) (.var 6)) .nil)) (.seq (.asg [3] true (.op .fdiv (.bi .int (.cons (.var 3) .nil)) (.var 6))) .skip))
abbrev fo__law_digits_1 : E.S := (.for_ [2] [6] true (.var 1) lb__law_digits_1)
def b__law_digits : E.S := (.seq (.own 2 (.lst .nil)) (.seq (.asg [3] true (.bi .int (.cons (.var 0) .nil))) (.seq (.if_ (.op .ge (.var 3) (.op .pow (.int 10) (.int 18))) (.seq (.asg [3] true (.op .sub (.var 3) (.op .pow (.int 10) (.int 18)))) (.seq fo__law_digits_1 (.seq (.frz 2 (.ret (.var 2))) .skip))) .skip) (.seq (.asg [4] true (.op .mod (.bi .int (.cons (.var 3) .nil)) (.int 2147483629))) (.seq fo__law_digits_2 (.seq (.frz 2 (.ret (.var 2))) .skip))))))
def P__law_digits : Nat → List D → Res D
  | _ => fun _ => .bad
def F__law_digits : List D → Res D := run P__law_digits sub FUEL 8 b__law_digits
def S__law_letters : Scp := { N := ["row", "names", "second", "third"], sc := defScope s__law_letters, raw := defScope s__law_letters, fns := [], hot := [], glb := [], fl := fls, xcs := [], cn := [], ics := [], gds := [], iscs := [] }
def b__law_letters : E.S := (.seq (.asg [1] true (.str [97, 98, 99, 100, 101, 102, 103, 104, 105, 106, 107, 108, 109, 110, 111, 112, 113, 114, 115, 116, 117, 118, 119, 120, 121, 122])) (.seq (.asg [2] true (.op .add (.op .add (.idx (.var 0) (.int 1)) (.int 1)) (.idx (.var 0) (.int 2)))) (.seq (.asg [3] true (.op .add (.op .add (.var 2) (.int 1)) (.idx (.var 0) (.int 3)))) (.seq (.if_ (.op .eq (.idx (.var 0) (.int 0)) (.int 0)) (.seq (.ret (.idx (.var 1) (.idx (.var 0) (.int 1)))) .skip) .skip) (.seq (.if_ (.op .eq (.idx (.var 0) (.int 0)) (.int 1)) (.seq (.ret (.op .add (.op .add (.idx (.var 1) (.idx (.var 0) (.int 1))) (.idx (.var 1) (.var 2))) (.idx (.var 1) (.var 3)))) .skip) .skip) (.seq (.ret (.op .add (.idx (.var 1) (.idx (.var 0) (.int 1))) (.idx (.var 1) (.var 2)))) .skip))))))
def P__law_letters : Nat → List D → Res D
  | _ => fun _ => .bad
def F__law_letters : List D → Res D := run P__law_letters sub FUEL 4 b__law_letters
def S__law_target : Scp := { N := ["digit", "at", "many", "loops", "choices", "target"], sc := defScope s__law_target, raw := defScope s__law_target, fns := [], hot := [], glb := [], fl := fls, xcs := [], cn := [], ics := [], gds := [], iscs := [] }
def b__law_target : E.S := (.seq (.asg [4] true (.lst (.cons (.bl true) (.cons (.bl false) (.cons (.op .add (.var 1) (.int 1)) (.cons (.op .add (.var 1) (.int 1)) (.cons (.op .add (.var 1) (.int 2)) (.cons (.bl true) (.cons (.bl false) (.cons (.op .add (.var 1) (.int 1)) .nil)))))))))) (.seq (.if_ (.var 3) (.seq (.asg [4] true (.lst (.cons (.bl true) (.cons (.bl false) (.cons (.op .add (.var 1) (.int 1)) (.cons (.var 1) (.cons (.int 0) (.cons (.op .mod (.var 0) (.var 2)) (.cons (.op .add (.var 1) (.int 2)) (.cons (.op .add (.var 1) (.int 1)) .nil)))))))))) .skip) .skip) (.seq (.asg [5] true (.idx (.var 4) (.op .mod (.var 0) (.int 8)))) (.seq (.if_ (.and (.not (.isi (.var 5) .bool)) (.one (.op .ge (.var 5) (.var 2)))) (.seq (.ret (.op .eq (.op .mod (.var 0) (.int 3)) (.int 0))) .skip) .skip) (.seq (.ret (.var 5)) .skip)))))
def P__law_target : Nat → List D → Res D
  | _ => fun _ => .bad
def F__law_target : List D → Res D := run P__law_target sub FUEL 6 b__law_target
def S__law_line : Scp := { N := ["row", "at", "many", "characters", "loops", "kind", "one", "two", "targets", "k"], sc := defScope s__law_line, raw := defScope s__law_line, fns := [(21, "_law_target", 4)], hot := [], glb := [], fl := fls, xcs := [], cn := [], ics := [], gds := [], iscs := [] }
abbrev fo__law_line_1 : C := (.lc [9] true (.bi .rng1 (.cons (.int 3) .nil)) (.bl true) (.call 21 [95, 108, 97, 119, 95, 116, 97, 114, 103, 101, 116] (.cons (.idx (.var 0) (.op .add (.int 3) (.var 9))) (.cons (.var 1) (.cons (.var 2) (.cons (.var 4) .nil))))))
def b__law_line : E.S := (.seq (.asg [5] true (.idx (.lst (.cons (.str [99, 104, 97, 110, 103, 101]) (.cons (.str [115, 119, 97, 112]) (.cons (.str [102, 105, 114, 115, 116]) (.cons (.str [101, 118, 101, 114, 121]) (.cons (.str [99, 111, 117, 110, 116]) (.cons (.str [108, 101, 97, 100, 115]) .nil))))))) (.idx (.var 0) (.int 0)))) (.seq (.asg [6] true (.idx (.var 3) (.op .mod (.idx (.var 0) (.int 1)) (.bi .len (.cons (.var 3) .nil))))) (.seq (.asg [7] true (.idx (.var 3) (.op .mod (.idx (.var 0) (.int 2)) (.bi .len (.cons (.var 3) .nil))))) (.seq (.asg [8] true fo__law_line_1) (.seq (.if_ (.or (.op .eq (.var 5) (.str [99, 104, 97, 110, 103, 101])) (.one (.op .eq (.var 5) (.str [115, 119, 97, 112])))) (.seq (.ret (.tup (.cons (.var 5) (.cons (.var 6) (.cons (.var 7) (.cons (.idx (.var 8) (.int 0)) .nil)))))) .skip) .skip) (.seq (.if_ (.op .eq (.var 5) (.str [102, 105, 114, 115, 116])) (.seq (.ret (.tup (.cons (.var 5) (.cons (.var 6) (.cons (.var 7) (.cons (.idx (.var 8) (.int 0)) (.cons (.idx (.var 8) (.int 1)) .nil))))))) .skip) .skip) (.seq (.if_ (.op .eq (.var 5) (.str [101, 118, 101, 114, 121])) (.seq (.ret (.tup (.cons (.var 5) (.cons (.var 6) (.cons (.var 7) (.cons (.op .add (.int 1) (.idx (.var 0) (.int 6))) (.cons (.idx (.var 8) (.int 0)) (.cons (.idx (.var 8) (.int 1)) .nil)))))))) .skip) .skip) (.seq (.if_ (.op .eq (.var 5) (.str [99, 111, 117, 110, 116])) (.seq (.ret (.tup (.cons (.var 5) (.cons (.var 6) (.cons (.bi .tuple (.cons (.slc (.var 8) .nil (.op .add (.int 1) (.op .mod (.idx (.var 0) (.int 6)) (.int 3)))) .nil)) .nil))))) .skip) .skip) (.seq (.ret (.tup (.cons (.var 5) (.cons (.var 6) (.cons (.idx (.var 8) (.int 0)) (.cons (.idx (.var 8) (.int 1)) .nil)))))) .skip)))))))))
def P__law_line : Nat → List D → Res D
  | 21 => F__law_target
  | _ => fun _ => .bad
def F__law_line : List D → Res D := run P__law_line sub FUEL 10 b__law_line
def S__law_program : Scp := { N := ["script", "at", "longest", "loops", "letters", "shape", "characters", "many", "lines", "k", "row"], sc := defScope s__law_program, raw := defScope s__law_program, fns := [(18, "_law_cell", 2), (19, "_law_digits", 2), (20, "_law_letters", 1), (22, "_law_line", 5)], hot := [], glb := [], fl := fls, xcs := [], cn := [], ics := [], gds := [], iscs := [] }
abbrev lb__law_program_1 : E.S := (.seq (.asg [10] true (.call 19 [95, 108, 97, 119, 95, 100, 105, 103, 105, 116, 115] (.cons (.call 18 [95, 108, 97, 119, 95, 99, 101, 108, 108] (.cons (.var 0) (.cons (.op .add (.op .add (.var 1) (.int 2)) (.var 9)) .nil))) (.cons (.lst (.cons (.int 6) (.cons (.int 12) (.cons (.int 12) (.cons (.int 24) (.cons (.int 24) (.cons (.int 24) (.cons (.int 4) .nil)))))))) .nil)))) (.seq (.mu .append 8 (.cons (.call 22 [95, 108, 97, 119, 95, 108, 105, 110, 101] (.cons (.var 10) (.cons (.var 9) (.cons (.var 7) (.cons (.var 6) (.cons (.var 3) .nil)))))) .nil)) .skip))
abbrev fo__law_program_1 : E.S := (.for_ [8] [9] true (.bi .rng1 (.cons (.var 7) .nil)) lb__law_program_1)
def b__law_program : E.S := (.seq (.asg [4] true (.call 20 [95, 108, 97, 119, 95, 108, 101, 116, 116, 101, 114, 115] (.cons (.call 19 [95, 108, 97, 119, 95, 100, 105, 103, 105, 116, 115] (.cons (.call 18 [95, 108, 97, 119, 95, 99, 101, 108, 108] (.cons (.var 0) (.cons (.var 1) .nil))) (.cons (.lst (.cons (.int 8) (.cons (.int 8) (.cons (.int 8) (.cons (.int 8) .nil))))) .nil))) .nil))) (.seq (.asg [5] true (.call 19 [95, 108, 97, 119, 95, 100, 105, 103, 105, 116, 115] (.cons (.call 18 [95, 108, 97, 119, 95, 99, 101, 108, 108] (.cons (.var 0) (.cons (.op .add (.var 1) (.int 1)) .nil))) (.cons (.lst (.cons (.int 3) (.cons (.var 2) .nil))) .nil)))) (.seq (.asg [6] true (.op .add (.var 4) (.slc (.str [65, 66, 67, 68, 69]) .nil (.idx (.var 5) (.int 0))))) (.seq (.asg [7] true (.op .add (.int 1) (.idx (.var 5) (.int 1)))) (.seq (.own 8 (.lst .nil)) (.seq fo__law_program_1 (.seq (.frz 8 (.ret (.lst (.cons (.var 4) (.cons (.idx (.var 5) (.int 0)) (.cons (.var 8) .nil)))))) .skip)))))))
def P__law_program : Nat → List D → Res D
  | 18 => F__law_cell
  | 19 => F__law_digits
  | 20 => F__law_letters
  | 22 => F__law_line
  | _ => fun _ => .bad
def F__law_program : List D → Res D := run P__law_program sub FUEL 11 b__law_program
def S__law_word : Scp := { N := ["target"], sc := defScope s__law_word, raw := defScope s__law_word, fns := [], hot := [], glb := [], fl := fls, xcs := [], cn := [], ics := [], gds := [], iscs := [] }
def b__law_word : E.S := (.seq (.if_ (.isi (.var 0) .bool) (.seq (.ret (.idx (.lst (.cons (.str [110, 111]) (.cons (.str [121, 101, 115]) .nil))) (.bi .int (.cons (.var 0) .nil)))) .skip) .skip) (.seq (.ret (.bi .str (.cons (.var 0) .nil))) .skip))
def P__law_word : Nat → List D → Res D
  | _ => fun _ => .bad
def F__law_word : List D → Res D := run P__law_word sub FUEL 1 b__law_word
def S__law_note : Scp := { N := ["at", "line", "words", "item", "target"], sc := defScope s__law_note, raw := defScope s__law_note, fns := [(24, "_law_word", 1)], hot := [], glb := [], fl := fls, xcs := [], cn := [], ics := [], gds := [], iscs := [] }
abbrev fo__law_note_2 : C := (.lc [4] true (.var 3) (.bl true) (.call 24 [95, 108, 97, 119, 95, 119, 111, 114, 100] (.cons (.var 4) .nil)))
abbrev lb__law_note_1 : E.S := (.seq (.if_ (.isi (.var 3) .tup) (.seq (.own 2 (.op .add (.var 2) fo__law_note_2)) .skip) (.seq (.if_ (.isi (.var 3) .str) (.seq (.mu .append 2 (.cons (.var 3) .nil)) .skip) (.seq (.mu .append 2 (.cons (.call 24 [95, 108, 97, 119, 95, 119, 111, 114, 100] (.cons (.var 3) .nil)) .nil)) .skip)) .skip)) .skip)
abbrev fo__law_note_1 : E.S := (.for_ [2] [3] true (.slc (.var 1) (.int 1) .nil) lb__law_note_1)
def b__law_note : E.S := (.seq (.own 2 (.lst (.cons (.bi .str (.cons (.var 0) .nil)) (.cons (.idx (.var 1) (.int 0)) .nil)))) (.seq fo__law_note_1 (.seq (.ret (.mt .join (.str [32]) (.cons (.var 2) .nil))) .skip)))
def P__law_note : Nat → List D → Res D
  | 24 => F__law_word
  | _ => fun _ => .bad
def F__law_note : List D → Res D := run P__law_note sub FUEL 5 b__law_note
def S__law_wider : Scp := { N := ["told", "row", "lines", "line"], sc := defScope s__law_wider, raw := defScope s__law_wider, fns := [], hot := [], glb := [], fl := fls, xcs := [], cn := [], ics := [], gds := [], iscs := [] }
abbrev lb__law_wider_1 : E.S := (.seq (.if_ (.and (.op .eq (.idx (.var 3) (.int 0)) (.str [99, 111, 117, 110, 116])) (.one (.op .eq (.idx (.var 1) (.int 0)) (.int 0)))) (.seq (.mu .append 2 (.cons (.tup (.cons (.idx (.var 3) (.int 0)) (.cons (.idx (.var 3) (.int 1)) (.cons (.slc (.op .mul (.idx (.var 3) (.int 2)) (.int 6)) .nil (.op .add (.int 1) (.idx (.var 1) (.int 1)))) .nil)))) .nil)) .skip) (.seq (.if_ (.op .eq (.idx (.var 3) (.int 0)) (.str [101, 118, 101, 114, 121])) (.seq (.mu .append 2 (.cons (.op .add (.op .add (.slc (.var 3) .nil (.int 3)) (.tup (.cons (.op .add (.int 1) (.idx (.var 1) (.int 1))) .nil))) (.slc (.var 3) (.int 4) .nil)) .nil)) .skip) (.seq (.mu .append 2 (.cons (.var 3) .nil)) .skip)) .skip)) .skip)
abbrev fo__law_wider_1 : E.S := (.for_ [2] [3] true (.idx (.var 0) (.int 2)) lb__law_wider_1)
def b__law_wider : E.S := (.seq (.own 2 (.lst .nil)) (.seq fo__law_wider_1 (.seq (.frz 2 (.ret (.lst (.cons (.idx (.var 0) (.int 0)) (.cons (.bi .max2 (.cons (.idx (.var 0) (.int 1)) (.cons (.idx (.var 1) (.int 2)) .nil))) (.cons (.var 2) .nil)))))) .skip)))
def P__law_wider : Nat → List D → Res D
  | _ => fun _ => .bad
def F__law_wider : List D → Res D := run P__law_wider sub FUEL 4 b__law_wider
def S__law_spoilt : Scp := { N := ["at", "line", "many", "marks", "kind", "note", "words"], sc := defScope s__law_spoilt, raw := defScope s__law_spoilt, fns := [(25, "_law_note", 2)], hot := [], glb := [], fl := fls, xcs := [], cn := [], ics := [], gds := [], iscs := [] }
def b__law_spoilt : E.S := (.seq (.asg [5] true (.call 25 [95, 108, 97, 119, 95, 110, 111, 116, 101] (.cons (.var 0) (.cons (.var 1) .nil)))) (.seq (.asg [6] true (.mt .split (.var 5) (.cons (.str [32]) .nil))) (.seq (.if_ (.op .lt (.var 4) (.int 8)) (.seq (.ret (.idx (.lst (.cons (.op .add (.var 5) (.str [32])) (.cons (.op .add (.str [32]) (.var 5)) (.cons (.str []) (.cons (.op .add (.var 5) (.str [32, 121, 101, 115, 32, 121, 101, 115, 32, 121, 101, 115, 32, 121, 101, 115, 32, 121, 101, 115, 32, 121, 101, 115, 32, 121, 101, 115])) (.cons (.op .add (.op .add (.idx (.var 6) (.int 0)) (.str [32, 32])) (.mt .join (.str [32]) (.cons (.slc (.var 6) (.int 1) .nil) .nil))) (.cons (.op .add (.str [48]) (.var 5)) (.cons (.op .add (.bi .str (.cons (.op .add (.var 0) (.int 1)) .nil)) (.slc (.var 5) (.bi .len (.cons (.idx (.var 6) (.int 0)) .nil)) .nil)) (.cons (.mt .join (.str [32]) (.cons (.op .add (.slc (.var 6) .nil (.op .sub (.bi .len (.cons (.var 6) .nil)) (.int 1))) (.lst (.cons (.str [89, 101, 115]) .nil))) .nil)) .nil))))))))) (.var 4))) .skip) .skip) (.seq (.if_ (.op .eq (.var 4) (.int 8)) (.seq (.ret (.mt .join (.str [32]) (.cons (.op .add (.slc (.var 6) .nil (.op .sub (.bi .len (.cons (.var 6) .nil)) (.int 1))) (.lst (.cons (.bi .str (.cons (.var 2) .nil)) .nil))) .nil))) .skip) .skip) (.seq (.if_ (.op .eq (.var 4) (.int 9)) (.seq (.ret (.mt .join (.str [32]) (.cons (.op .add (.lst (.cons (.idx (.var 6) (.int 0)) (.cons (.op .add (.idx (.var 6) (.int 1)) (.str [115])) .nil))) (.slc (.var 6) (.int 2) .nil)) .nil))) .skip) .skip) (.seq (.if_ (.op .eq (.var 4) (.int 10)) (.seq (.ret (.mt .join (.str [32]) (.cons (.op .add (.op .add (.slc (.var 6) .nil (.int 2)) (.lst (.cons (.idx (.str [65, 66, 67, 68, 69, 70]) (.var 3)) .nil))) (.slc (.var 6) (.int 3) .nil)) .nil))) .skip) .skip) (.seq (.if_ (.op .eq (.var 4) (.int 11)) (.seq (.ret (.mt .join (.str [32]) (.cons (.op .add (.slc (.var 6) .nil (.op .sub (.bi .len (.cons (.var 6) .nil)) (.int 1))) (.lst (.cons (.str [48, 48]) .nil))) .nil))) .skip) .skip) (.seq (.if_ (.op .eq (.var 4) (.int 12)) (.seq (.ret (.mt .join (.str [32]) (.cons (.slc (.var 6) .nil (.int 2)) .nil))) .skip) .skip) (.seq (.if_ (.op .eq (.var 4) (.int 13)) (.seq (.ret (.mt .join (.str [32]) (.cons (.op .add (.op .add (.slc (.var 6) .nil (.int 2)) (.lst (.cons (.op .add (.idx (.var 6) (.int 2)) (.idx (.var 6) (.int 2))) .nil))) (.slc (.var 6) (.int 3) .nil)) .nil))) .skip) .skip) (.seq (.if_ (.op .eq (.var 4) (.int 14)) (.seq (.ret (.op .add (.op .add (.op .add (.op .add (.op .add (.op .add (.op .add (.idx (.var 6) (.int 0)) (.str [32, 101, 118, 101, 114, 121, 32])) (.idx (.var 6) (.int 2))) (.str [32])) (.idx (.var 6) (.int 2))) (.str [32])) (.idx (.lst (.cons (.str [48]) (.cons (.str [55]) (.cons (.str [48, 49]) (.cons (.str [45, 49]) .nil))))) (.op .mod (.var 0) (.int 4)))) (.str [32, 121, 101, 115, 32, 110, 111]))) .skip) .skip) (.seq (.ret (.op .add (.op .add (.op .add (.idx (.var 6) (.int 0)) (.str [32, 99, 111, 117, 110, 116, 32])) (.idx (.var 6) (.int 2))) (.op .mul (.str [32, 121, 101, 115]) (.idx (.lst (.cons (.int 0) (.cons (.int 7) .nil))) (.op .mod (.var 0) (.int 2)))))) .skip)))))))))))
def P__law_spoilt : Nat → List D → Res D
  | 25 => F__law_note
  | _ => fun _ => .bad
def F__law_spoilt : List D → Res D := run P__law_spoilt sub FUEL 7 b__law_spoilt
def S__law_is_refused : Scp := { N := ["string", "due", "e"], sc := defScope s__law_is_refused, raw := defScope s__law_is_refused, fns := [(16, "parse_program", 1)], hot := [(17, "_law_whole", 1)], glb := [], fl := fls, xcs := [], cn := cnL, ics := [], gds := [], iscs := [] }
abbrev fo__law_is_refused_1 : E.S := (.try_ (.seq (.expr (.call 16 [112, 97, 114, 115, 101, 95, 112, 114, 111, 103, 114, 97, 109] (.cons (.var 0) .nil))) .skip) (.hnd 2 [66, 97, 100, 76, 105, 110, 101] 2 [101] (.seq (.ret (.and (.eisi 2 0) (.and (.call 17 [95, 108, 97, 119, 95, 119, 104, 111, 108, 101] (.cons (.efld 2 2 0) .nil)) (.one (.op .eq (.efld 2 2 0) (.var 1)))))) .skip) .skip))
def b__law_is_refused : E.S := (.seq fo__law_is_refused_1 (.seq (.ret (.bl false)) .skip))
def P__law_is_refused : Nat → List D → Res D
  | 16 => F_parse_program
  | 17 => F__law_whole
  | _ => fun _ => .bad
def F__law_is_refused : List D → Res D := run P__law_is_refused sub FUEL 3 b__law_is_refused
def S_law : Scp := { N := ["script", "row", "told", "letters", "head", "notes", "string", "again", "place", "bad", "heads", "k"], sc := defScope s_law, raw := defScope s_law, fns := [(11, "format_program", 1), (16, "parse_program", 1), (18, "_law_cell", 2), (19, "_law_digits", 2), (23, "_law_program", 4), (25, "_law_note", 2), (26, "_law_wider", 2), (27, "_law_spoilt", 5), (28, "_law_is_refused", 2), (1004, "Program", 3)], hot := [], glb := [], fl := fls, xcs := [], cn := [], ics := [4], gds := [], iscs := [(4, "Program")] }
abbrev fo_law_1 : C := (.lc [11] true (.bi .rng1 (.cons (.bi .len (.cons (.idx (.var 2) (.int 2)) .nil)) .nil)) (.bl true) (.call 25 [95, 108, 97, 119, 95, 110, 111, 116, 101] (.cons (.var 11) (.cons (.idx (.idx (.var 2) (.int 2)) (.var 11)) .nil))))
def b_law : E.S := (.seq (.asg [1] true (.call 19 [95, 108, 97, 119, 95, 100, 105, 103, 105, 116, 115] (.cons (.call 18 [95, 108, 97, 119, 95, 99, 101, 108, 108] (.cons (.var 0) (.cons (.int 12) .nil))) (.cons (.lst (.cons (.int 2) (.cons (.int 6) (.cons (.int 6) (.cons (.int 16) (.cons (.int 60) (.cons (.int 8) (.cons (.int 2) .nil)))))))) .nil)))) (.seq (.asg [2] true (.call 26 [95, 108, 97, 119, 95, 119, 105, 100, 101, 114] (.cons (.call 23 [95, 108, 97, 119, 95, 112, 114, 111, 103, 114, 97, 109] (.cons (.var 0) (.cons (.int 0) (.cons (.int 8) (.cons (.op .eq (.idx (.var 1) (.int 6)) (.int 0)) .nil))))) (.cons (.var 1) .nil)))) (.seq (.asg [3] true (.idx (.var 2) (.int 0))) (.seq (.asg [4] true (.op .add (.op .add (.op .add (.str [112, 114, 111, 103, 114, 97, 109, 32]) (.var 3)) (.str [32])) (.bi .str (.cons (.idx (.var 2) (.int 1)) .nil)))) (.seq (.asg [5] true fo_law_1) (.seq (.asg [6] true (.mt .join (.str [10]) (.cons (.op .add (.lst (.cons (.var 4) .nil)) (.var 5)) .nil))) (.seq (.if_ (.op .ne (.call 11 [102, 111, 114, 109, 97, 116, 95, 112, 114, 111, 103, 114, 97, 109] (.cons (.call 1004 [80, 114, 111, 103, 114, 97, 109] (.cons (.var 3) (.cons (.idx (.var 2) (.int 1)) (.cons (.idx (.var 2) (.int 2)) .nil)))) .nil)) (.var 6)) (.seq (.ret (.bl false)) .skip) .skip) (.seq (.asg [7] true (.call 16 [112, 97, 114, 115, 101, 95, 112, 114, 111, 103, 114, 97, 109] (.cons (.var 6) .nil))) (.seq (.if_ (.or (.not (.isc 4 [80, 114, 111, 103, 114, 97, 109] (.var 7))) (.or (.op .ne (.fld 4 0 (.var 7)) (.var 3)) (.or (.op .ne (.fld 4 1 (.var 7)) (.idx (.var 2) (.int 1))) (.one (.op .ne (.fld 4 2 (.var 7)) (.bi .tuple (.cons (.idx (.var 2) (.int 2)) .nil))))))) (.seq (.ret (.bl false)) .skip) .skip) (.seq (.if_ (.op .ne (.call 11 [102, 111, 114, 109, 97, 116, 95, 112, 114, 111, 103, 114, 97, 109] (.cons (.var 7) .nil)) (.var 6)) (.seq (.ret (.bl false)) .skip) .skip) (.seq (.asg [8] true (.op .mod (.idx (.var 1) (.int 4)) (.bi .len (.cons (.var 5) .nil)))) (.seq (.asg [9] true (.call 27 [95, 108, 97, 119, 95, 115, 112, 111, 105, 108, 116] (.cons (.var 8) (.cons (.idx (.idx (.var 2) (.int 2)) (.var 8)) (.cons (.bi .len (.cons (.var 5) .nil)) (.cons (.idx (.var 2) (.int 1)) (.cons (.idx (.var 1) (.int 3)) .nil))))))) (.seq (.if_ (.not (.call 28 [95, 108, 97, 119, 95, 105, 115, 95, 114, 101, 102, 117, 115, 101, 100] (.cons (.mt .join (.str [10]) (.cons (.op .add (.op .add (.op .add (.lst (.cons (.var 4) .nil)) (.slc (.var 5) .nil (.var 8))) (.lst (.cons (.var 9) .nil))) (.slc (.var 5) (.op .add (.var 8) (.int 1)) .nil)) .nil)) (.cons (.op .add (.var 8) (.int 2)) .nil)))) (.seq (.ret (.bl false)) .skip) .skip) (.seq (.asg [10] true (.lst (.cons (.op .add (.op .add (.str [112, 114, 111, 103, 114, 97, 109, 32]) (.var 3)) (.str [32, 54])) (.cons (.op .add (.str [112, 114, 111, 103, 114, 97, 109, 32]) (.var 3)) (.cons (.op .add (.op .add (.str [112, 114, 111, 103, 114, 97, 109, 32, 32]) (.var 3)) (.str [32, 48])) (.cons (.op .add (.op .add (.str [80, 114, 111, 103, 114, 97, 109, 32]) (.var 3)) (.str [32, 48])) (.cons (.op .add (.op .add (.str [112, 114, 111, 103, 114, 97, 109, 32]) (.rev (.var 3))) (.str [97, 32, 48])) (.cons (.op .add (.op .add (.str [112, 114, 111, 103, 114, 97, 109, 32]) (.var 3)) (.str [32, 48, 48])) (.cons (.str []) (.cons (.op .add (.op .add (.str [112, 114, 111, 103, 114, 97, 109, 32]) (.var 3)) (.str [32, 49, 32])) .nil)))))))))) (.seq (.if_ (.not (.call 28 [95, 108, 97, 119, 95, 105, 115, 95, 114, 101, 102, 117, 115, 101, 100] (.cons (.mt .join (.str [10]) (.cons (.op .add (.lst (.cons (.idx (.var 10) (.idx (.var 1) (.int 5))) .nil)) (.var 5)) .nil)) (.cons (.int 1) .nil)))) (.seq (.ret (.bl false)) .skip) .skip) (.seq (.ret (.and (.call 28 [95, 108, 97, 119, 95, 105, 115, 95, 114, 101, 102, 117, 115, 101, 100] (.cons (.var 4) (.cons (.int 2) .nil))) (.one (.call 28 [95, 108, 97, 119, 95, 105, 115, 95, 114, 101, 102, 117, 115, 101, 100] (.cons (.op .add (.var 6) (.str [10])) (.cons (.op .add (.bi .len (.cons (.var 5) .nil)) (.int 2)) .nil)))))) .skip))))))))))))))))
def P_law : Nat → List D → Res D
  | 11 => F_format_program
  | 16 => F_parse_program
  | 18 => F__law_cell
  | 19 => F__law_digits
  | 23 => F__law_program
  | 25 => F__law_note
  | 26 => F__law_wider
  | 27 => F__law_spoilt
  | 28 => F__law_is_refused
  | 1004 => F_Program
  | _ => fun _ => .bad
def F_law : List D → Res D := run P_law sub FUEL 12 b_law
theorem ch__law_whole : (chkSs (hotS S__law_whole) [] b__law_whole [] (defBody s__law_whole)).isSome = true := by decide +kernel
theorem c_Program : (chkSs (iniS S_Program) [] b_Program [] ((defBody s_Program).take 4)).isSome = true := by decide +kernel
theorem cs_Program : chkSt (iniS S_Program) ["letters", "marks", "lines"] a_Program ((defBody s_Program).drop 4) = true := by decide +kernel
theorem c_frozen : (chkSs S_frozen [] b_frozen [] (defBody s_frozen)).isSome = true := by decide +kernel
theorem c_is_whole : (chkSs S_is_whole [] b_is_whole [] (defBody s_is_whole)).isSome = true := by decide +kernel
theorem c_are_letters : (chkSs S_are_letters [] b_are_letters [] (defBody s_are_letters)).isSome = true := by decide +kernel
theorem c_check_letters : (chkSs S_check_letters [] b_check_letters [] (defBody s_check_letters)).isSome = true := by decide +kernel
theorem c_plain_number : (chkSs S_plain_number [] b_plain_number [] (defBody s_plain_number)).isSome = true := by decide +kernel
theorem c_is_target : (chkSs S_is_target [] b_is_target [] (defBody s_is_target)).isSome = true := by decide +kernel
theorem c_characters_of : (chkSs S_characters_of [] b_characters_of [] (defBody s_characters_of)).isSome = true := by decide +kernel
theorem c_is_item : (chkSs S_is_item [] b_is_item [] (defBody s_is_item)).isSome = true := by decide +kernel
theorem c_is_line : (chkSs S_is_line [] b_is_line [] (defBody s_is_line)).isSome = true := by decide +kernel
theorem c_target_note : (chkSs S_target_note [] b_target_note [] (defBody s_target_note)).isSome = true := by decide +kernel
theorem c_item_note : (chkSs S_item_note [] b_item_note [] (defBody s_item_note)).isSome = true := by decide +kernel
theorem c_format_program : (chkSs S_format_program [] b_format_program [] (defBody s_format_program)).isSome = true := by decide +kernel
theorem c_read_head : (chkSs S_read_head [] b_read_head [] (defBody s_read_head)).isSome = true := by decide +kernel
theorem c_read_target : (chkSs S_read_target [] b_read_target [] (defBody s_read_target)).isSome = true := by decide +kernel
theorem c_read_word : (chkSs S_read_word [] b_read_word [] (defBody s_read_word)).isSome = true := by decide +kernel
theorem c_read_line : (chkSs S_read_line [] b_read_line [] (defBody s_read_line)).isSome = true := by decide +kernel
theorem c_parse_program : (chkSs S_parse_program [] b_parse_program [] (defBody s_parse_program)).isSome = true := by decide +kernel
theorem c__law_whole : (chkSs S__law_whole [] b__law_whole [] (defBody s__law_whole)).isSome = true := by decide +kernel
theorem c__law_cell : (chkSs S__law_cell [] b__law_cell [] (defBody s__law_cell)).isSome = true := by decide +kernel
theorem c__law_digits : (chkSs S__law_digits [] b__law_digits [] (defBody s__law_digits)).isSome = true := by decide +kernel
theorem c__law_letters : (chkSs S__law_letters [] b__law_letters [] (defBody s__law_letters)).isSome = true := by decide +kernel
theorem c__law_target : (chkSs S__law_target [] b__law_target [] (defBody s__law_target)).isSome = true := by decide +kernel
theorem c__law_line : (chkSs S__law_line [] b__law_line [] (defBody s__law_line)).isSome = true := by decide +kernel
theorem c__law_program : (chkSs S__law_program [] b__law_program [] (defBody s__law_program)).isSome = true := by decide +kernel
theorem c__law_word : (chkSs S__law_word [] b__law_word [] (defBody s__law_word)).isSome = true := by decide +kernel
theorem c__law_note : (chkSs S__law_note [] b__law_note [] (defBody s__law_note)).isSome = true := by decide +kernel
theorem c__law_wider : (chkSs S__law_wider [] b__law_wider [] (defBody s__law_wider)).isSome = true := by decide +kernel
theorem c__law_spoilt : (chkSs S__law_spoilt [] b__law_spoilt [] (defBody s__law_spoilt)).isSome = true := by decide +kernel
theorem c__law_is_refused : (chkSs S__law_is_refused [] b__law_is_refused [] (defBody s__law_is_refused)).isSome = true := by decide +kernel
theorem c_law : (chkSs S_law [] b_law [] (defBody s_law)).isSome = true := by decide +kernel
theorem sc_frozen : FnScope S_frozen.N ["value"] (defScope s_frozen) := ⟨rfl, rfl, rfl, by decide +kernel, rfl, by decide +kernel, by decide +kernel⟩
theorem sc_is_whole : FnScope S_is_whole.N ["value"] (defScope s_is_whole) := ⟨rfl, rfl, rfl, by decide +kernel, rfl, by decide +kernel, by decide +kernel⟩
theorem sc_are_letters : FnScope S_are_letters.N ["letters"] (defScope s_are_letters) := ⟨rfl, rfl, rfl, by decide +kernel, rfl, by decide +kernel, by decide +kernel⟩
theorem sc_check_letters : FnScope S_check_letters.N ["letters"] (defScope s_check_letters) := ⟨rfl, rfl, rfl, by decide +kernel, rfl, by decide +kernel, by decide +kernel⟩
theorem sc_plain_number : FnScope S_plain_number.N ["word", "digits"] (defScope s_plain_number) := ⟨rfl, rfl, rfl, by decide +kernel, rfl, by decide +kernel, by decide +kernel⟩
theorem sc_is_target : FnScope S_is_target.N ["value", "sweeps"] (defScope s_is_target) := ⟨rfl, rfl, rfl, by decide +kernel, rfl, by decide +kernel, by decide +kernel⟩
theorem sc_characters_of : FnScope S_characters_of.N ["letters", "marks"] (defScope s_characters_of) := ⟨rfl, rfl, rfl, by decide +kernel, rfl, by decide +kernel, by decide +kernel⟩
theorem sc_is_item : FnScope S_is_item.N ["shape", "item", "characters", "lines"] (defScope s_is_item) := ⟨rfl, rfl, rfl, by decide +kernel, rfl, by decide +kernel, by decide +kernel⟩
theorem sc_is_line : FnScope S_is_line.N ["line", "characters", "lines"] (defScope s_is_line) := ⟨rfl, rfl, rfl, by decide +kernel, rfl, by decide +kernel, by decide +kernel⟩
theorem sc_Program : FnScope S_Program.N ["self", "letters", "marks", "lines"] (defScope s_Program) := ⟨rfl, rfl, rfl, by decide +kernel, rfl, by decide +kernel, by decide +kernel⟩
theorem sc_target_note : FnScope S_target_note.N ["target"] (defScope s_target_note) := ⟨rfl, rfl, rfl, by decide +kernel, rfl, by decide +kernel, by decide +kernel⟩
theorem sc_item_note : FnScope S_item_note.N ["shape", "item"] (defScope s_item_note) := ⟨rfl, rfl, rfl, by decide +kernel, rfl, by decide +kernel, by decide +kernel⟩
theorem sc_format_program : FnScope S_format_program.N ["program"] (defScope s_format_program) := ⟨rfl, rfl, rfl, by decide +kernel, rfl, by decide +kernel, by decide +kernel⟩
theorem sc_read_head : FnScope S_read_head.N ["line"] (defScope s_read_head) := ⟨rfl, rfl, rfl, by decide +kernel, rfl, by decide +kernel, by decide +kernel⟩
theorem sc_read_target : FnScope S_read_target.N ["word", "lines"] (defScope s_read_target) := ⟨rfl, rfl, rfl, by decide +kernel, rfl, by decide +kernel, by decide +kernel⟩
theorem sc_read_word : FnScope S_read_word.N ["shape", "word", "characters", "lines"] (defScope s_read_word) := ⟨rfl, rfl, rfl, by decide +kernel, rfl, by decide +kernel, by decide +kernel⟩
theorem sc_read_line : FnScope S_read_line.N ["line", "at", "characters", "lines"] (defScope s_read_line) := ⟨rfl, rfl, rfl, by decide +kernel, rfl, by decide +kernel, by decide +kernel⟩
theorem sc_parse_program : FnScope S_parse_program.N ["string"] (defScope s_parse_program) := ⟨rfl, rfl, rfl, by decide +kernel, rfl, by decide +kernel, by decide +kernel⟩
theorem sc__law_whole : FnScope S__law_whole.N ["value"] (defScope s__law_whole) := ⟨rfl, rfl, rfl, by decide +kernel, rfl, by decide +kernel, by decide +kernel⟩
theorem sc__law_cell : FnScope S__law_cell.N ["script", "k"] (defScope s__law_cell) := ⟨rfl, rfl, rfl, by decide +kernel, rfl, by decide +kernel, by decide +kernel⟩
theorem sc__law_digits : FnScope S__law_digits.N ["cell", "sizes"] (defScope s__law_digits) := ⟨rfl, rfl, rfl, by decide +kernel, rfl, by decide +kernel, by decide +kernel⟩
theorem sc__law_letters : FnScope S__law_letters.N ["row"] (defScope s__law_letters) := ⟨rfl, rfl, rfl, by decide +kernel, rfl, by decide +kernel, by decide +kernel⟩
theorem sc__law_target : FnScope S__law_target.N ["digit", "at", "many", "loops"] (defScope s__law_target) := ⟨rfl, rfl, rfl, by decide +kernel, rfl, by decide +kernel, by decide +kernel⟩
theorem sc__law_line : FnScope S__law_line.N ["row", "at", "many", "characters", "loops"] (defScope s__law_line) := ⟨rfl, rfl, rfl, by decide +kernel, rfl, by decide +kernel, by decide +kernel⟩
theorem sc__law_program : FnScope S__law_program.N ["script", "at", "longest", "loops"] (defScope s__law_program) := ⟨rfl, rfl, rfl, by decide +kernel, rfl, by decide +kernel, by decide +kernel⟩
theorem sc__law_word : FnScope S__law_word.N ["target"] (defScope s__law_word) := ⟨rfl, rfl, rfl, by decide +kernel, rfl, by decide +kernel, by decide +kernel⟩
theorem sc__law_note : FnScope S__law_note.N ["at", "line"] (defScope s__law_note) := ⟨rfl, rfl, rfl, by decide +kernel, rfl, by decide +kernel, by decide +kernel⟩
theorem sc__law_wider : FnScope S__law_wider.N ["told", "row"] (defScope s__law_wider) := ⟨rfl, rfl, rfl, by decide +kernel, rfl, by decide +kernel, by decide +kernel⟩
theorem sc__law_spoilt : FnScope S__law_spoilt.N ["at", "line", "many", "marks", "kind"] (defScope s__law_spoilt) := ⟨rfl, rfl, rfl, by decide +kernel, rfl, by decide +kernel, by decide +kernel⟩
theorem sc__law_is_refused : FnScope S__law_is_refused.N ["string", "due"] (defScope s__law_is_refused) := ⟨rfl, rfl, rfl, by decide +kernel, rfl, by decide +kernel, by decide +kernel⟩
theorem sc_law : FnScope S_law.N ["script"] (defScope s_law) := ⟨rfl, rfl, rfl, by decide +kernel, rfl, by decide +kernel, by decide +kernel⟩
theorem sci_BadLetters : FnScope ["self", "letters"] ["self", "letters"] (defScope i_BadLetters) := ⟨rfl, rfl, rfl, by decide +kernel, rfl, by decide +kernel, by decide +kernel⟩
theorem sci_BadLine : FnScope ["self", "line"] ["self", "line"] (defScope i_BadLine) := ⟨rfl, rfl, rfl, by decide +kernel, rfl, by decide +kernel, by decide +kernel⟩
theorem sci_BadProgram : FnScope ["self", "index"] ["self", "index"] (defScope i_BadProgram) := ⟨rfl, rfl, rfl, by decide +kernel, rfl, by decide +kernel, by decide +kernel⟩
def TB (ca : Nat → Addr) : Tb := { ca := ca, fl := fun c => fls.getD c [], z := fun _ => True, zm := fun _ h => h, ze := fun _ _ => True, pr := [], zs := fun _ h => h }
def cas (C_ClockError C_BadLetters C_BadLine C_BadProgram C_Program : Addr) : Nat → Addr
  | 0 => C_ClockError
  | 1 => C_BadLetters
  | 2 => C_BadLine
  | 3 => C_BadProgram
  | 4 => C_Program
  | _ => C_ClockError
set_option maxHeartbeats 4000000 in
theorem all_mk {P : Program} {w : World} {K : PySem.W.Frag} {h : Heap} {mg : Str → Option Value} {fa : Addr} (X : K.In h) (G : h.Ns mainGlobals mg) (hfa : mg "law" = some (.ref fa))
    {C_ClockError : Addr}
    {C_BadLetters : Addr}
    {C_BadLine : Addr}
    {C_BadProgram : Addr}
    {C_Program : Addr}
    {nm_BadLetters q_BadLetters : Str} {N_BadLetters fi_BadLetters : Addr} {bs_BadLetters bm_BadLetters sub_BadLetters : List Value} {sn_BadLetters : List Str} {ab_BadLetters : Bool} {col_BadLetters : Option Bool} {dd_BadLetters od_BadLetters an_BadLetters : Option Addr} {m0_BadLetters m1_BadLetters m2_BadLetters m3_BadLetters m5_BadLetters : Option Value} {oc_BadLetters kV_BadLetters dc_BadLetters pm_BadLetters cd_BadLetters ct_BadLetters : Value} {sl_BadLetters : Array (Option Value)}
    {nm_BadLine q_BadLine : Str} {N_BadLine fi_BadLine : Addr} {bs_BadLine bm_BadLine sub_BadLine : List Value} {sn_BadLine : List Str} {ab_BadLine : Bool} {col_BadLine : Option Bool} {dd_BadLine od_BadLine an_BadLine : Option Addr} {m0_BadLine m1_BadLine m2_BadLine m3_BadLine m5_BadLine : Option Value} {oc_BadLine kV_BadLine dc_BadLine pm_BadLine cd_BadLine ct_BadLine : Value} {sl_BadLine : Array (Option Value)}
    {nm_BadProgram q_BadProgram : Str} {N_BadProgram fi_BadProgram : Addr} {bs_BadProgram bm_BadProgram sub_BadProgram : List Value} {sn_BadProgram : List Str} {ab_BadProgram : Bool} {col_BadProgram : Option Bool} {dd_BadProgram od_BadProgram an_BadProgram : Option Addr} {m0_BadProgram m1_BadProgram m2_BadProgram m3_BadProgram m5_BadProgram : Option Value} {oc_BadProgram kV_BadProgram dc_BadProgram pm_BadProgram cd_BadProgram ct_BadProgram : Value} {sl_BadProgram : Array (Option Value)}
    {g_SHAPES : Addr}
    {t0_ALPHABET : Tok}
    {t0_MARKS : Tok}
    {t0_MOST_STEP : Tok}
    {t0_MOST_TARGETS : Tok}
    {fi_Program : Addr} {od_Program an_Program : Option Addr} {sl_Program : Array (Option Value)} {oc_Program kV_Program dc_Program pm_Program cd_Program ct_Program : Value}
    {f_frozen : Addr} {od_frozen an_frozen : Option Addr} {sl_frozen : Array (Option Value)} {oc_frozen kV_frozen dc_frozen pm_frozen cd_frozen ct_frozen : Value}
    {f_is_whole : Addr} {od_is_whole an_is_whole : Option Addr} {sl_is_whole : Array (Option Value)} {oc_is_whole kV_is_whole dc_is_whole pm_is_whole cd_is_whole ct_is_whole : Value}
    {f_are_letters : Addr} {od_are_letters an_are_letters : Option Addr} {sl_are_letters : Array (Option Value)} {oc_are_letters kV_are_letters dc_are_letters pm_are_letters cd_are_letters ct_are_letters : Value}
    {f_check_letters : Addr} {od_check_letters an_check_letters : Option Addr} {sl_check_letters : Array (Option Value)} {oc_check_letters kV_check_letters dc_check_letters pm_check_letters cd_check_letters ct_check_letters : Value}
    {f_plain_number : Addr} {od_plain_number an_plain_number : Option Addr} {sl_plain_number : Array (Option Value)} {oc_plain_number kV_plain_number dc_plain_number pm_plain_number cd_plain_number ct_plain_number : Value}
    {f_is_target : Addr} {od_is_target an_is_target : Option Addr} {sl_is_target : Array (Option Value)} {oc_is_target kV_is_target dc_is_target pm_is_target cd_is_target ct_is_target : Value}
    {f_characters_of : Addr} {od_characters_of an_characters_of : Option Addr} {sl_characters_of : Array (Option Value)} {oc_characters_of kV_characters_of dc_characters_of pm_characters_of cd_characters_of ct_characters_of : Value}
    {f_is_item : Addr} {od_is_item an_is_item : Option Addr} {sl_is_item : Array (Option Value)} {oc_is_item kV_is_item dc_is_item pm_is_item cd_is_item ct_is_item : Value}
    {f_is_line : Addr} {od_is_line an_is_line : Option Addr} {sl_is_line : Array (Option Value)} {oc_is_line kV_is_line dc_is_line pm_is_line cd_is_line ct_is_line : Value}
    {f_target_note : Addr} {od_target_note an_target_note : Option Addr} {sl_target_note : Array (Option Value)} {oc_target_note kV_target_note dc_target_note pm_target_note cd_target_note ct_target_note : Value}
    {f_item_note : Addr} {od_item_note an_item_note : Option Addr} {sl_item_note : Array (Option Value)} {oc_item_note kV_item_note dc_item_note pm_item_note cd_item_note ct_item_note : Value}
    {f_format_program : Addr} {od_format_program an_format_program : Option Addr} {sl_format_program : Array (Option Value)} {oc_format_program kV_format_program dc_format_program pm_format_program cd_format_program ct_format_program : Value}
    {f_read_head : Addr} {od_read_head an_read_head : Option Addr} {sl_read_head : Array (Option Value)} {oc_read_head kV_read_head dc_read_head pm_read_head cd_read_head ct_read_head : Value}
    {f_read_target : Addr} {od_read_target an_read_target : Option Addr} {sl_read_target : Array (Option Value)} {oc_read_target kV_read_target dc_read_target pm_read_target cd_read_target ct_read_target : Value}
    {f_read_word : Addr} {od_read_word an_read_word : Option Addr} {sl_read_word : Array (Option Value)} {oc_read_word kV_read_word dc_read_word pm_read_word cd_read_word ct_read_word : Value}
    {f_read_line : Addr} {od_read_line an_read_line : Option Addr} {sl_read_line : Array (Option Value)} {oc_read_line kV_read_line dc_read_line pm_read_line cd_read_line ct_read_line : Value}
    {f_parse_program : Addr} {od_parse_program an_parse_program : Option Addr} {sl_parse_program : Array (Option Value)} {oc_parse_program kV_parse_program dc_parse_program pm_parse_program cd_parse_program ct_parse_program : Value}
    {f__law_whole : Addr} {od__law_whole an__law_whole : Option Addr} {sl__law_whole : Array (Option Value)} {oc__law_whole kV__law_whole dc__law_whole pm__law_whole cd__law_whole ct__law_whole : Value}
    {f__law_cell : Addr} {od__law_cell an__law_cell : Option Addr} {sl__law_cell : Array (Option Value)} {oc__law_cell kV__law_cell dc__law_cell pm__law_cell cd__law_cell ct__law_cell : Value}
    {f__law_digits : Addr} {od__law_digits an__law_digits : Option Addr} {sl__law_digits : Array (Option Value)} {oc__law_digits kV__law_digits dc__law_digits pm__law_digits cd__law_digits ct__law_digits : Value}
    {f__law_letters : Addr} {od__law_letters an__law_letters : Option Addr} {sl__law_letters : Array (Option Value)} {oc__law_letters kV__law_letters dc__law_letters pm__law_letters cd__law_letters ct__law_letters : Value}
    {f__law_target : Addr} {od__law_target an__law_target : Option Addr} {sl__law_target : Array (Option Value)} {oc__law_target kV__law_target dc__law_target pm__law_target cd__law_target ct__law_target : Value}
    {f__law_line : Addr} {od__law_line an__law_line : Option Addr} {sl__law_line : Array (Option Value)} {oc__law_line kV__law_line dc__law_line pm__law_line cd__law_line ct__law_line : Value}
    {f__law_program : Addr} {od__law_program an__law_program : Option Addr} {sl__law_program : Array (Option Value)} {oc__law_program kV__law_program dc__law_program pm__law_program cd__law_program ct__law_program : Value}
    {f__law_word : Addr} {od__law_word an__law_word : Option Addr} {sl__law_word : Array (Option Value)} {oc__law_word kV__law_word dc__law_word pm__law_word cd__law_word ct__law_word : Value}
    {f__law_note : Addr} {od__law_note an__law_note : Option Addr} {sl__law_note : Array (Option Value)} {oc__law_note kV__law_note dc__law_note pm__law_note cd__law_note ct__law_note : Value}
    {f__law_wider : Addr} {od__law_wider an__law_wider : Option Addr} {sl__law_wider : Array (Option Value)} {oc__law_wider kV__law_wider dc__law_wider pm__law_wider cd__law_wider ct__law_wider : Value}
    {f__law_spoilt : Addr} {od__law_spoilt an__law_spoilt : Option Addr} {sl__law_spoilt : Array (Option Value)} {oc__law_spoilt kV__law_spoilt dc__law_spoilt pm__law_spoilt cd__law_spoilt ct__law_spoilt : Value}
    {f__law_is_refused : Addr} {od__law_is_refused an__law_is_refused : Option Addr} {sl__law_is_refused : Array (Option Value)} {oc__law_is_refused kV__law_is_refused dc__law_is_refused pm__law_is_refused cd__law_is_refused ct__law_is_refused : Value}
    {f_law : Addr} {od_law an_law : Option Addr} {sl_law : Array (Option Value)} {oc_law kV_law dc_law pm_law cd_law ct_law : Value}
    (z_len : PySem.W.nsIn K mainGlobals "len" = some none)
    (z_int : PySem.W.nsIn K mainGlobals "int" = some none)
    (z_min : PySem.W.nsIn K mainGlobals "min" = some none)
    (z_max : PySem.W.nsIn K mainGlobals "max" = some none)
    (z_sum : PySem.W.nsIn K mainGlobals "sum" = some none)
    (z_sorted : PySem.W.nsIn K mainGlobals "sorted" = some none)
    (z_str : PySem.W.nsIn K mainGlobals "str" = some none)
    (z_tuple : PySem.W.nsIn K mainGlobals "tuple" = some none)
    (z_list : PySem.W.nsIn K mainGlobals "list" = some none)
    (z_all : PySem.W.nsIn K mainGlobals "all" = some none)
    (z_any : PySem.W.nsIn K mainGlobals "any" = some none)
    (z_range : PySem.W.nsIn K mainGlobals "range" = some none)
    (z_enumerate : PySem.W.nsIn K mainGlobals "enumerate" = some none)
    (z_zip : PySem.W.nsIn K mainGlobals "zip" = some none)
    (z_reversed : PySem.W.nsIn K mainGlobals "reversed" = some none)
    (z_abs : PySem.W.nsIn K mainGlobals "abs" = some none)
    (z_bool : PySem.W.nsIn K mainGlobals "bool" = some none)
    (z_isinstance : PySem.W.nsIn K mainGlobals "isinstance" = some none)
    (z_set : PySem.W.nsIn K mainGlobals "set" = some none)
    (z_dict : PySem.W.nsIn K mainGlobals "dict" = some none)
    (a_ClockError : PySem.W.nsIn K mainGlobals "ClockError" = some (some (.ref C_ClockError)))
    (a_BadLetters : PySem.W.nsIn K mainGlobals "BadLetters" = some (some (.ref C_BadLetters)))
    (a_BadLine : PySem.W.nsIn K mainGlobals "BadLine" = some (some (.ref C_BadLine)))
    (a_BadProgram : PySem.W.nsIn K mainGlobals "BadProgram" = some (some (.ref C_BadProgram)))
    (a_Program : PySem.W.nsIn K mainGlobals "Program" = some (some (.ref C_Program)))
    (x_BadLetters : K.lookup C_BadLetters = some (excClassObj nm_BadLetters q_BadLetters C_BadLetters N_BadLetters bs_BadLetters bm_BadLetters true sn_BadLetters sub_BadLetters ab_BadLetters col_BadLetters dd_BadLetters m0_BadLetters m1_BadLetters m2_BadLetters m3_BadLetters m5_BadLetters "ValueError.__new__"))
    (rv_BadLetters : PySem.HandSPX.refsVE bm_BadLetters = true)
    (sa_BadLetters : PySem.W.findIn K (.ref C_BadLetters) "__setattr__" = some (some (.builtin "object.__setattr__")))
    (ga_BadLetters : PySem.W.findIn K (.ref C_BadLetters) "__getattribute__" = some (some (.builtin "BaseException.__getattribute__")))
    (gg_BadLetters : PySem.W.findIn K (.ref C_BadLetters) "__getattr__" = some none)
    (cc_BadLetters : PySem.W.findIn K (.ref C_BadLetters) "__class__" = some (some (.builtin "object.__class__")))
    (mo_BadLetters : PySem.W.mroIn K C_BadLetters (.type "object") = some true)
    (kc_BadLetters : PySem.W.keepIn K (.ref C_BadLetters) = true)
    (hd_BadLetters : PySem.W.hasDictIn K C_BadLetters = true)
    (se_BadLetters : PySem.W.subIn K (.ref C_BadLetters) (.ref C_BadLetters) = some true)
    (ii_BadLetters : PySem.W.findIn K (.ref C_BadLetters) "__init__" = some (some (.ref fi_BadLetters)))
    (ti_BadLetters : PySem.W.typeIn K (.ref fi_BadLetters) = some (.type "function"))
    (li_BadLetters : K.lookup fi_BadLetters = some ⟨oc_BadLetters, od_BadLetters, .func (PySem.W.fnOf "__init__" "BadLetters.__init__" (defArgs i_BadLetters) (defBody i_BadLetters) (defScope i_BadLetters) .none kV_BadLetters dc_BadLetters pm_BadLetters an_BadLetters cd_BadLetters ct_BadLetters), sl_BadLetters⟩)
    (ci_BadLetters : PySem.W.codeIn K cd_BadLetters "BadLetters.__init__" = true)
    (ki_BadLetters : PySem.W.keepIn K (.ref fi_BadLetters) = true)
    (n_BadLetters_letters : PySem.W.findIn K (.ref C_BadLetters) "letters" = some none)
    (s_BadLetters_ClockError : PySem.W.subIn K (.ref C_BadLetters) (.ref C_ClockError) = some true)
    (s_BadLetters_BadLine : PySem.W.subIn K (.ref C_BadLetters) (.ref C_BadLine) = some false)
    (x_BadLine : K.lookup C_BadLine = some (excClassObj nm_BadLine q_BadLine C_BadLine N_BadLine bs_BadLine bm_BadLine true sn_BadLine sub_BadLine ab_BadLine col_BadLine dd_BadLine m0_BadLine m1_BadLine m2_BadLine m3_BadLine m5_BadLine "ValueError.__new__"))
    (rv_BadLine : PySem.HandSPX.refsVE bm_BadLine = true)
    (sa_BadLine : PySem.W.findIn K (.ref C_BadLine) "__setattr__" = some (some (.builtin "object.__setattr__")))
    (ga_BadLine : PySem.W.findIn K (.ref C_BadLine) "__getattribute__" = some (some (.builtin "BaseException.__getattribute__")))
    (gg_BadLine : PySem.W.findIn K (.ref C_BadLine) "__getattr__" = some none)
    (cc_BadLine : PySem.W.findIn K (.ref C_BadLine) "__class__" = some (some (.builtin "object.__class__")))
    (mo_BadLine : PySem.W.mroIn K C_BadLine (.type "object") = some true)
    (kc_BadLine : PySem.W.keepIn K (.ref C_BadLine) = true)
    (hd_BadLine : PySem.W.hasDictIn K C_BadLine = true)
    (se_BadLine : PySem.W.subIn K (.ref C_BadLine) (.ref C_BadLine) = some true)
    (ii_BadLine : PySem.W.findIn K (.ref C_BadLine) "__init__" = some (some (.ref fi_BadLine)))
    (ti_BadLine : PySem.W.typeIn K (.ref fi_BadLine) = some (.type "function"))
    (li_BadLine : K.lookup fi_BadLine = some ⟨oc_BadLine, od_BadLine, .func (PySem.W.fnOf "__init__" "BadLine.__init__" (defArgs i_BadLine) (defBody i_BadLine) (defScope i_BadLine) .none kV_BadLine dc_BadLine pm_BadLine an_BadLine cd_BadLine ct_BadLine), sl_BadLine⟩)
    (ci_BadLine : PySem.W.codeIn K cd_BadLine "BadLine.__init__" = true)
    (ki_BadLine : PySem.W.keepIn K (.ref fi_BadLine) = true)
    (n_BadLine_line : PySem.W.findIn K (.ref C_BadLine) "line" = some none)
    (s_BadLine_ClockError : PySem.W.subIn K (.ref C_BadLine) (.ref C_ClockError) = some true)
    (x_BadProgram : K.lookup C_BadProgram = some (excClassObj nm_BadProgram q_BadProgram C_BadProgram N_BadProgram bs_BadProgram bm_BadProgram true sn_BadProgram sub_BadProgram ab_BadProgram col_BadProgram dd_BadProgram m0_BadProgram m1_BadProgram m2_BadProgram m3_BadProgram m5_BadProgram "ValueError.__new__"))
    (rv_BadProgram : PySem.HandSPX.refsVE bm_BadProgram = true)
    (sa_BadProgram : PySem.W.findIn K (.ref C_BadProgram) "__setattr__" = some (some (.builtin "object.__setattr__")))
    (ga_BadProgram : PySem.W.findIn K (.ref C_BadProgram) "__getattribute__" = some (some (.builtin "BaseException.__getattribute__")))
    (gg_BadProgram : PySem.W.findIn K (.ref C_BadProgram) "__getattr__" = some none)
    (cc_BadProgram : PySem.W.findIn K (.ref C_BadProgram) "__class__" = some (some (.builtin "object.__class__")))
    (mo_BadProgram : PySem.W.mroIn K C_BadProgram (.type "object") = some true)
    (kc_BadProgram : PySem.W.keepIn K (.ref C_BadProgram) = true)
    (hd_BadProgram : PySem.W.hasDictIn K C_BadProgram = true)
    (se_BadProgram : PySem.W.subIn K (.ref C_BadProgram) (.ref C_BadProgram) = some true)
    (ii_BadProgram : PySem.W.findIn K (.ref C_BadProgram) "__init__" = some (some (.ref fi_BadProgram)))
    (ti_BadProgram : PySem.W.typeIn K (.ref fi_BadProgram) = some (.type "function"))
    (li_BadProgram : K.lookup fi_BadProgram = some ⟨oc_BadProgram, od_BadProgram, .func (PySem.W.fnOf "__init__" "BadProgram.__init__" (defArgs i_BadProgram) (defBody i_BadProgram) (defScope i_BadProgram) .none kV_BadProgram dc_BadProgram pm_BadProgram an_BadProgram cd_BadProgram ct_BadProgram), sl_BadProgram⟩)
    (ci_BadProgram : PySem.W.codeIn K cd_BadProgram "BadProgram.__init__" = true)
    (ki_BadProgram : PySem.W.keepIn K (.ref fi_BadProgram) = true)
    (n_BadProgram_index : PySem.W.findIn K (.ref C_BadProgram) "index" = some none)
    (s_BadProgram_ClockError : PySem.W.subIn K (.ref C_BadProgram) (.ref C_ClockError) = some true)
    (s_BadProgram_BadLine : PySem.W.subIn K (.ref C_BadProgram) (.ref C_BadLine) = some false)
    (be_ClockError : PySem.W.subIn K (.ref C_ClockError) (.type "BaseException") = some true)
    (ty_ClockError : PySem.W.typeIn K (.ref C_ClockError) = some (.type "type"))
    (ic_ClockError : PySem.W.isClsIn K C_ClockError = true)
    (be_BadLetters : PySem.W.subIn K (.ref C_BadLetters) (.type "BaseException") = some true)
    (ty_BadLetters : PySem.W.typeIn K (.ref C_BadLetters) = some (.type "type"))
    (ic_BadLetters : PySem.W.isClsIn K C_BadLetters = true)
    (be_BadLine : PySem.W.subIn K (.ref C_BadLine) (.type "BaseException") = some true)
    (ty_BadLine : PySem.W.typeIn K (.ref C_BadLine) = some (.type "type"))
    (ic_BadLine : PySem.W.isClsIn K C_BadLine = true)
    (be_BadProgram : PySem.W.subIn K (.ref C_BadProgram) (.type "BaseException") = some true)
    (ty_BadProgram : PySem.W.typeIn K (.ref C_BadProgram) = some (.type "type"))
    (ic_BadProgram : PySem.W.isClsIn K C_BadProgram = true)
    (sp_cls : PySem.W.specialIn K (.builtin "object.__class__") "__get__" = some (some (.builtin "getset_descriptor.__get__")))
    (tk_cls : PySem.W.takesIn K (.builtin "object.__class__") = some true)
    (a_SHAPES : PySem.W.nsIn K mainGlobals "SHAPES" = some (some (.ref g_SHAPES)))
    (d_SHAPES : He.dicW K g_SHAPES = some (He.keysIn w.params ["change", "swap", "first", "every", "count", "leads"]))
    (e_SHAPES : gdB K g_SHAPES [[99, 104, 97, 110, 103, 101], [115, 119, 97, 112], [102, 105, 114, 115, 116], [101, 118, 101, 114, 121], [99, 111, 117, 110, 116], [108, 101, 97, 100, 115]] [[99, 99, 116], [99, 99, 116], [99, 99, 116, 116], [99, 99, 110, 116, 116], [99, 115], [99, 116, 116]] = true)
    (ha_Program : PySem.W.findIn K (.ref C_Program) "__class__" = some (some (.builtin "object.__class__")))
    (hm_Program : PySem.W.mroIn K C_Program (.type "object") = some true)
    (me_Program : PySem.W.kitOne K (.ref C_Program) (.ref C_Program) = some true)
    (a_ALPHABET : PySem.W.nsIn K mainGlobals "ALPHABET" = some (some (.str "abcdefghijklmnopqrstuvwxyz" t0_ALPHABET)))
    (a_MARKS : PySem.W.nsIn K mainGlobals "MARKS" = some (some (.str "ABCDE" t0_MARKS)))
    (a_MOST_STEP : PySem.W.nsIn K mainGlobals "MOST_STEP" = some (some (.int 6 t0_MOST_STEP)))
    (a_MOST_TARGETS : PySem.W.nsIn K mainGlobals "MOST_TARGETS" = some (some (.int 6 t0_MOST_TARGETS)))
    (pg_Program : PySem.W.plainGet K C_Program Str.empty = true)
    (hd_Program : PySem.W.hasDictIn K C_Program = true)
    (po_Program : PySem.W.plainOver K C_Program = true)
    (sa_Program : PySem.W.findIn K (.ref C_Program) "__setattr__" = some (some (.builtin "object.__setattr__")))
    (mk_Program : PySem.W.makesIn K C_Program = true)
    (ii_Program : PySem.W.findIn K (.ref C_Program) "__init__" = some (some (.ref fi_Program)))
    (fn_Program : PySem.W.isFn K (.ref fi_Program) = true)
    (kc_Program : PySem.W.keepIn K (.ref C_Program) = true)
    (li_Program : K.lookup fi_Program = some ⟨oc_Program, od_Program, .func (PySem.W.fnOf "__init__" "Program.__init__" (defArgs s_Program) (defBody s_Program) (defScope s_Program) .none kV_Program dc_Program pm_Program an_Program cd_Program ct_Program), sl_Program⟩)
    (ci_Program : PySem.W.codeIn K cd_Program "Program.__init__" = true)
    (ki_Program : PySem.W.keepIn K (.ref fi_Program) = true)
    (n_Program_letters : PySem.W.findIn K (.ref C_Program) "letters" = some none)
    (n_Program_marks : PySem.W.findIn K (.ref C_Program) "marks" = some none)
    (n_Program_lines : PySem.W.findIn K (.ref C_Program) "lines" = some none)
    (a_frozen : PySem.W.nsIn K mainGlobals "frozen" = some (some (.ref f_frozen)))
    (l_frozen : K.lookup f_frozen = some ⟨oc_frozen, od_frozen, .func (PySem.W.fnOf "frozen" "frozen" (defArgs s_frozen) (defBody s_frozen) (defScope s_frozen) .none kV_frozen dc_frozen pm_frozen an_frozen cd_frozen ct_frozen), sl_frozen⟩)
    (cd_frozen_ : PySem.W.codeIn K cd_frozen "frozen" = true)
    (k_frozen : PySem.W.keepIn K (.ref f_frozen) = true)
    (a_is_whole : PySem.W.nsIn K mainGlobals "is_whole" = some (some (.ref f_is_whole)))
    (l_is_whole : K.lookup f_is_whole = some ⟨oc_is_whole, od_is_whole, .func (PySem.W.fnOf "is_whole" "is_whole" (defArgs s_is_whole) (defBody s_is_whole) (defScope s_is_whole) .none kV_is_whole dc_is_whole pm_is_whole an_is_whole cd_is_whole ct_is_whole), sl_is_whole⟩)
    (cd_is_whole_ : PySem.W.codeIn K cd_is_whole "is_whole" = true)
    (k_is_whole : PySem.W.keepIn K (.ref f_is_whole) = true)
    (a_are_letters : PySem.W.nsIn K mainGlobals "are_letters" = some (some (.ref f_are_letters)))
    (l_are_letters : K.lookup f_are_letters = some ⟨oc_are_letters, od_are_letters, .func (PySem.W.fnOf "are_letters" "are_letters" (defArgs s_are_letters) (defBody s_are_letters) (defScope s_are_letters) .none kV_are_letters dc_are_letters pm_are_letters an_are_letters cd_are_letters ct_are_letters), sl_are_letters⟩)
    (cd_are_letters_ : PySem.W.codeIn K cd_are_letters "are_letters" = true)
    (k_are_letters : PySem.W.keepIn K (.ref f_are_letters) = true)
    (a_check_letters : PySem.W.nsIn K mainGlobals "check_letters" = some (some (.ref f_check_letters)))
    (l_check_letters : K.lookup f_check_letters = some ⟨oc_check_letters, od_check_letters, .func (PySem.W.fnOf "check_letters" "check_letters" (defArgs s_check_letters) (defBody s_check_letters) (defScope s_check_letters) .none kV_check_letters dc_check_letters pm_check_letters an_check_letters cd_check_letters ct_check_letters), sl_check_letters⟩)
    (cd_check_letters_ : PySem.W.codeIn K cd_check_letters "check_letters" = true)
    (k_check_letters : PySem.W.keepIn K (.ref f_check_letters) = true)
    (a_plain_number : PySem.W.nsIn K mainGlobals "plain_number" = some (some (.ref f_plain_number)))
    (l_plain_number : K.lookup f_plain_number = some ⟨oc_plain_number, od_plain_number, .func (PySem.W.fnOf "plain_number" "plain_number" (defArgs s_plain_number) (defBody s_plain_number) (defScope s_plain_number) .none kV_plain_number dc_plain_number pm_plain_number an_plain_number cd_plain_number ct_plain_number), sl_plain_number⟩)
    (cd_plain_number_ : PySem.W.codeIn K cd_plain_number "plain_number" = true)
    (k_plain_number : PySem.W.keepIn K (.ref f_plain_number) = true)
    (a_is_target : PySem.W.nsIn K mainGlobals "is_target" = some (some (.ref f_is_target)))
    (l_is_target : K.lookup f_is_target = some ⟨oc_is_target, od_is_target, .func (PySem.W.fnOf "is_target" "is_target" (defArgs s_is_target) (defBody s_is_target) (defScope s_is_target) .none kV_is_target dc_is_target pm_is_target an_is_target cd_is_target ct_is_target), sl_is_target⟩)
    (cd_is_target_ : PySem.W.codeIn K cd_is_target "is_target" = true)
    (k_is_target : PySem.W.keepIn K (.ref f_is_target) = true)
    (a_characters_of : PySem.W.nsIn K mainGlobals "characters_of" = some (some (.ref f_characters_of)))
    (l_characters_of : K.lookup f_characters_of = some ⟨oc_characters_of, od_characters_of, .func (PySem.W.fnOf "characters_of" "characters_of" (defArgs s_characters_of) (defBody s_characters_of) (defScope s_characters_of) .none kV_characters_of dc_characters_of pm_characters_of an_characters_of cd_characters_of ct_characters_of), sl_characters_of⟩)
    (cd_characters_of_ : PySem.W.codeIn K cd_characters_of "characters_of" = true)
    (k_characters_of : PySem.W.keepIn K (.ref f_characters_of) = true)
    (a_is_item : PySem.W.nsIn K mainGlobals "is_item" = some (some (.ref f_is_item)))
    (l_is_item : K.lookup f_is_item = some ⟨oc_is_item, od_is_item, .func (PySem.W.fnOf "is_item" "is_item" (defArgs s_is_item) (defBody s_is_item) (defScope s_is_item) .none kV_is_item dc_is_item pm_is_item an_is_item cd_is_item ct_is_item), sl_is_item⟩)
    (cd_is_item_ : PySem.W.codeIn K cd_is_item "is_item" = true)
    (k_is_item : PySem.W.keepIn K (.ref f_is_item) = true)
    (a_is_line : PySem.W.nsIn K mainGlobals "is_line" = some (some (.ref f_is_line)))
    (l_is_line : K.lookup f_is_line = some ⟨oc_is_line, od_is_line, .func (PySem.W.fnOf "is_line" "is_line" (defArgs s_is_line) (defBody s_is_line) (defScope s_is_line) .none kV_is_line dc_is_line pm_is_line an_is_line cd_is_line ct_is_line), sl_is_line⟩)
    (cd_is_line_ : PySem.W.codeIn K cd_is_line "is_line" = true)
    (k_is_line : PySem.W.keepIn K (.ref f_is_line) = true)
    (a_target_note : PySem.W.nsIn K mainGlobals "target_note" = some (some (.ref f_target_note)))
    (l_target_note : K.lookup f_target_note = some ⟨oc_target_note, od_target_note, .func (PySem.W.fnOf "target_note" "target_note" (defArgs s_target_note) (defBody s_target_note) (defScope s_target_note) .none kV_target_note dc_target_note pm_target_note an_target_note cd_target_note ct_target_note), sl_target_note⟩)
    (cd_target_note_ : PySem.W.codeIn K cd_target_note "target_note" = true)
    (k_target_note : PySem.W.keepIn K (.ref f_target_note) = true)
    (a_item_note : PySem.W.nsIn K mainGlobals "item_note" = some (some (.ref f_item_note)))
    (l_item_note : K.lookup f_item_note = some ⟨oc_item_note, od_item_note, .func (PySem.W.fnOf "item_note" "item_note" (defArgs s_item_note) (defBody s_item_note) (defScope s_item_note) .none kV_item_note dc_item_note pm_item_note an_item_note cd_item_note ct_item_note), sl_item_note⟩)
    (cd_item_note_ : PySem.W.codeIn K cd_item_note "item_note" = true)
    (k_item_note : PySem.W.keepIn K (.ref f_item_note) = true)
    (a_format_program : PySem.W.nsIn K mainGlobals "format_program" = some (some (.ref f_format_program)))
    (l_format_program : K.lookup f_format_program = some ⟨oc_format_program, od_format_program, .func (PySem.W.fnOf "format_program" "format_program" (defArgs s_format_program) (defBody s_format_program) (defScope s_format_program) .none kV_format_program dc_format_program pm_format_program an_format_program cd_format_program ct_format_program), sl_format_program⟩)
    (cd_format_program_ : PySem.W.codeIn K cd_format_program "format_program" = true)
    (k_format_program : PySem.W.keepIn K (.ref f_format_program) = true)
    (a_read_head : PySem.W.nsIn K mainGlobals "read_head" = some (some (.ref f_read_head)))
    (l_read_head : K.lookup f_read_head = some ⟨oc_read_head, od_read_head, .func (PySem.W.fnOf "read_head" "read_head" (defArgs s_read_head) (defBody s_read_head) (defScope s_read_head) .none kV_read_head dc_read_head pm_read_head an_read_head cd_read_head ct_read_head), sl_read_head⟩)
    (cd_read_head_ : PySem.W.codeIn K cd_read_head "read_head" = true)
    (k_read_head : PySem.W.keepIn K (.ref f_read_head) = true)
    (a_read_target : PySem.W.nsIn K mainGlobals "read_target" = some (some (.ref f_read_target)))
    (l_read_target : K.lookup f_read_target = some ⟨oc_read_target, od_read_target, .func (PySem.W.fnOf "read_target" "read_target" (defArgs s_read_target) (defBody s_read_target) (defScope s_read_target) .none kV_read_target dc_read_target pm_read_target an_read_target cd_read_target ct_read_target), sl_read_target⟩)
    (cd_read_target_ : PySem.W.codeIn K cd_read_target "read_target" = true)
    (k_read_target : PySem.W.keepIn K (.ref f_read_target) = true)
    (a_read_word : PySem.W.nsIn K mainGlobals "read_word" = some (some (.ref f_read_word)))
    (l_read_word : K.lookup f_read_word = some ⟨oc_read_word, od_read_word, .func (PySem.W.fnOf "read_word" "read_word" (defArgs s_read_word) (defBody s_read_word) (defScope s_read_word) .none kV_read_word dc_read_word pm_read_word an_read_word cd_read_word ct_read_word), sl_read_word⟩)
    (cd_read_word_ : PySem.W.codeIn K cd_read_word "read_word" = true)
    (k_read_word : PySem.W.keepIn K (.ref f_read_word) = true)
    (a_read_line : PySem.W.nsIn K mainGlobals "read_line" = some (some (.ref f_read_line)))
    (l_read_line : K.lookup f_read_line = some ⟨oc_read_line, od_read_line, .func (PySem.W.fnOf "read_line" "read_line" (defArgs s_read_line) (defBody s_read_line) (defScope s_read_line) .none kV_read_line dc_read_line pm_read_line an_read_line cd_read_line ct_read_line), sl_read_line⟩)
    (cd_read_line_ : PySem.W.codeIn K cd_read_line "read_line" = true)
    (k_read_line : PySem.W.keepIn K (.ref f_read_line) = true)
    (a_parse_program : PySem.W.nsIn K mainGlobals "parse_program" = some (some (.ref f_parse_program)))
    (l_parse_program : K.lookup f_parse_program = some ⟨oc_parse_program, od_parse_program, .func (PySem.W.fnOf "parse_program" "parse_program" (defArgs s_parse_program) (defBody s_parse_program) (defScope s_parse_program) .none kV_parse_program dc_parse_program pm_parse_program an_parse_program cd_parse_program ct_parse_program), sl_parse_program⟩)
    (cd_parse_program_ : PySem.W.codeIn K cd_parse_program "parse_program" = true)
    (k_parse_program : PySem.W.keepIn K (.ref f_parse_program) = true)
    (a__law_whole : PySem.W.nsIn K mainGlobals "_law_whole" = some (some (.ref f__law_whole)))
    (l__law_whole : K.lookup f__law_whole = some ⟨oc__law_whole, od__law_whole, .func (PySem.W.fnOf "_law_whole" "_law_whole" (defArgs s__law_whole) (defBody s__law_whole) (defScope s__law_whole) .none kV__law_whole dc__law_whole pm__law_whole an__law_whole cd__law_whole ct__law_whole), sl__law_whole⟩)
    (cd__law_whole_ : PySem.W.codeIn K cd__law_whole "_law_whole" = true)
    (k__law_whole : PySem.W.keepIn K (.ref f__law_whole) = true)
    (a__law_cell : PySem.W.nsIn K mainGlobals "_law_cell" = some (some (.ref f__law_cell)))
    (l__law_cell : K.lookup f__law_cell = some ⟨oc__law_cell, od__law_cell, .func (PySem.W.fnOf "_law_cell" "_law_cell" (defArgs s__law_cell) (defBody s__law_cell) (defScope s__law_cell) .none kV__law_cell dc__law_cell pm__law_cell an__law_cell cd__law_cell ct__law_cell), sl__law_cell⟩)
    (cd__law_cell_ : PySem.W.codeIn K cd__law_cell "_law_cell" = true)
    (k__law_cell : PySem.W.keepIn K (.ref f__law_cell) = true)
    (a__law_digits : PySem.W.nsIn K mainGlobals "_law_digits" = some (some (.ref f__law_digits)))
    (l__law_digits : K.lookup f__law_digits = some ⟨oc__law_digits, od__law_digits, .func (PySem.W.fnOf "_law_digits" "_law_digits" (defArgs s__law_digits) (defBody s__law_digits) (defScope s__law_digits) .none kV__law_digits dc__law_digits pm__law_digits an__law_digits cd__law_digits ct__law_digits), sl__law_digits⟩)
    (cd__law_digits_ : PySem.W.codeIn K cd__law_digits "_law_digits" = true)
    (k__law_digits : PySem.W.keepIn K (.ref f__law_digits) = true)
    (a__law_letters : PySem.W.nsIn K mainGlobals "_law_letters" = some (some (.ref f__law_letters)))
    (l__law_letters : K.lookup f__law_letters = some ⟨oc__law_letters, od__law_letters, .func (PySem.W.fnOf "_law_letters" "_law_letters" (defArgs s__law_letters) (defBody s__law_letters) (defScope s__law_letters) .none kV__law_letters dc__law_letters pm__law_letters an__law_letters cd__law_letters ct__law_letters), sl__law_letters⟩)
    (cd__law_letters_ : PySem.W.codeIn K cd__law_letters "_law_letters" = true)
    (k__law_letters : PySem.W.keepIn K (.ref f__law_letters) = true)
    (a__law_target : PySem.W.nsIn K mainGlobals "_law_target" = some (some (.ref f__law_target)))
    (l__law_target : K.lookup f__law_target = some ⟨oc__law_target, od__law_target, .func (PySem.W.fnOf "_law_target" "_law_target" (defArgs s__law_target) (defBody s__law_target) (defScope s__law_target) .none kV__law_target dc__law_target pm__law_target an__law_target cd__law_target ct__law_target), sl__law_target⟩)
    (cd__law_target_ : PySem.W.codeIn K cd__law_target "_law_target" = true)
    (k__law_target : PySem.W.keepIn K (.ref f__law_target) = true)
    (a__law_line : PySem.W.nsIn K mainGlobals "_law_line" = some (some (.ref f__law_line)))
    (l__law_line : K.lookup f__law_line = some ⟨oc__law_line, od__law_line, .func (PySem.W.fnOf "_law_line" "_law_line" (defArgs s__law_line) (defBody s__law_line) (defScope s__law_line) .none kV__law_line dc__law_line pm__law_line an__law_line cd__law_line ct__law_line), sl__law_line⟩)
    (cd__law_line_ : PySem.W.codeIn K cd__law_line "_law_line" = true)
    (k__law_line : PySem.W.keepIn K (.ref f__law_line) = true)
    (a__law_program : PySem.W.nsIn K mainGlobals "_law_program" = some (some (.ref f__law_program)))
    (l__law_program : K.lookup f__law_program = some ⟨oc__law_program, od__law_program, .func (PySem.W.fnOf "_law_program" "_law_program" (defArgs s__law_program) (defBody s__law_program) (defScope s__law_program) .none kV__law_program dc__law_program pm__law_program an__law_program cd__law_program ct__law_program), sl__law_program⟩)
    (cd__law_program_ : PySem.W.codeIn K cd__law_program "_law_program" = true)
    (k__law_program : PySem.W.keepIn K (.ref f__law_program) = true)
    (a__law_word : PySem.W.nsIn K mainGlobals "_law_word" = some (some (.ref f__law_word)))
    (l__law_word : K.lookup f__law_word = some ⟨oc__law_word, od__law_word, .func (PySem.W.fnOf "_law_word" "_law_word" (defArgs s__law_word) (defBody s__law_word) (defScope s__law_word) .none kV__law_word dc__law_word pm__law_word an__law_word cd__law_word ct__law_word), sl__law_word⟩)
    (cd__law_word_ : PySem.W.codeIn K cd__law_word "_law_word" = true)
    (k__law_word : PySem.W.keepIn K (.ref f__law_word) = true)
    (a__law_note : PySem.W.nsIn K mainGlobals "_law_note" = some (some (.ref f__law_note)))
    (l__law_note : K.lookup f__law_note = some ⟨oc__law_note, od__law_note, .func (PySem.W.fnOf "_law_note" "_law_note" (defArgs s__law_note) (defBody s__law_note) (defScope s__law_note) .none kV__law_note dc__law_note pm__law_note an__law_note cd__law_note ct__law_note), sl__law_note⟩)
    (cd__law_note_ : PySem.W.codeIn K cd__law_note "_law_note" = true)
    (k__law_note : PySem.W.keepIn K (.ref f__law_note) = true)
    (a__law_wider : PySem.W.nsIn K mainGlobals "_law_wider" = some (some (.ref f__law_wider)))
    (l__law_wider : K.lookup f__law_wider = some ⟨oc__law_wider, od__law_wider, .func (PySem.W.fnOf "_law_wider" "_law_wider" (defArgs s__law_wider) (defBody s__law_wider) (defScope s__law_wider) .none kV__law_wider dc__law_wider pm__law_wider an__law_wider cd__law_wider ct__law_wider), sl__law_wider⟩)
    (cd__law_wider_ : PySem.W.codeIn K cd__law_wider "_law_wider" = true)
    (k__law_wider : PySem.W.keepIn K (.ref f__law_wider) = true)
    (a__law_spoilt : PySem.W.nsIn K mainGlobals "_law_spoilt" = some (some (.ref f__law_spoilt)))
    (l__law_spoilt : K.lookup f__law_spoilt = some ⟨oc__law_spoilt, od__law_spoilt, .func (PySem.W.fnOf "_law_spoilt" "_law_spoilt" (defArgs s__law_spoilt) (defBody s__law_spoilt) (defScope s__law_spoilt) .none kV__law_spoilt dc__law_spoilt pm__law_spoilt an__law_spoilt cd__law_spoilt ct__law_spoilt), sl__law_spoilt⟩)
    (cd__law_spoilt_ : PySem.W.codeIn K cd__law_spoilt "_law_spoilt" = true)
    (k__law_spoilt : PySem.W.keepIn K (.ref f__law_spoilt) = true)
    (a__law_is_refused : PySem.W.nsIn K mainGlobals "_law_is_refused" = some (some (.ref f__law_is_refused)))
    (l__law_is_refused : K.lookup f__law_is_refused = some ⟨oc__law_is_refused, od__law_is_refused, .func (PySem.W.fnOf "_law_is_refused" "_law_is_refused" (defArgs s__law_is_refused) (defBody s__law_is_refused) (defScope s__law_is_refused) .none kV__law_is_refused dc__law_is_refused pm__law_is_refused an__law_is_refused cd__law_is_refused ct__law_is_refused), sl__law_is_refused⟩)
    (cd__law_is_refused_ : PySem.W.codeIn K cd__law_is_refused "_law_is_refused" = true)
    (k__law_is_refused : PySem.W.keepIn K (.ref f__law_is_refused) = true)
    (a_law : PySem.W.nsIn K mainGlobals "law" = some (some (.ref f_law)))
    (l_law : K.lookup f_law = some ⟨oc_law, od_law, .func (PySem.W.fnOf "law" "law" (defArgs s_law) (defBody s_law) (defScope s_law) .none kV_law dc_law pm_law an_law cd_law ct_law), sl_law⟩)
    (cd_law_ : PySem.W.codeIn K cd_law "law" = true)
    (k_law : PySem.W.keepIn K (.ref f_law) = true)
    (hl : ∀ ns : List Int, ns.length ≤ 63 → F_law [.scr ns] = .ok (.bl true)) : ∃ fd : FuncData, (∀ (s : Shared) (u : Value), BindsTo s fd ⟨[u], []⟩ [("script", u)]) ∧ ∀ base : Heap, K.In base → base.Ns mainGlobals mg → FnOk P w K mg base (L2N.CX P w) 10 fa fd ["script"] (spLaw K) := by
  have e := hfa.symm.trans (PySem.W.mg_of X G a_law)
  have e2 : f_law = fa := by cases e; rfl
  subst e2
  have hbi : ∀ x ∈ bnames, mg x = none := List.forall_mem_cons.mpr ⟨PySem.W.mg_none_of X G z_len, List.forall_mem_cons.mpr ⟨PySem.W.mg_none_of X G z_int, List.forall_mem_cons.mpr ⟨PySem.W.mg_none_of X G z_min, List.forall_mem_cons.mpr ⟨PySem.W.mg_none_of X G z_max, List.forall_mem_cons.mpr ⟨PySem.W.mg_none_of X G z_sum, List.forall_mem_cons.mpr ⟨PySem.W.mg_none_of X G z_sorted, List.forall_mem_cons.mpr ⟨PySem.W.mg_none_of X G z_str, List.forall_mem_cons.mpr ⟨PySem.W.mg_none_of X G z_tuple, List.forall_mem_cons.mpr ⟨PySem.W.mg_none_of X G z_list, List.forall_mem_cons.mpr ⟨PySem.W.mg_none_of X G z_all, List.forall_mem_cons.mpr ⟨PySem.W.mg_none_of X G z_any, List.forall_mem_cons.mpr ⟨PySem.W.mg_none_of X G z_range, List.forall_mem_cons.mpr ⟨PySem.W.mg_none_of X G z_enumerate, List.forall_mem_cons.mpr ⟨PySem.W.mg_none_of X G z_zip, List.forall_mem_cons.mpr ⟨PySem.W.mg_none_of X G z_reversed, List.forall_mem_cons.mpr ⟨PySem.W.mg_none_of X G z_abs, List.forall_mem_cons.mpr ⟨PySem.W.mg_none_of X G z_bool, List.forall_mem_cons.mpr ⟨PySem.W.mg_none_of X G z_isinstance, List.forall_mem_cons.mpr ⟨PySem.W.mg_none_of X G z_set, List.forall_mem_cons.mpr ⟨PySem.W.mg_none_of X G z_dict, (fun _ h => nomatch h)⟩⟩⟩⟩⟩⟩⟩⟩⟩⟩⟩⟩⟩⟩⟩⟩⟩⟩⟩⟩
  let T : Tb := TB (cas C_ClockError C_BadLetters C_BadLine C_BadProgram C_Program)
  have hfl : ∀ c fs, fls[c]? = some fs → T.fl c = fs := fun c fs q => by show fls.getD c [] = fs; rw [List.getD_eq_getElem?_getD, q]; rfl
  have hz : (∀ G, T.z G) ∧ (∀ e σ, T.ze e σ) ∧ T.pr = [] := ⟨fun _ => trivial, fun _ _ => trivial, rfl⟩
  have O_BadLetters : OexC K C_BadLetters := ⟨⟨nm_BadLetters, q_BadLetters, N_BadLetters, bs_BadLetters, bm_BadLetters, sn_BadLetters, sub_BadLetters, ab_BadLetters, col_BadLetters, dd_BadLetters, m0_BadLetters, m1_BadLetters, m2_BadLetters, m3_BadLetters, m5_BadLetters, x_BadLetters, rv_BadLetters⟩, sa_BadLetters, be_BadLetters, ty_BadLetters, kc_BadLetters⟩
  have FI_BadLetters := fun_mk (st := i_BadLetters) li_BadLetters ci_BadLetters ki_BadLetters
  have BI_BadLetters := FI_BadLetters.binds (ps := ["self", "letters"]) fun _ _ _ _ _ _ us hl => match us, hl with | [_, _], _ => rfl
  have NA_BadLetters : ∀ f ∈ [("letters" : Str)], PySem.W.findIn K (.ref C_BadLetters) f = some none := List.forall_mem_cons.mpr ⟨n_BadLetters_letters, (fun _ h => nomatch h)⟩
  have RS_BadLetters : ∀ (base : Heap) (k : Nat), 2 ≤ k → RsR P w K mg base T k "BadLetters" 1 := fun base k hk => ⟨⟨1, fi_BadLetters, _, ["self", "letters"], hk, O_BadLetters, ii_BadLetters, ti_BadLetters, init_fn (k := 0) FI_BadLetters sci_BadLetters O_BadLetters NA_BadLetters (by decide +kernel) (by decide) rfl, BI_BadLetters, PySem.W.mg_of X G a_BadLetters, by decide, (show [("letters" : Str)].Nodup by decide +kernel), (show [("letters" : Str)].length ≤ 900 by decide)⟩⟩
  have XF_BadLetters : ExcF K T 1 := ⟨⟨ga_BadLetters, gg_BadLetters, be_BadLetters, hd_BadLetters, cc_BadLetters, sp_cls, tk_cls, mo_BadLetters⟩, ⟨ga_BadLetters, gg_BadLetters, be_BadLetters, hd_BadLetters⟩, NA_BadLetters⟩
  have O_BadLine : OexC K C_BadLine := ⟨⟨nm_BadLine, q_BadLine, N_BadLine, bs_BadLine, bm_BadLine, sn_BadLine, sub_BadLine, ab_BadLine, col_BadLine, dd_BadLine, m0_BadLine, m1_BadLine, m2_BadLine, m3_BadLine, m5_BadLine, x_BadLine, rv_BadLine⟩, sa_BadLine, be_BadLine, ty_BadLine, kc_BadLine⟩
  have FI_BadLine := fun_mk (st := i_BadLine) li_BadLine ci_BadLine ki_BadLine
  have BI_BadLine := FI_BadLine.binds (ps := ["self", "line"]) fun _ _ _ _ _ _ us hl => match us, hl with | [_, _], _ => rfl
  have NA_BadLine : ∀ f ∈ [("line" : Str)], PySem.W.findIn K (.ref C_BadLine) f = some none := List.forall_mem_cons.mpr ⟨n_BadLine_line, (fun _ h => nomatch h)⟩
  have RS_BadLine : ∀ (base : Heap) (k : Nat), 2 ≤ k → RsR P w K mg base T k "BadLine" 2 := fun base k hk => ⟨⟨1, fi_BadLine, _, ["self", "line"], hk, O_BadLine, ii_BadLine, ti_BadLine, init_fn (k := 0) FI_BadLine sci_BadLine O_BadLine NA_BadLine (by decide +kernel) (by decide) rfl, BI_BadLine, PySem.W.mg_of X G a_BadLine, by decide, (show [("line" : Str)].Nodup by decide +kernel), (show [("line" : Str)].length ≤ 900 by decide)⟩⟩
  have XF_BadLine : ExcF K T 2 := ⟨⟨ga_BadLine, gg_BadLine, be_BadLine, hd_BadLine, cc_BadLine, sp_cls, tk_cls, mo_BadLine⟩, ⟨ga_BadLine, gg_BadLine, be_BadLine, hd_BadLine⟩, NA_BadLine⟩
  have O_BadProgram : OexC K C_BadProgram := ⟨⟨nm_BadProgram, q_BadProgram, N_BadProgram, bs_BadProgram, bm_BadProgram, sn_BadProgram, sub_BadProgram, ab_BadProgram, col_BadProgram, dd_BadProgram, m0_BadProgram, m1_BadProgram, m2_BadProgram, m3_BadProgram, m5_BadProgram, x_BadProgram, rv_BadProgram⟩, sa_BadProgram, be_BadProgram, ty_BadProgram, kc_BadProgram⟩
  have FI_BadProgram := fun_mk (st := i_BadProgram) li_BadProgram ci_BadProgram ki_BadProgram
  have BI_BadProgram := FI_BadProgram.binds (ps := ["self", "index"]) fun _ _ _ _ _ _ us hl => match us, hl with | [_, _], _ => rfl
  have NA_BadProgram : ∀ f ∈ [("index" : Str)], PySem.W.findIn K (.ref C_BadProgram) f = some none := List.forall_mem_cons.mpr ⟨n_BadProgram_index, (fun _ h => nomatch h)⟩
  have RS_BadProgram : ∀ (base : Heap) (k : Nat), 2 ≤ k → RsR P w K mg base T k "BadProgram" 3 := fun base k hk => ⟨⟨1, fi_BadProgram, _, ["self", "index"], hk, O_BadProgram, ii_BadProgram, ti_BadProgram, init_fn (k := 0) FI_BadProgram sci_BadProgram O_BadProgram NA_BadProgram (by decide +kernel) (by decide) rfl, BI_BadProgram, PySem.W.mg_of X G a_BadProgram, by decide, (show [("index" : Str)].Nodup by decide +kernel), (show [("index" : Str)].length ≤ 900 by decide)⟩⟩
  have XF_BadProgram : ExcF K T 3 := ⟨⟨ga_BadProgram, gg_BadProgram, be_BadProgram, hd_BadProgram, cc_BadProgram, sp_cls, tk_cls, mo_BadProgram⟩, ⟨ga_BadProgram, gg_BadProgram, be_BadProgram, hd_BadProgram⟩, NA_BadProgram⟩
  have NM_ClockError : NmR K mg T sub "ClockError" 0 := ⟨.ref C_ClockError, .ref C_ClockError, rfl, fun u h => h, by decide, .inl (PySem.W.mg_of X G a_ClockError), fun c b hb => by
      have hm : ((c, 0), b) ∈ tab := look_in hb
      simp only [tab, List.mem_cons, Prod.mk.injEq, List.not_mem_nil, or_false] at hm
      rcases hm with ⟨⟨hc, hk⟩, hb2⟩ | ⟨⟨hc, hk⟩, hb2⟩ | ⟨⟨hc, hk⟩, hb2⟩ | ⟨⟨hc, hk⟩, hb2⟩ | ⟨⟨hc, hk⟩, hb2⟩ | ⟨⟨hc, hk⟩, hb2⟩
      · subst hc hb2; exact sub_kit s_BadLetters_ClockError se_BadLetters ic_ClockError ty_ClockError be_ClockError
      · exact absurd hk (by decide)
      · subst hc hb2; exact sub_kit s_BadLine_ClockError se_BadLine ic_ClockError ty_ClockError be_ClockError
      · exact absurd hk (by decide)
      · subst hc hb2; exact sub_kit s_BadProgram_ClockError se_BadProgram ic_ClockError ty_ClockError be_ClockError
      · exact absurd hk (by decide)⟩
  have NM_BadLine : NmR K mg T sub "BadLine" 2 := ⟨.ref C_BadLine, .ref C_BadLine, rfl, fun u h => h, by decide, .inl (PySem.W.mg_of X G a_BadLine), fun c b hb => by
      have hm : ((c, 2), b) ∈ tab := look_in hb
      simp only [tab, List.mem_cons, Prod.mk.injEq, List.not_mem_nil, or_false] at hm
      rcases hm with ⟨⟨hc, hk⟩, hb2⟩ | ⟨⟨hc, hk⟩, hb2⟩ | ⟨⟨hc, hk⟩, hb2⟩ | ⟨⟨hc, hk⟩, hb2⟩ | ⟨⟨hc, hk⟩, hb2⟩ | ⟨⟨hc, hk⟩, hb2⟩
      · exact absurd hk (by decide)
      · subst hc hb2; exact sub_kit s_BadLetters_BadLine se_BadLetters ic_BadLine ty_BadLine be_BadLine
      · exact absurd hk (by decide)
      · subst hc hb2; exact sub_kit se_BadLine se_BadLine ic_BadLine ty_BadLine be_BadLine
      · exact absurd hk (by decide)
      · subst hc hb2; exact sub_kit s_BadProgram_BadLine se_BadProgram ic_BadLine ty_BadLine be_BadLine⟩
  have XF : ∀ c j b, sub c j = some b → ExcF K T c := fun c j b hb => by
      have hm : ((c, j), b) ∈ tab := look_in hb
      simp only [tab, List.mem_cons, Prod.mk.injEq, List.not_mem_nil, or_false] at hm
      rcases hm with ⟨⟨hc, hk⟩, hb2⟩ | ⟨⟨hc, hk⟩, hb2⟩ | ⟨⟨hc, hk⟩, hb2⟩ | ⟨⟨hc, hk⟩, hb2⟩ | ⟨⟨hc, hk⟩, hb2⟩ | ⟨⟨hc, hk⟩, hb2⟩
      · subst hc; exact XF_BadLetters
      · subst hc; exact XF_BadLetters
      · subst hc; exact XF_BadLine
      · subst hc; exact XF_BadLine
      · subst hc; exact XF_BadProgram
      · subst hc; exact XF_BadProgram
  have hcn : ∀ q ∈ cnL, NmR K mg T sub q.1 q.2 := List.forall_mem_cons.mpr ⟨NM_ClockError, List.forall_mem_cons.mpr ⟨NM_BadLine, (fun _ h => nomatch h)⟩⟩
  have hrs : ∀ (base : Heap) (k : Nat), 2 ≤ k → ∀ p ∈ xcsL, RsR P w K mg base T k p.1 p.2 := fun base k hk => List.forall_mem_cons.mpr ⟨RS_BadLetters base k hk, List.forall_mem_cons.mpr ⟨RS_BadLine base k hk, List.forall_mem_cons.mpr ⟨RS_BadProgram base k hk, (fun _ h => nomatch h)⟩⟩⟩
  have GD_SHAPES : GdOk K w mg "SHAPES" [[99, 104, 97, 110, 103, 101], [115, 119, 97, 112], [102, 105, 114, 115, 116], [101, 118, 101, 114, 121], [99, 111, 117, 110, 116], [108, 101, 97, 100, 115]] [[99, 99, 116], [99, 99, 116], [99, 99, 116, 116], [99, 99, 110, 116, 116], [99, 115], [99, 116, 116]] := by
      obtain ⟨es, n, kd⟩ := He.dicW_ok d_SHAPES
      exact gd_of (PySem.W.mg_of X G a_SHAPES) kd e_SHAPES
  have IC_Program : IscOk K mg (T.ca 4) "Program" := ⟨PySem.W.mg_of X G a_Program, ⟨⟨pg_Program, hd_Program, po_Program, sa_Program⟩, ha_Program, sp_cls, tk_cls, hm_Program, me_Program⟩⟩
  have GL_ALPHABET : ∃ v u, mg "ALPHABET" = some u ∧ RelV v u ∧ ∀ G, Rep T K G (.str [97, 98, 99, 100, 101, 102, 103, 104, 105, 106, 107, 108, 109, 110, 111, 112, 113, 114, 115, 116, 117, 118, 119, 120, 121, 122]) v := ⟨.str "abcdefghijklmnopqrstuvwxyz", _, PySem.W.mg_of X G a_ALPHABET, ⟨_, rfl⟩, fun G => by first | (simp only [Rep]; done) | (simp only [Rep]; rfl)⟩
  have GL_MARKS : ∃ v u, mg "MARKS" = some u ∧ RelV v u ∧ ∀ G, Rep T K G (.str [65, 66, 67, 68, 69]) v := ⟨.str "ABCDE", _, PySem.W.mg_of X G a_MARKS, ⟨_, rfl⟩, fun G => by first | (simp only [Rep]; done) | (simp only [Rep]; rfl)⟩
  have GL_MOST_STEP : ∃ v u, mg "MOST_STEP" = some u ∧ RelV v u ∧ ∀ G, Rep T K G (.int 6) v := ⟨.int 6, _, PySem.W.mg_of X G a_MOST_STEP, ⟨_, rfl⟩, fun G => by first | (simp only [Rep]; done) | (simp only [Rep]; rfl)⟩
  have GL_MOST_TARGETS : ∃ v u, mg "MOST_TARGETS" = some u ∧ RelV v u ∧ ∀ G, Rep T K G (.int 6) v := ⟨.int 6, _, PySem.W.mg_of X G a_MOST_TARGETS, ⟨_, rfl⟩, fun G => by first | (simp only [Rep]; done) | (simp only [Rep]; rfl)⟩
  have hgl : ∀ p ∈ glbs, ∃ v u, mg p.1 = some u ∧ RelV v u ∧ ∀ G, Rep T K G p.2 v := List.forall_mem_cons.mpr ⟨GL_ALPHABET, List.forall_mem_cons.mpr ⟨GL_MARKS, List.forall_mem_cons.mpr ⟨GL_MOST_STEP, List.forall_mem_cons.mpr ⟨GL_MOST_TARGETS, (fun _ h => nomatch h)⟩⟩⟩⟩
  have NA_Program : ∀ f ∈ [("letters" : Str), ("marks" : Str), ("lines" : Str)], NoAttr K C_Program f := List.forall_mem_cons.mpr ⟨n_Program_letters, List.forall_mem_cons.mpr ⟨n_Program_marks, List.forall_mem_cons.mpr ⟨n_Program_lines, (fun _ h => nomatch h)⟩⟩⟩
  have CK_Program : ClsOk K (T.ca 4) (T.fl 4) := ⟨⟨pg_Program, hd_Program, po_Program, sa_Program⟩, NA_Program, (show [("letters" : Str), ("marks" : Str), ("lines" : Str)].Nodup by decide +kernel)⟩
  have FF_frozen := fun_mk (st := s_frozen) l_frozen cd_frozen_ k_frozen
  have BB_frozen := FF_frozen.binds (ps := ["value"]) fun _ _ _ _ _ _ us hl => match us, hl with | [_], _ => rfl
  have RR_frozen_0 : ∀ (base : Heap) (k : Nat), FnR P w K mg base T F_frozen_0 k "frozen" 1 := fun base k => ⟨0, f_frozen, _, ["value"], Nat.zero_le _, fn_bad rfl, PySem.W.mg_of X G a_frozen, k_frozen, BB_frozen, by decide⟩
  have M_frozen_1 : ∀ base, MF P w K mg base T P_frozen_1 sub S_frozen 0 := fun base => ⟨hz, ⟨rfl, rfl, rfl, rfl⟩, hbi, (fun _ h => nomatch h), hfl, (fun _ h => nomatch h), (fun _ h => nomatch h), (fun _ h => nomatch h), List.forall_mem_cons.mpr ⟨(RR_frozen_0 base 0).cal, (fun _ h => nomatch h)⟩, (fun _ h => nomatch h), (fun _ h => nomatch h), (fun _ h => nomatch h), XF⟩
  have OK_frozen_1 : ∀ base, FnOk P w K mg base (L2N.CX P w) 1 f_frozen _ ["value"] (spOf T K F_frozen_1 1) := fun base => by
      obtain ⟨r, hr⟩ := Option.isSome_iff_exists.mp c_frozen
      exact def_ok (n := FUEL) (M_frozen_1 base) FF_frozen sc_frozen rfl rfl hr
  have RR_frozen_1 : ∀ (base : Heap) (k : Nat), 1 ≤ k → FnR P w K mg base T F_frozen_1 k "frozen" 1 := fun base k hk => ⟨1, f_frozen, _, ["value"], hk, OK_frozen_1 base, PySem.W.mg_of X G a_frozen, k_frozen, BB_frozen, by decide⟩
  have M_frozen_2 : ∀ base, MF P w K mg base T P_frozen_2 sub S_frozen 1 := fun base => ⟨hz, ⟨rfl, rfl, rfl, rfl⟩, hbi, (fun _ h => nomatch h), hfl, (fun _ h => nomatch h), (fun _ h => nomatch h), (fun _ h => nomatch h), List.forall_mem_cons.mpr ⟨(RR_frozen_1 base 1 (by decide)).cal, (fun _ h => nomatch h)⟩, (fun _ h => nomatch h), (fun _ h => nomatch h), (fun _ h => nomatch h), XF⟩
  have OK_frozen_2 : ∀ base, FnOk P w K mg base (L2N.CX P w) 2 f_frozen _ ["value"] (spOf T K F_frozen_2 1) := fun base => by
      obtain ⟨r, hr⟩ := Option.isSome_iff_exists.mp c_frozen
      exact def_ok (n := FUEL) (M_frozen_2 base) FF_frozen sc_frozen rfl rfl hr
  have RR_frozen_2 : ∀ (base : Heap) (k : Nat), 2 ≤ k → FnR P w K mg base T F_frozen_2 k "frozen" 1 := fun base k hk => ⟨2, f_frozen, _, ["value"], hk, OK_frozen_2 base, PySem.W.mg_of X G a_frozen, k_frozen, BB_frozen, by decide⟩
  have M_frozen_3 : ∀ base, MF P w K mg base T P_frozen_3 sub S_frozen 2 := fun base => ⟨hz, ⟨rfl, rfl, rfl, rfl⟩, hbi, (fun _ h => nomatch h), hfl, (fun _ h => nomatch h), (fun _ h => nomatch h), (fun _ h => nomatch h), List.forall_mem_cons.mpr ⟨(RR_frozen_2 base 2 (by decide)).cal, (fun _ h => nomatch h)⟩, (fun _ h => nomatch h), (fun _ h => nomatch h), (fun _ h => nomatch h), XF⟩
  have OK_frozen_3 : ∀ base, FnOk P w K mg base (L2N.CX P w) 3 f_frozen _ ["value"] (spOf T K F_frozen_3 1) := fun base => by
      obtain ⟨r, hr⟩ := Option.isSome_iff_exists.mp c_frozen
      exact def_ok (n := FUEL) (M_frozen_3 base) FF_frozen sc_frozen rfl rfl hr
  have RR_frozen_3 : ∀ (base : Heap) (k : Nat), 3 ≤ k → FnR P w K mg base T F_frozen_3 k "frozen" 1 := fun base k hk => ⟨3, f_frozen, _, ["value"], hk, OK_frozen_3 base, PySem.W.mg_of X G a_frozen, k_frozen, BB_frozen, by decide⟩
  have M_frozen_4 : ∀ base, MF P w K mg base T P_frozen_4 sub S_frozen 3 := fun base => ⟨hz, ⟨rfl, rfl, rfl, rfl⟩, hbi, (fun _ h => nomatch h), hfl, (fun _ h => nomatch h), (fun _ h => nomatch h), (fun _ h => nomatch h), List.forall_mem_cons.mpr ⟨(RR_frozen_3 base 3 (by decide)).cal, (fun _ h => nomatch h)⟩, (fun _ h => nomatch h), (fun _ h => nomatch h), (fun _ h => nomatch h), XF⟩
  have OK_frozen_4 : ∀ base, FnOk P w K mg base (L2N.CX P w) 4 f_frozen _ ["value"] (spOf T K F_frozen_4 1) := fun base => by
      obtain ⟨r, hr⟩ := Option.isSome_iff_exists.mp c_frozen
      exact def_ok (n := FUEL) (M_frozen_4 base) FF_frozen sc_frozen rfl rfl hr
  have RR_frozen_4 : ∀ (base : Heap) (k : Nat), 4 ≤ k → FnR P w K mg base T F_frozen_4 k "frozen" 1 := fun base k hk => ⟨4, f_frozen, _, ["value"], hk, OK_frozen_4 base, PySem.W.mg_of X G a_frozen, k_frozen, BB_frozen, by decide⟩
  have M_frozen_5 : ∀ base, MF P w K mg base T P_frozen_5 sub S_frozen 4 := fun base => ⟨hz, ⟨rfl, rfl, rfl, rfl⟩, hbi, (fun _ h => nomatch h), hfl, (fun _ h => nomatch h), (fun _ h => nomatch h), (fun _ h => nomatch h), List.forall_mem_cons.mpr ⟨(RR_frozen_4 base 4 (by decide)).cal, (fun _ h => nomatch h)⟩, (fun _ h => nomatch h), (fun _ h => nomatch h), (fun _ h => nomatch h), XF⟩
  have OK_frozen_5 : ∀ base, FnOk P w K mg base (L2N.CX P w) 5 f_frozen _ ["value"] (spOf T K F_frozen_5 1) := fun base => by
      obtain ⟨r, hr⟩ := Option.isSome_iff_exists.mp c_frozen
      exact def_ok (n := FUEL) (M_frozen_5 base) FF_frozen sc_frozen rfl rfl hr
  have RR_frozen_5 : ∀ (base : Heap) (k : Nat), 5 ≤ k → FnR P w K mg base T F_frozen_5 k "frozen" 1 := fun base k hk => ⟨5, f_frozen, _, ["value"], hk, OK_frozen_5 base, PySem.W.mg_of X G a_frozen, k_frozen, BB_frozen, by decide⟩
  have RR_frozen : ∀ (base : Heap) (k : Nat), 5 ≤ k → FnR P w K mg base T F_frozen k "frozen" 1 := RR_frozen_5
  have FF_is_whole := fun_mk (st := s_is_whole) l_is_whole cd_is_whole_ k_is_whole
  have BB_is_whole := FF_is_whole.binds (ps := ["value"]) fun _ _ _ _ _ _ us hl => match us, hl with | [_], _ => rfl
  have M_is_whole : ∀ base, MF P w K mg base T P_is_whole sub S_is_whole 0 := fun base => ⟨hz, ⟨rfl, rfl, rfl, rfl⟩, hbi, (fun _ h => nomatch h), hfl, (fun _ h => nomatch h), (fun _ h => nomatch h), (fun _ h => nomatch h), (fun _ h => nomatch h), (fun _ h => nomatch h), (fun _ h => nomatch h), (fun _ h => nomatch h), XF⟩
  have OK_is_whole : ∀ base, FnOk P w K mg base (L2N.CX P w) 1 f_is_whole _ ["value"] (spOf T K F_is_whole 1) := fun base => by
      obtain ⟨r, hr⟩ := Option.isSome_iff_exists.mp c_is_whole
      exact def_ok (n := FUEL) (M_is_whole base) FF_is_whole sc_is_whole rfl rfl hr
  have RR_is_whole : ∀ (base : Heap) (k : Nat), 1 ≤ k → FnR P w K mg base T F_is_whole k "is_whole" 1 := fun base k hk => ⟨1, f_is_whole, _, ["value"], hk, OK_is_whole base, PySem.W.mg_of X G a_is_whole, k_is_whole, BB_is_whole, by decide⟩
  have FF_are_letters := fun_mk (st := s_are_letters) l_are_letters cd_are_letters_ k_are_letters
  have BB_are_letters := FF_are_letters.binds (ps := ["letters"]) fun _ _ _ _ _ _ us hl => match us, hl with | [_], _ => rfl
  have M_are_letters : ∀ base, MF P w K mg base T P_are_letters sub S_are_letters 0 := fun base => ⟨hz, ⟨rfl, rfl, rfl, rfl⟩, hbi, hgl, hfl, (fun _ h => nomatch h), (fun _ h => nomatch h), (fun _ h => nomatch h), (fun _ h => nomatch h), (fun _ h => nomatch h), (fun _ h => nomatch h), (fun _ h => nomatch h), XF⟩
  have OK_are_letters : ∀ base, FnOk P w K mg base (L2N.CX P w) 1 f_are_letters _ ["letters"] (spOf T K F_are_letters 1) := fun base => by
      obtain ⟨r, hr⟩ := Option.isSome_iff_exists.mp c_are_letters
      exact def_ok (n := FUEL) (M_are_letters base) FF_are_letters sc_are_letters rfl rfl hr
  have RR_are_letters : ∀ (base : Heap) (k : Nat), 1 ≤ k → FnR P w K mg base T F_are_letters k "are_letters" 1 := fun base k hk => ⟨1, f_are_letters, _, ["letters"], hk, OK_are_letters base, PySem.W.mg_of X G a_are_letters, k_are_letters, BB_are_letters, by decide⟩
  have FF_check_letters := fun_mk (st := s_check_letters) l_check_letters cd_check_letters_ k_check_letters
  have BB_check_letters := FF_check_letters.binds (ps := ["letters"]) fun _ _ _ _ _ _ us hl => match us, hl with | [_], _ => rfl
  have M_check_letters : ∀ base, MF P w K mg base T P_check_letters sub S_check_letters 2 := fun base => ⟨hz, ⟨rfl, rfl, rfl, rfl⟩, hbi, (fun _ h => nomatch h), hfl, (fun _ h => nomatch h), (fun _ h => nomatch h), (fun _ h => nomatch h), List.forall_mem_cons.mpr ⟨(RR_are_letters base 2 (by decide)).cal, (fun _ h => nomatch h)⟩, (fun _ h => nomatch h), hrs base _ (by decide), (fun _ h => nomatch h), XF⟩
  have OK_check_letters : ∀ base, FnOk P w K mg base (L2N.CX P w) 3 f_check_letters _ ["letters"] (spOf T K F_check_letters 1) := fun base => by
      obtain ⟨r, hr⟩ := Option.isSome_iff_exists.mp c_check_letters
      exact def_ok (n := FUEL) (M_check_letters base) FF_check_letters sc_check_letters rfl rfl hr
  have RR_check_letters : ∀ (base : Heap) (k : Nat), 3 ≤ k → FnR P w K mg base T F_check_letters k "check_letters" 1 := fun base k hk => ⟨3, f_check_letters, _, ["letters"], hk, OK_check_letters base, PySem.W.mg_of X G a_check_letters, k_check_letters, BB_check_letters, by decide⟩
  have FF_plain_number := fun_mk (st := s_plain_number) l_plain_number cd_plain_number_ k_plain_number
  have BB_plain_number := FF_plain_number.binds (ps := ["word", "digits"]) fun _ _ _ _ _ _ us hl => match us, hl with | [_, _], _ => rfl
  have M_plain_number : ∀ base, MF P w K mg base T P_plain_number sub S_plain_number 0 := fun base => ⟨hz, ⟨rfl, rfl, rfl, rfl⟩, hbi, (fun _ h => nomatch h), hfl, (fun _ h => nomatch h), (fun _ h => nomatch h), (fun _ h => nomatch h), (fun _ h => nomatch h), (fun _ h => nomatch h), (fun _ h => nomatch h), (fun _ h => nomatch h), XF⟩
  have OK_plain_number : ∀ base, FnOk P w K mg base (L2N.CX P w) 1 f_plain_number _ ["word", "digits"] (spOf T K F_plain_number 2) := fun base => by
      obtain ⟨r, hr⟩ := Option.isSome_iff_exists.mp c_plain_number
      exact def_ok (n := FUEL) (M_plain_number base) FF_plain_number sc_plain_number rfl rfl hr
  have RR_plain_number : ∀ (base : Heap) (k : Nat), 1 ≤ k → FnR P w K mg base T F_plain_number k "plain_number" 2 := fun base k hk => ⟨1, f_plain_number, _, ["word", "digits"], hk, OK_plain_number base, PySem.W.mg_of X G a_plain_number, k_plain_number, BB_plain_number, by decide⟩
  have FF_is_target := fun_mk (st := s_is_target) l_is_target cd_is_target_ k_is_target
  have BB_is_target := FF_is_target.binds (ps := ["value", "sweeps"]) fun _ _ _ _ _ _ us hl => match us, hl with | [_, _], _ => rfl
  have M_is_target : ∀ base, MF P w K mg base T P_is_target sub S_is_target 1 := fun base => ⟨hz, ⟨rfl, rfl, rfl, rfl⟩, hbi, (fun _ h => nomatch h), hfl, (fun _ h => nomatch h), (fun _ h => nomatch h), (fun _ h => nomatch h), List.forall_mem_cons.mpr ⟨(RR_is_whole base 1 (by decide)).cal, (fun _ h => nomatch h)⟩, (fun _ h => nomatch h), (fun _ h => nomatch h), (fun _ h => nomatch h), XF⟩
  have OK_is_target : ∀ base, FnOk P w K mg base (L2N.CX P w) 2 f_is_target _ ["value", "sweeps"] (spOf T K F_is_target 2) := fun base => by
      obtain ⟨r, hr⟩ := Option.isSome_iff_exists.mp c_is_target
      exact def_ok (n := FUEL) (M_is_target base) FF_is_target sc_is_target rfl rfl hr
  have RR_is_target : ∀ (base : Heap) (k : Nat), 2 ≤ k → FnR P w K mg base T F_is_target k "is_target" 2 := fun base k hk => ⟨2, f_is_target, _, ["value", "sweeps"], hk, OK_is_target base, PySem.W.mg_of X G a_is_target, k_is_target, BB_is_target, by decide⟩
  have FF_characters_of := fun_mk (st := s_characters_of) l_characters_of cd_characters_of_ k_characters_of
  have BB_characters_of := FF_characters_of.binds (ps := ["letters", "marks"]) fun _ _ _ _ _ _ us hl => match us, hl with | [_, _], _ => rfl
  have M_characters_of : ∀ base, MF P w K mg base T P_characters_of sub S_characters_of 0 := fun base => ⟨hz, ⟨rfl, rfl, rfl, rfl⟩, hbi, hgl, hfl, (fun _ h => nomatch h), (fun _ h => nomatch h), (fun _ h => nomatch h), (fun _ h => nomatch h), (fun _ h => nomatch h), (fun _ h => nomatch h), (fun _ h => nomatch h), XF⟩
  have OK_characters_of : ∀ base, FnOk P w K mg base (L2N.CX P w) 1 f_characters_of _ ["letters", "marks"] (spOf T K F_characters_of 2) := fun base => by
      obtain ⟨r, hr⟩ := Option.isSome_iff_exists.mp c_characters_of
      exact def_ok (n := FUEL) (M_characters_of base) FF_characters_of sc_characters_of rfl rfl hr
  have RR_characters_of : ∀ (base : Heap) (k : Nat), 1 ≤ k → FnR P w K mg base T F_characters_of k "characters_of" 2 := fun base k hk => ⟨1, f_characters_of, _, ["letters", "marks"], hk, OK_characters_of base, PySem.W.mg_of X G a_characters_of, k_characters_of, BB_characters_of, by decide⟩
  have FF_is_item := fun_mk (st := s_is_item) l_is_item cd_is_item_ k_is_item
  have BB_is_item := FF_is_item.binds (ps := ["shape", "item", "characters", "lines"]) fun _ _ _ _ _ _ us hl => match us, hl with | [_, _, _, _], _ => rfl
  have M_is_item : ∀ base, MF P w K mg base T P_is_item sub S_is_item 2 := fun base => ⟨hz, ⟨rfl, rfl, rfl, rfl⟩, hbi, hgl, hfl, (fun _ h => nomatch h), (fun _ h => nomatch h), (fun _ h => nomatch h), List.forall_mem_cons.mpr ⟨(RR_is_whole base 2 (by decide)).cal, List.forall_mem_cons.mpr ⟨(RR_is_target base 2 (by decide)).cal, (fun _ h => nomatch h)⟩⟩, (fun _ h => nomatch h), (fun _ h => nomatch h), (fun _ h => nomatch h), XF⟩
  have OK_is_item : ∀ base, FnOk P w K mg base (L2N.CX P w) 3 f_is_item _ ["shape", "item", "characters", "lines"] (spOf T K F_is_item 4) := fun base => by
      obtain ⟨r, hr⟩ := Option.isSome_iff_exists.mp c_is_item
      exact def_ok (n := FUEL) (M_is_item base) FF_is_item sc_is_item rfl rfl hr
  have RR_is_item : ∀ (base : Heap) (k : Nat), 3 ≤ k → FnR P w K mg base T F_is_item k "is_item" 4 := fun base k hk => ⟨3, f_is_item, _, ["shape", "item", "characters", "lines"], hk, OK_is_item base, PySem.W.mg_of X G a_is_item, k_is_item, BB_is_item, by decide⟩
  have FF_is_line := fun_mk (st := s_is_line) l_is_line cd_is_line_ k_is_line
  have BB_is_line := FF_is_line.binds (ps := ["line", "characters", "lines"]) fun _ _ _ _ _ _ us hl => match us, hl with | [_, _, _], _ => rfl
  have M_is_line : ∀ base, MF P w K mg base T P_is_line sub S_is_line 3 := fun base => ⟨hz, ⟨rfl, rfl, rfl, rfl⟩, hbi, (fun _ h => nomatch h), hfl, (fun _ h => nomatch h), List.forall_mem_cons.mpr ⟨GD_SHAPES, (fun _ h => nomatch h)⟩, (fun _ h => nomatch h), List.forall_mem_cons.mpr ⟨(RR_is_item base 3 (by decide)).cal, (fun _ h => nomatch h)⟩, (fun _ h => nomatch h), (fun _ h => nomatch h), (fun _ h => nomatch h), XF⟩
  have OK_is_line : ∀ base, FnOk P w K mg base (L2N.CX P w) 4 f_is_line _ ["line", "characters", "lines"] (spOf T K F_is_line 3) := fun base => by
      obtain ⟨r, hr⟩ := Option.isSome_iff_exists.mp c_is_line
      exact def_ok (n := FUEL) (M_is_line base) FF_is_line sc_is_line rfl rfl hr
  have RR_is_line : ∀ (base : Heap) (k : Nat), 4 ≤ k → FnR P w K mg base T F_is_line k "is_line" 3 := fun base k hk => ⟨4, f_is_line, _, ["line", "characters", "lines"], hk, OK_is_line base, PySem.W.mg_of X G a_is_line, k_is_line, BB_is_line, by decide⟩
  have FI_Program := fun_mk (st := s_Program) li_Program ci_Program ki_Program
  have BB_Program := FI_Program.binds (ps := ["self", "letters", "marks", "lines"]) fun _ _ _ _ _ _ us hl => match us, hl with | [_, _, _, _], _ => rfl
  have M_Program : ∀ base, MF P w K mg base T P_Program sub S_Program 5 := fun base => ⟨hz, ⟨rfl, rfl, rfl, rfl⟩, hbi, (fun _ h => nomatch h), hfl, (fun _ h => nomatch h), (fun _ h => nomatch h), (fun _ h => nomatch h), List.forall_mem_cons.mpr ⟨(RR_frozen base 5 (by decide)).cal, List.forall_mem_cons.mpr ⟨(RR_check_letters base 5 (by decide)).cal, List.forall_mem_cons.mpr ⟨(RR_characters_of base 5 (by decide)).cal, List.forall_mem_cons.mpr ⟨(RR_is_line base 5 (by decide)).cal, (fun _ h => nomatch h)⟩⟩⟩⟩, (fun _ h => nomatch h), hrs base _ (by decide), (fun _ h => nomatch h), XF⟩
  have OK_Program : ∀ base, FnOk P w K mg base (L2N.CX P w) 6 fi_Program _ ["self", "letters", "marks", "lines"] (spI T K C_Program F_Program 3) := fun base => by
      obtain ⟨r, hr⟩ := Option.isSome_iff_exists.mp c_Program
      exact initI_ok (n := FUEL) (c := 4) (M_Program base) FI_Program sc_Program rfl rfl rfl (List.take_append_drop 4 _).symm hr cs_Program CK_Program (show [("letters" : Str), ("marks" : Str), ("lines" : Str)].length ≤ 900 by decide)
  have RR_Program : ∀ (base : Heap) (k : Nat), 7 ≤ k → MkR P w K mg base T F_Program k "Program" 3 := fun base k hk => ⟨6, C_Program, fi_Program, _, ["self", "letters", "marks", "lines"], hk, ⟨mk_Program, ii_Program, fn_Program, kc_Program⟩, OK_Program base, PySem.W.mg_of X G a_Program, BB_Program, by decide, by decide⟩
  have FF_target_note := fun_mk (st := s_target_note) l_target_note cd_target_note_ k_target_note
  have BB_target_note := FF_target_note.binds (ps := ["target"]) fun _ _ _ _ _ _ us hl => match us, hl with | [_], _ => rfl
  have M_target_note : ∀ base, MF P w K mg base T P_target_note sub S_target_note 0 := fun base => ⟨hz, ⟨rfl, rfl, rfl, rfl⟩, hbi, (fun _ h => nomatch h), hfl, (fun _ h => nomatch h), (fun _ h => nomatch h), (fun _ h => nomatch h), (fun _ h => nomatch h), (fun _ h => nomatch h), (fun _ h => nomatch h), (fun _ h => nomatch h), XF⟩
  have OK_target_note : ∀ base, FnOk P w K mg base (L2N.CX P w) 1 f_target_note _ ["target"] (spOf T K F_target_note 1) := fun base => by
      obtain ⟨r, hr⟩ := Option.isSome_iff_exists.mp c_target_note
      exact def_ok (n := FUEL) (M_target_note base) FF_target_note sc_target_note rfl rfl hr
  have RR_target_note : ∀ (base : Heap) (k : Nat), 1 ≤ k → FnR P w K mg base T F_target_note k "target_note" 1 := fun base k hk => ⟨1, f_target_note, _, ["target"], hk, OK_target_note base, PySem.W.mg_of X G a_target_note, k_target_note, BB_target_note, by decide⟩
  have FF_item_note := fun_mk (st := s_item_note) l_item_note cd_item_note_ k_item_note
  have BB_item_note := FF_item_note.binds (ps := ["shape", "item"]) fun _ _ _ _ _ _ us hl => match us, hl with | [_, _], _ => rfl
  have M_item_note : ∀ base, MF P w K mg base T P_item_note sub S_item_note 1 := fun base => ⟨hz, ⟨rfl, rfl, rfl, rfl⟩, hbi, (fun _ h => nomatch h), hfl, (fun _ h => nomatch h), (fun _ h => nomatch h), (fun _ h => nomatch h), List.forall_mem_cons.mpr ⟨(RR_target_note base 1 (by decide)).cal, (fun _ h => nomatch h)⟩, (fun _ h => nomatch h), (fun _ h => nomatch h), (fun _ h => nomatch h), XF⟩
  have OK_item_note : ∀ base, FnOk P w K mg base (L2N.CX P w) 2 f_item_note _ ["shape", "item"] (spOf T K F_item_note 2) := fun base => by
      obtain ⟨r, hr⟩ := Option.isSome_iff_exists.mp c_item_note
      exact def_ok (n := FUEL) (M_item_note base) FF_item_note sc_item_note rfl rfl hr
  have RR_item_note : ∀ (base : Heap) (k : Nat), 2 ≤ k → FnR P w K mg base T F_item_note k "item_note" 2 := fun base k hk => ⟨2, f_item_note, _, ["shape", "item"], hk, OK_item_note base, PySem.W.mg_of X G a_item_note, k_item_note, BB_item_note, by decide⟩
  have FF_format_program := fun_mk (st := s_format_program) l_format_program cd_format_program_ k_format_program
  have BB_format_program := FF_format_program.binds (ps := ["program"]) fun _ _ _ _ _ _ us hl => match us, hl with | [_], _ => rfl
  have M_format_program : ∀ base, MF P w K mg base T P_format_program sub S_format_program 2 := fun base => ⟨hz, ⟨rfl, rfl, rfl, rfl⟩, hbi, (fun _ h => nomatch h), hfl, List.forall_mem_cons.mpr ⟨CK_Program, (fun _ h => nomatch h)⟩, List.forall_mem_cons.mpr ⟨GD_SHAPES, (fun _ h => nomatch h)⟩, (fun _ h => nomatch h), List.forall_mem_cons.mpr ⟨(RR_item_note base 2 (by decide)).cal, (fun _ h => nomatch h)⟩, (fun _ h => nomatch h), (fun _ h => nomatch h), (fun _ h => nomatch h), XF⟩
  have OK_format_program : ∀ base, FnOk P w K mg base (L2N.CX P w) 3 f_format_program _ ["program"] (spOf T K F_format_program 1) := fun base => by
      obtain ⟨r, hr⟩ := Option.isSome_iff_exists.mp c_format_program
      exact def_ok (n := FUEL) (M_format_program base) FF_format_program sc_format_program rfl rfl hr
  have RR_format_program : ∀ (base : Heap) (k : Nat), 3 ≤ k → FnR P w K mg base T F_format_program k "format_program" 1 := fun base k hk => ⟨3, f_format_program, _, ["program"], hk, OK_format_program base, PySem.W.mg_of X G a_format_program, k_format_program, BB_format_program, by decide⟩
  have FF_read_head := fun_mk (st := s_read_head) l_read_head cd_read_head_ k_read_head
  have BB_read_head := FF_read_head.binds (ps := ["line"]) fun _ _ _ _ _ _ us hl => match us, hl with | [_], _ => rfl
  have M_read_head : ∀ base, MF P w K mg base T P_read_head sub S_read_head 1 := fun base => ⟨hz, ⟨rfl, rfl, rfl, rfl⟩, hbi, (fun _ h => nomatch h), hfl, (fun _ h => nomatch h), (fun _ h => nomatch h), (fun _ h => nomatch h), List.forall_mem_cons.mpr ⟨(RR_are_letters base 1 (by decide)).cal, (fun _ h => nomatch h)⟩, (fun _ h => nomatch h), (fun _ h => nomatch h), (fun _ h => nomatch h), XF⟩
  have OK_read_head : ∀ base, FnOk P w K mg base (L2N.CX P w) 2 f_read_head _ ["line"] (spOf T K F_read_head 1) := fun base => by
      obtain ⟨r, hr⟩ := Option.isSome_iff_exists.mp c_read_head
      exact def_ok (n := FUEL) (M_read_head base) FF_read_head sc_read_head rfl rfl hr
  have RR_read_head : ∀ (base : Heap) (k : Nat), 2 ≤ k → FnR P w K mg base T F_read_head k "read_head" 1 := fun base k hk => ⟨2, f_read_head, _, ["line"], hk, OK_read_head base, PySem.W.mg_of X G a_read_head, k_read_head, BB_read_head, by decide⟩
  have FF_read_target := fun_mk (st := s_read_target) l_read_target cd_read_target_ k_read_target
  have BB_read_target := FF_read_target.binds (ps := ["word", "lines"]) fun _ _ _ _ _ _ us hl => match us, hl with | [_, _], _ => rfl
  have M_read_target : ∀ base, MF P w K mg base T P_read_target sub S_read_target 1 := fun base => ⟨hz, ⟨rfl, rfl, rfl, rfl⟩, hbi, (fun _ h => nomatch h), hfl, (fun _ h => nomatch h), (fun _ h => nomatch h), (fun _ h => nomatch h), List.forall_mem_cons.mpr ⟨(RR_plain_number base 1 (by decide)).cal, (fun _ h => nomatch h)⟩, (fun _ h => nomatch h), (fun _ h => nomatch h), (fun _ h => nomatch h), XF⟩
  have OK_read_target : ∀ base, FnOk P w K mg base (L2N.CX P w) 2 f_read_target _ ["word", "lines"] (spOf T K F_read_target 2) := fun base => by
      obtain ⟨r, hr⟩ := Option.isSome_iff_exists.mp c_read_target
      exact def_ok (n := FUEL) (M_read_target base) FF_read_target sc_read_target rfl rfl hr
  have RR_read_target : ∀ (base : Heap) (k : Nat), 2 ≤ k → FnR P w K mg base T F_read_target k "read_target" 2 := fun base k hk => ⟨2, f_read_target, _, ["word", "lines"], hk, OK_read_target base, PySem.W.mg_of X G a_read_target, k_read_target, BB_read_target, by decide⟩
  have FF_read_word := fun_mk (st := s_read_word) l_read_word cd_read_word_ k_read_word
  have BB_read_word := FF_read_word.binds (ps := ["shape", "word", "characters", "lines"]) fun _ _ _ _ _ _ us hl => match us, hl with | [_, _, _, _], _ => rfl
  have M_read_word : ∀ base, MF P w K mg base T P_read_word sub S_read_word 2 := fun base => ⟨hz, ⟨rfl, rfl, rfl, rfl⟩, hbi, hgl, hfl, (fun _ h => nomatch h), (fun _ h => nomatch h), (fun _ h => nomatch h), List.forall_mem_cons.mpr ⟨(RR_plain_number base 2 (by decide)).cal, List.forall_mem_cons.mpr ⟨(RR_read_target base 2 (by decide)).cal, (fun _ h => nomatch h)⟩⟩, (fun _ h => nomatch h), (fun _ h => nomatch h), (fun _ h => nomatch h), XF⟩
  have OK_read_word : ∀ base, FnOk P w K mg base (L2N.CX P w) 3 f_read_word _ ["shape", "word", "characters", "lines"] (spOf T K F_read_word 4) := fun base => by
      obtain ⟨r, hr⟩ := Option.isSome_iff_exists.mp c_read_word
      exact def_ok (n := FUEL) (M_read_word base) FF_read_word sc_read_word rfl rfl hr
  have RR_read_word : ∀ (base : Heap) (k : Nat), 3 ≤ k → FnR P w K mg base T F_read_word k "read_word" 4 := fun base k hk => ⟨3, f_read_word, _, ["shape", "word", "characters", "lines"], hk, OK_read_word base, PySem.W.mg_of X G a_read_word, k_read_word, BB_read_word, by decide⟩
  have FF_read_line := fun_mk (st := s_read_line) l_read_line cd_read_line_ k_read_line
  have BB_read_line := FF_read_line.binds (ps := ["line", "at", "characters", "lines"]) fun _ _ _ _ _ _ us hl => match us, hl with | [_, _, _, _], _ => rfl
  have M_read_line : ∀ base, MF P w K mg base T P_read_line sub S_read_line 3 := fun base => ⟨hz, ⟨rfl, rfl, rfl, rfl⟩, hbi, hgl, hfl, (fun _ h => nomatch h), List.forall_mem_cons.mpr ⟨GD_SHAPES, (fun _ h => nomatch h)⟩, (fun _ h => nomatch h), List.forall_mem_cons.mpr ⟨(RR_read_word base 3 (by decide)).cal, (fun _ h => nomatch h)⟩, (fun _ h => nomatch h), (fun _ h => nomatch h), (fun _ h => nomatch h), XF⟩
  have OK_read_line : ∀ base, FnOk P w K mg base (L2N.CX P w) 4 f_read_line _ ["line", "at", "characters", "lines"] (spOf T K F_read_line 4) := fun base => by
      obtain ⟨r, hr⟩ := Option.isSome_iff_exists.mp c_read_line
      exact def_ok (n := FUEL) (M_read_line base) FF_read_line sc_read_line rfl rfl hr
  have RR_read_line : ∀ (base : Heap) (k : Nat), 4 ≤ k → FnR P w K mg base T F_read_line k "read_line" 4 := fun base k hk => ⟨4, f_read_line, _, ["line", "at", "characters", "lines"], hk, OK_read_line base, PySem.W.mg_of X G a_read_line, k_read_line, BB_read_line, by decide⟩
  have FF_parse_program := fun_mk (st := s_parse_program) l_parse_program cd_parse_program_ k_parse_program
  have BB_parse_program := FF_parse_program.binds (ps := ["string"]) fun _ _ _ _ _ _ us hl => match us, hl with | [_], _ => rfl
  have M_parse_program : ∀ base, MF P w K mg base T P_parse_program sub S_parse_program 7 := fun base => ⟨hz, ⟨rfl, rfl, rfl, rfl⟩, hbi, (fun _ h => nomatch h), hfl, (fun _ h => nomatch h), (fun _ h => nomatch h), (fun _ h => nomatch h), List.forall_mem_cons.mpr ⟨(RR_characters_of base 7 (by decide)).cal, List.forall_mem_cons.mpr ⟨(RR_read_head base 7 (by decide)).cal, List.forall_mem_cons.mpr ⟨(RR_read_line base 7 (by decide)).cal, List.forall_mem_cons.mpr ⟨(RR_Program base 7 (by decide)).cal, (fun _ h => nomatch h)⟩⟩⟩⟩, (fun _ h => nomatch h), hrs base _ (by decide), (fun _ h => nomatch h), XF⟩
  have OK_parse_program : ∀ base, FnOk P w K mg base (L2N.CX P w) 8 f_parse_program _ ["string"] (spOf T K F_parse_program 1) := fun base => by
      obtain ⟨r, hr⟩ := Option.isSome_iff_exists.mp c_parse_program
      exact def_ok (n := FUEL) (M_parse_program base) FF_parse_program sc_parse_program rfl rfl hr
  have RR_parse_program : ∀ (base : Heap) (k : Nat), 8 ≤ k → FnR P w K mg base T F_parse_program k "parse_program" 1 := fun base k hk => ⟨8, f_parse_program, _, ["string"], hk, OK_parse_program base, PySem.W.mg_of X G a_parse_program, k_parse_program, BB_parse_program, by decide⟩
  have FF__law_whole := fun_mk (st := s__law_whole) l__law_whole cd__law_whole_ k__law_whole
  have BB__law_whole := FF__law_whole.binds (ps := ["value"]) fun _ _ _ _ _ _ us hl => match us, hl with | [_], _ => rfl
  have M__law_whole : ∀ base, MF P w K mg base T P__law_whole sub S__law_whole 0 := fun base => ⟨hz, ⟨rfl, rfl, rfl, rfl⟩, hbi, (fun _ h => nomatch h), hfl, (fun _ h => nomatch h), (fun _ h => nomatch h), (fun _ h => nomatch h), (fun _ h => nomatch h), (fun _ h => nomatch h), (fun _ h => nomatch h), (fun _ h => nomatch h), XF⟩
  have OK__law_whole : ∀ base, FnOk P w K mg base (L2N.CX P w) 1 f__law_whole _ ["value"] (spOf T K F__law_whole 1) := fun base => by
      obtain ⟨r, hr⟩ := Option.isSome_iff_exists.mp c__law_whole
      exact def_ok (n := FUEL) (M__law_whole base) FF__law_whole sc__law_whole rfl rfl hr
  have RR__law_whole : ∀ (base : Heap) (k : Nat), 1 ≤ k → FnR P w K mg base T F__law_whole k "_law_whole" 1 := fun base k hk => ⟨1, f__law_whole, _, ["value"], hk, OK__law_whole base, PySem.W.mg_of X G a__law_whole, k__law_whole, BB__law_whole, by decide⟩
  have HOK__law_whole : ∀ base, L2H.FnH P w K mg base (L2N.CX P w) 1 f__law_whole _ ["value"] (spOf T K F__law_whole 1) := fun base => by
      obtain ⟨r, hr⟩ := Option.isSome_iff_exists.mp ch__law_whole
      exact def_okH (n := FUEL) (M__law_whole base) FF__law_whole sc__law_whole rfl rfl hr
  have HR__law_whole : ∀ (base : Heap) (k : Nat), 1 ≤ k → FnRH P w K mg base T F__law_whole k "_law_whole" 1 := fun base k hk => ⟨1, f__law_whole, _, ["value"], hk, HOK__law_whole base, PySem.W.mg_of X G a__law_whole, k__law_whole, BB__law_whole, by decide⟩
  have FF__law_cell := fun_mk (st := s__law_cell) l__law_cell cd__law_cell_ k__law_cell
  have BB__law_cell := FF__law_cell.binds (ps := ["script", "k"]) fun _ _ _ _ _ _ us hl => match us, hl with | [_, _], _ => rfl
  have M__law_cell : ∀ base, MF P w K mg base T P__law_cell sub S__law_cell 0 := fun base => ⟨hz, ⟨rfl, rfl, rfl, rfl⟩, hbi, (fun _ h => nomatch h), hfl, (fun _ h => nomatch h), (fun _ h => nomatch h), (fun _ h => nomatch h), (fun _ h => nomatch h), (fun _ h => nomatch h), (fun _ h => nomatch h), (fun _ h => nomatch h), XF⟩
  have OK__law_cell : ∀ base, FnOk P w K mg base (L2N.CX P w) 1 f__law_cell _ ["script", "k"] (spOf T K F__law_cell 2) := fun base => by
      obtain ⟨r, hr⟩ := Option.isSome_iff_exists.mp c__law_cell
      exact def_ok (n := FUEL) (M__law_cell base) FF__law_cell sc__law_cell rfl rfl hr
  have RR__law_cell : ∀ (base : Heap) (k : Nat), 1 ≤ k → FnR P w K mg base T F__law_cell k "_law_cell" 2 := fun base k hk => ⟨1, f__law_cell, _, ["script", "k"], hk, OK__law_cell base, PySem.W.mg_of X G a__law_cell, k__law_cell, BB__law_cell, by decide⟩
  have FF__law_digits := fun_mk (st := s__law_digits) l__law_digits cd__law_digits_ k__law_digits
  have BB__law_digits := FF__law_digits.binds (ps := ["cell", "sizes"]) fun _ _ _ _ _ _ us hl => match us, hl with | [_, _], _ => rfl
  have M__law_digits : ∀ base, MF P w K mg base T P__law_digits sub S__law_digits 0 := fun base => ⟨hz, ⟨rfl, rfl, rfl, rfl⟩, hbi, (fun _ h => nomatch h), hfl, (fun _ h => nomatch h), (fun _ h => nomatch h), (fun _ h => nomatch h), (fun _ h => nomatch h), (fun _ h => nomatch h), (fun _ h => nomatch h), (fun _ h => nomatch h), XF⟩
  have OK__law_digits : ∀ base, FnOk P w K mg base (L2N.CX P w) 1 f__law_digits _ ["cell", "sizes"] (spOf T K F__law_digits 2) := fun base => by
      obtain ⟨r, hr⟩ := Option.isSome_iff_exists.mp c__law_digits
      exact def_ok (n := FUEL) (M__law_digits base) FF__law_digits sc__law_digits rfl rfl hr
  have RR__law_digits : ∀ (base : Heap) (k : Nat), 1 ≤ k → FnR P w K mg base T F__law_digits k "_law_digits" 2 := fun base k hk => ⟨1, f__law_digits, _, ["cell", "sizes"], hk, OK__law_digits base, PySem.W.mg_of X G a__law_digits, k__law_digits, BB__law_digits, by decide⟩
  have FF__law_letters := fun_mk (st := s__law_letters) l__law_letters cd__law_letters_ k__law_letters
  have BB__law_letters := FF__law_letters.binds (ps := ["row"]) fun _ _ _ _ _ _ us hl => match us, hl with | [_], _ => rfl
  have M__law_letters : ∀ base, MF P w K mg base T P__law_letters sub S__law_letters 0 := fun base => ⟨hz, ⟨rfl, rfl, rfl, rfl⟩, hbi, (fun _ h => nomatch h), hfl, (fun _ h => nomatch h), (fun _ h => nomatch h), (fun _ h => nomatch h), (fun _ h => nomatch h), (fun _ h => nomatch h), (fun _ h => nomatch h), (fun _ h => nomatch h), XF⟩
  have OK__law_letters : ∀ base, FnOk P w K mg base (L2N.CX P w) 1 f__law_letters _ ["row"] (spOf T K F__law_letters 1) := fun base => by
      obtain ⟨r, hr⟩ := Option.isSome_iff_exists.mp c__law_letters
      exact def_ok (n := FUEL) (M__law_letters base) FF__law_letters sc__law_letters rfl rfl hr
  have RR__law_letters : ∀ (base : Heap) (k : Nat), 1 ≤ k → FnR P w K mg base T F__law_letters k "_law_letters" 1 := fun base k hk => ⟨1, f__law_letters, _, ["row"], hk, OK__law_letters base, PySem.W.mg_of X G a__law_letters, k__law_letters, BB__law_letters, by decide⟩
  have FF__law_target := fun_mk (st := s__law_target) l__law_target cd__law_target_ k__law_target
  have BB__law_target := FF__law_target.binds (ps := ["digit", "at", "many", "loops"]) fun _ _ _ _ _ _ us hl => match us, hl with | [_, _, _, _], _ => rfl
  have M__law_target : ∀ base, MF P w K mg base T P__law_target sub S__law_target 0 := fun base => ⟨hz, ⟨rfl, rfl, rfl, rfl⟩, hbi, (fun _ h => nomatch h), hfl, (fun _ h => nomatch h), (fun _ h => nomatch h), (fun _ h => nomatch h), (fun _ h => nomatch h), (fun _ h => nomatch h), (fun _ h => nomatch h), (fun _ h => nomatch h), XF⟩
  have OK__law_target : ∀ base, FnOk P w K mg base (L2N.CX P w) 1 f__law_target _ ["digit", "at", "many", "loops"] (spOf T K F__law_target 4) := fun base => by
      obtain ⟨r, hr⟩ := Option.isSome_iff_exists.mp c__law_target
      exact def_ok (n := FUEL) (M__law_target base) FF__law_target sc__law_target rfl rfl hr
  have RR__law_target : ∀ (base : Heap) (k : Nat), 1 ≤ k → FnR P w K mg base T F__law_target k "_law_target" 4 := fun base k hk => ⟨1, f__law_target, _, ["digit", "at", "many", "loops"], hk, OK__law_target base, PySem.W.mg_of X G a__law_target, k__law_target, BB__law_target, by decide⟩
  have FF__law_line := fun_mk (st := s__law_line) l__law_line cd__law_line_ k__law_line
  have BB__law_line := FF__law_line.binds (ps := ["row", "at", "many", "characters", "loops"]) fun _ _ _ _ _ _ us hl => match us, hl with | [_, _, _, _, _], _ => rfl
  have M__law_line : ∀ base, MF P w K mg base T P__law_line sub S__law_line 1 := fun base => ⟨hz, ⟨rfl, rfl, rfl, rfl⟩, hbi, (fun _ h => nomatch h), hfl, (fun _ h => nomatch h), (fun _ h => nomatch h), (fun _ h => nomatch h), List.forall_mem_cons.mpr ⟨(RR__law_target base 1 (by decide)).cal, (fun _ h => nomatch h)⟩, (fun _ h => nomatch h), (fun _ h => nomatch h), (fun _ h => nomatch h), XF⟩
  have OK__law_line : ∀ base, FnOk P w K mg base (L2N.CX P w) 2 f__law_line _ ["row", "at", "many", "characters", "loops"] (spOf T K F__law_line 5) := fun base => by
      obtain ⟨r, hr⟩ := Option.isSome_iff_exists.mp c__law_line
      exact def_ok (n := FUEL) (M__law_line base) FF__law_line sc__law_line rfl rfl hr
  have RR__law_line : ∀ (base : Heap) (k : Nat), 2 ≤ k → FnR P w K mg base T F__law_line k "_law_line" 5 := fun base k hk => ⟨2, f__law_line, _, ["row", "at", "many", "characters", "loops"], hk, OK__law_line base, PySem.W.mg_of X G a__law_line, k__law_line, BB__law_line, by decide⟩
  have FF__law_program := fun_mk (st := s__law_program) l__law_program cd__law_program_ k__law_program
  have BB__law_program := FF__law_program.binds (ps := ["script", "at", "longest", "loops"]) fun _ _ _ _ _ _ us hl => match us, hl with | [_, _, _, _], _ => rfl
  have M__law_program : ∀ base, MF P w K mg base T P__law_program sub S__law_program 2 := fun base => ⟨hz, ⟨rfl, rfl, rfl, rfl⟩, hbi, (fun _ h => nomatch h), hfl, (fun _ h => nomatch h), (fun _ h => nomatch h), (fun _ h => nomatch h), List.forall_mem_cons.mpr ⟨(RR__law_cell base 2 (by decide)).cal, List.forall_mem_cons.mpr ⟨(RR__law_digits base 2 (by decide)).cal, List.forall_mem_cons.mpr ⟨(RR__law_letters base 2 (by decide)).cal, List.forall_mem_cons.mpr ⟨(RR__law_line base 2 (by decide)).cal, (fun _ h => nomatch h)⟩⟩⟩⟩, (fun _ h => nomatch h), (fun _ h => nomatch h), (fun _ h => nomatch h), XF⟩
  have OK__law_program : ∀ base, FnOk P w K mg base (L2N.CX P w) 3 f__law_program _ ["script", "at", "longest", "loops"] (spOf T K F__law_program 4) := fun base => by
      obtain ⟨r, hr⟩ := Option.isSome_iff_exists.mp c__law_program
      exact def_ok (n := FUEL) (M__law_program base) FF__law_program sc__law_program rfl rfl hr
  have RR__law_program : ∀ (base : Heap) (k : Nat), 3 ≤ k → FnR P w K mg base T F__law_program k "_law_program" 4 := fun base k hk => ⟨3, f__law_program, _, ["script", "at", "longest", "loops"], hk, OK__law_program base, PySem.W.mg_of X G a__law_program, k__law_program, BB__law_program, by decide⟩
  have FF__law_word := fun_mk (st := s__law_word) l__law_word cd__law_word_ k__law_word
  have BB__law_word := FF__law_word.binds (ps := ["target"]) fun _ _ _ _ _ _ us hl => match us, hl with | [_], _ => rfl
  have M__law_word : ∀ base, MF P w K mg base T P__law_word sub S__law_word 0 := fun base => ⟨hz, ⟨rfl, rfl, rfl, rfl⟩, hbi, (fun _ h => nomatch h), hfl, (fun _ h => nomatch h), (fun _ h => nomatch h), (fun _ h => nomatch h), (fun _ h => nomatch h), (fun _ h => nomatch h), (fun _ h => nomatch h), (fun _ h => nomatch h), XF⟩
  have OK__law_word : ∀ base, FnOk P w K mg base (L2N.CX P w) 1 f__law_word _ ["target"] (spOf T K F__law_word 1) := fun base => by
      obtain ⟨r, hr⟩ := Option.isSome_iff_exists.mp c__law_word
      exact def_ok (n := FUEL) (M__law_word base) FF__law_word sc__law_word rfl rfl hr
  have RR__law_word : ∀ (base : Heap) (k : Nat), 1 ≤ k → FnR P w K mg base T F__law_word k "_law_word" 1 := fun base k hk => ⟨1, f__law_word, _, ["target"], hk, OK__law_word base, PySem.W.mg_of X G a__law_word, k__law_word, BB__law_word, by decide⟩
  have FF__law_note := fun_mk (st := s__law_note) l__law_note cd__law_note_ k__law_note
  have BB__law_note := FF__law_note.binds (ps := ["at", "line"]) fun _ _ _ _ _ _ us hl => match us, hl with | [_, _], _ => rfl
  have M__law_note : ∀ base, MF P w K mg base T P__law_note sub S__law_note 1 := fun base => ⟨hz, ⟨rfl, rfl, rfl, rfl⟩, hbi, (fun _ h => nomatch h), hfl, (fun _ h => nomatch h), (fun _ h => nomatch h), (fun _ h => nomatch h), List.forall_mem_cons.mpr ⟨(RR__law_word base 1 (by decide)).cal, (fun _ h => nomatch h)⟩, (fun _ h => nomatch h), (fun _ h => nomatch h), (fun _ h => nomatch h), XF⟩
  have OK__law_note : ∀ base, FnOk P w K mg base (L2N.CX P w) 2 f__law_note _ ["at", "line"] (spOf T K F__law_note 2) := fun base => by
      obtain ⟨r, hr⟩ := Option.isSome_iff_exists.mp c__law_note
      exact def_ok (n := FUEL) (M__law_note base) FF__law_note sc__law_note rfl rfl hr
  have RR__law_note : ∀ (base : Heap) (k : Nat), 2 ≤ k → FnR P w K mg base T F__law_note k "_law_note" 2 := fun base k hk => ⟨2, f__law_note, _, ["at", "line"], hk, OK__law_note base, PySem.W.mg_of X G a__law_note, k__law_note, BB__law_note, by decide⟩
  have FF__law_wider := fun_mk (st := s__law_wider) l__law_wider cd__law_wider_ k__law_wider
  have BB__law_wider := FF__law_wider.binds (ps := ["told", "row"]) fun _ _ _ _ _ _ us hl => match us, hl with | [_, _], _ => rfl
  have M__law_wider : ∀ base, MF P w K mg base T P__law_wider sub S__law_wider 0 := fun base => ⟨hz, ⟨rfl, rfl, rfl, rfl⟩, hbi, (fun _ h => nomatch h), hfl, (fun _ h => nomatch h), (fun _ h => nomatch h), (fun _ h => nomatch h), (fun _ h => nomatch h), (fun _ h => nomatch h), (fun _ h => nomatch h), (fun _ h => nomatch h), XF⟩
  have OK__law_wider : ∀ base, FnOk P w K mg base (L2N.CX P w) 1 f__law_wider _ ["told", "row"] (spOf T K F__law_wider 2) := fun base => by
      obtain ⟨r, hr⟩ := Option.isSome_iff_exists.mp c__law_wider
      exact def_ok (n := FUEL) (M__law_wider base) FF__law_wider sc__law_wider rfl rfl hr
  have RR__law_wider : ∀ (base : Heap) (k : Nat), 1 ≤ k → FnR P w K mg base T F__law_wider k "_law_wider" 2 := fun base k hk => ⟨1, f__law_wider, _, ["told", "row"], hk, OK__law_wider base, PySem.W.mg_of X G a__law_wider, k__law_wider, BB__law_wider, by decide⟩
  have FF__law_spoilt := fun_mk (st := s__law_spoilt) l__law_spoilt cd__law_spoilt_ k__law_spoilt
  have BB__law_spoilt := FF__law_spoilt.binds (ps := ["at", "line", "many", "marks", "kind"]) fun _ _ _ _ _ _ us hl => match us, hl with | [_, _, _, _, _], _ => rfl
  have M__law_spoilt : ∀ base, MF P w K mg base T P__law_spoilt sub S__law_spoilt 2 := fun base => ⟨hz, ⟨rfl, rfl, rfl, rfl⟩, hbi, (fun _ h => nomatch h), hfl, (fun _ h => nomatch h), (fun _ h => nomatch h), (fun _ h => nomatch h), List.forall_mem_cons.mpr ⟨(RR__law_note base 2 (by decide)).cal, (fun _ h => nomatch h)⟩, (fun _ h => nomatch h), (fun _ h => nomatch h), (fun _ h => nomatch h), XF⟩
  have OK__law_spoilt : ∀ base, FnOk P w K mg base (L2N.CX P w) 3 f__law_spoilt _ ["at", "line", "many", "marks", "kind"] (spOf T K F__law_spoilt 5) := fun base => by
      obtain ⟨r, hr⟩ := Option.isSome_iff_exists.mp c__law_spoilt
      exact def_ok (n := FUEL) (M__law_spoilt base) FF__law_spoilt sc__law_spoilt rfl rfl hr
  have RR__law_spoilt : ∀ (base : Heap) (k : Nat), 3 ≤ k → FnR P w K mg base T F__law_spoilt k "_law_spoilt" 5 := fun base k hk => ⟨3, f__law_spoilt, _, ["at", "line", "many", "marks", "kind"], hk, OK__law_spoilt base, PySem.W.mg_of X G a__law_spoilt, k__law_spoilt, BB__law_spoilt, by decide⟩
  have FF__law_is_refused := fun_mk (st := s__law_is_refused) l__law_is_refused cd__law_is_refused_ k__law_is_refused
  have BB__law_is_refused := FF__law_is_refused.binds (ps := ["string", "due"]) fun _ _ _ _ _ _ us hl => match us, hl with | [_, _], _ => rfl
  have M__law_is_refused : ∀ base, MF P w K mg base T P__law_is_refused sub S__law_is_refused 8 := fun base => ⟨hz, ⟨rfl, rfl, rfl, rfl⟩, hbi, (fun _ h => nomatch h), hfl, (fun _ h => nomatch h), (fun _ h => nomatch h), (fun _ h => nomatch h), List.forall_mem_cons.mpr ⟨(RR_parse_program base 8 (by decide)).cal, (fun _ h => nomatch h)⟩, List.forall_mem_cons.mpr ⟨HR__law_whole base 8 (by decide), (fun _ h => nomatch h)⟩, (fun _ h => nomatch h), hcn, XF⟩
  have OK__law_is_refused : ∀ base, FnOk P w K mg base (L2N.CX P w) 9 f__law_is_refused _ ["string", "due"] (spOf T K F__law_is_refused 2) := fun base => by
      obtain ⟨r, hr⟩ := Option.isSome_iff_exists.mp c__law_is_refused
      exact def_ok (n := FUEL) (M__law_is_refused base) FF__law_is_refused sc__law_is_refused rfl rfl hr
  have RR__law_is_refused : ∀ (base : Heap) (k : Nat), 9 ≤ k → FnR P w K mg base T F__law_is_refused k "_law_is_refused" 2 := fun base k hk => ⟨9, f__law_is_refused, _, ["string", "due"], hk, OK__law_is_refused base, PySem.W.mg_of X G a__law_is_refused, k__law_is_refused, BB__law_is_refused, by decide⟩
  have FF_law := fun_mk (st := s_law) l_law cd_law_ k_law
  have BB_law := FF_law.binds (ps := ["script"]) fun _ _ _ _ _ _ us hl => match us, hl with | [_], _ => rfl
  have M_law : ∀ base, MF P w K mg base T P_law sub S_law 9 := fun base => ⟨hz, ⟨rfl, rfl, rfl, rfl⟩, hbi, (fun _ h => nomatch h), hfl, List.forall_mem_cons.mpr ⟨CK_Program, (fun _ h => nomatch h)⟩, (fun _ h => nomatch h), List.forall_mem_cons.mpr ⟨IC_Program, (fun _ h => nomatch h)⟩, List.forall_mem_cons.mpr ⟨(RR_format_program base 9 (by decide)).cal, List.forall_mem_cons.mpr ⟨(RR_parse_program base 9 (by decide)).cal, List.forall_mem_cons.mpr ⟨(RR__law_cell base 9 (by decide)).cal, List.forall_mem_cons.mpr ⟨(RR__law_digits base 9 (by decide)).cal, List.forall_mem_cons.mpr ⟨(RR__law_program base 9 (by decide)).cal, List.forall_mem_cons.mpr ⟨(RR__law_note base 9 (by decide)).cal, List.forall_mem_cons.mpr ⟨(RR__law_wider base 9 (by decide)).cal, List.forall_mem_cons.mpr ⟨(RR__law_spoilt base 9 (by decide)).cal, List.forall_mem_cons.mpr ⟨(RR__law_is_refused base 9 (by decide)).cal, List.forall_mem_cons.mpr ⟨(RR_Program base 9 (by decide)).cal, (fun _ h => nomatch h)⟩⟩⟩⟩⟩⟩⟩⟩⟩⟩, (fun _ h => nomatch h), (fun _ h => nomatch h), (fun _ h => nomatch h), XF⟩
  have OK_law : ∀ base, FnOk P w K mg base (L2N.CX P w) 10 f_law _ ["script"] (spOf T K F_law 1) := fun base => by
      obtain ⟨r, hr⟩ := Option.isSome_iff_exists.mp c_law
      exact def_ok (n := FUEL) (M_law base) FF_law sc_law rfl rfl hr
  have RR_law : ∀ (base : Heap) (k : Nat), 10 ≤ k → FnR P w K mg base T F_law k "law" 1 := fun base k hk => ⟨10, f_law, _, ["script"], hk, OK_law base, PySem.W.mg_of X G a_law, k_law, BB_law, by decide⟩
  exact ⟨PySem.W.fnOf "law" "law" (defArgs s_law) (defBody s_law) (defScope s_law) .none kV_law dc_law pm_law an_law cd_law ct_law, fun s u => .of_eq rfl, fun base _ _ => law_ok (OK_law base) rfl hl⟩
end Lw

set_option maxRecDepth 100000
set_option autoImplicit false
set_option linter.all false
namespace Lw
open E
/-! what every law has: _law_cell, _law_digits -/
theorem cell_loop (f : D → Env → Out) (s k : D) (hf : ∀ (x seed : Int) (x3 : Option D), 0 ≤ seed → seed < 1000003 → f (.int x) [some s, some k, some (.int seed), x3] = .nx [some s, some k, some (.int ((seed * 31 + x % 1000003) % 1000003)), some (.int x)]) :
    ∀ (ns : List Int) (seed : Int) (x3 : Option D), 0 ≤ seed → seed < 1000003 → ∃ (seed' : Int) (y3 : Option D), 0 ≤ seed' ∧ seed' < 1000003 ∧ forL f (ns.map D.int) [some s, some k, some (.int seed), x3] = .nx [some s, some k, some (.int seed'), y3]
  | [], seed, x3, h1, h2 => ⟨seed, x3, h1, h2, rfl⟩
  | x :: r, seed, x3, h1, h2 => by
    obtain ⟨h3, h4⟩ := emod_b (seed * 31 + x % 1000003) (b := 1000003) (by omega)
    obtain ⟨seed', y3, a, b, c⟩ := cell_loop f s k hf r _ (some (.int x)) h3 h4
    exact ⟨seed', y3, a, b, by rw [List.map_cons, forL, hf x seed x3 h1 h2]; exact c⟩
theorem pow60 : ((10 : Int) ^ (60 : Int).toNat) = 10 ^ 60 := rfl
theorem cell_ok (ns : List Int) (hn : ns.length ≤ 63) (k : Nat) (hk : k ≤ 1000) : ∃ v : Int, 0 ≤ v ∧ F__law_cell [.scr ns, .int k] = .ok (.int v) := by
  have hbig : ((10 : Int) ^ 60).natAbs < BIG := lt_big (by omega) (by omega)
  by_cases h : k < ns.length
  · have hat : at_ ns (k : Int) = some ns[k] := by
      unfold at_ ixOf
      rw [if_pos (by omega), if_pos (by omega)]
      simp [h]
    obtain ⟨T, hT⟩ : ∃ T : Int, T = 10 ^ 60 := ⟨_, rfl⟩
    have p60 : op2 .pow (.int 10) (.int 60) = .ok (.int T) := by rw [op2_pow, if_pos ⟨by omega, by omega, by decide⟩, hT, pow60]
    have hT0 : 0 < T := by omega
    rw [← hT] at hbig
    have hTT : 0 < T * T := Int.mul_pos hT0 hT0
    refine ⟨ns[k] % (T * T), (emod_b _ hTT).1, ?_⟩
    have h2 : dIdx (.scr ns) (.int k) = .ok (.int ns[k]) := by
      show om (at_ ns (k : Int)) _ = _
      rw [hat]; rfl
    have h3 : dMul (.int T) (.int T) = .ok (.int (T * T)) := dMul_i hbig hbig
    have h4 : decide ((k : Int) < (ns.length : Int)) = true := decide_eq_true (by omega)
    simp only [F__law_cell, run, b__law_cell]
    simp [-op2_pow, h, h2, h3, p60, hTT]
  · have h4 : decide ((k : Int) < (ns.length : Int)) = false := decide_eq_false (by omega)
    obtain ⟨seed, y3, s1, s2, hl⟩ := cell_loop (fun d e => omO (asg [3] true d e) (evS P__law_cell sub FUEL lb__law_cell_1)) (.scr ns) (.int k) (fun x seed x3 h1 h2 => by
      have h5 : dMul (.int seed) (.int 31) = .ok (.int (seed * 31)) := dMul_i (lt_big (by omega) (by omega)) (lt_big (by omega) (by omega))
      simp [h5]) ns 17 none (by omega) (by omega)
    have hf : evS P__law_cell sub FUEL fo__law_cell_1 [some (.scr ns), some (.int k), some (.int 17), none] = .nx [some (.scr ns), some (.int k), some (.int seed), y3] := by
      rw [evS_for, ev_var, look0, out_ok, items_c, omO_some, hl]
    refine ⟨((seed + 7) * (k + 3) * 69621) % 2147483647, (emod_b _ (by decide)).1, ?_⟩
    have b0 : 0 ≤ (seed + 7) * (k + 3) := Int.mul_nonneg (by omega) (by omega)
    have b1 : (seed + 7) * (k + 3) ≤ 1000010 * 1003 := Int.mul_le_mul (by omega) (by omega) (by omega) (by omega)
    have h6 : dMul (.int (seed + 7)) (.int (k + 3)) = .ok (.int ((seed + 7) * (k + 3))) := dMul_i (lt_big (by omega) (by omega)) (lt_big (by omega) (by omega))
    have h7 : dMul (.int ((seed + 7) * (k + 3))) (.int 69621) = .ok (.int ((seed + 7) * (k + 3) * 69621)) := dMul_i (lt_big (by omega) (by omega)) (lt_big (by omega) (by omega))
    simp only [F__law_cell, run, b__law_cell]
    simp [h, hf, h6, h7]
/-- digits below the sizes -/
def Bd : List Int → List Int → Prop
  | [], [] => True
  | d :: ds, s :: ss => (0 ≤ d ∧ d < s) ∧ Bd ds ss
  | _, _ => False
theorem Bd_len : ∀ {ds ss : List Int}, Bd ds ss → ds.length = ss.length
  | [], [], _ => rfl
  | [], _ :: _, h => h.elim
  | _ :: _, [], h => h.elim
  | d :: ds, s :: ss, h => by simp [Bd_len h.2]
theorem Bd_get : ∀ {ds ss : List Int} {i : Nat} {s : Int}, Bd ds ss → ss[i]? = some s → ∃ d, ds[i]? = some d ∧ 0 ≤ d ∧ d < s
  | [], [], _, _, _, h => by simp at h
  | [], _ :: _, _, _, h, _ => h.elim
  | _ :: _, [], _, _, h, _ => h.elim
  | d :: ds, s :: ss, 0, s', h, e => by
    have e : s = s' := by simpa using e
    subst e
    exact ⟨d, rfl, h.1⟩
  | d :: ds, s :: ss, i + 1, s', h, e => by
    obtain ⟨x, h1, h2⟩ := Bd_get (i := i) h.2 (by simpa using e)
    exact ⟨x, by simpa using h1, h2⟩
abbrev dEnv (c : D) (ss : List Int) (acc : List Int) (rest : Int) (x4 x5 x6 x7 : Option D) : Env := [some c, some (.lst (ss.map D.int)), some (.lst (acc.map D.int)), some (.int rest), x4, x5, x6, x7]
theorem dig_loop1 (c : D) (ss : List Int) (x4 x5 x7 : Option D) : ∀ (l acc : List Int) (rest : Int) (x6 : Option D), (∀ s ∈ l, 0 < s ∧ s < 1000000) → acc.length + l.length ≤ 1000 →
    ∃ (ds : List Int) (rest' : Int) (y6 : Option D), Bd ds l ∧ forL (fun d e => omO (asg [6] true d e) (evS P__law_digits sub FUEL lb__law_digits_1)) (l.map D.int) (dEnv c ss acc rest x4 x5 x6 x7) = .nx (dEnv c ss (acc ++ ds) rest' x4 x5 y6 x7)
  | [], acc, rest, x6, _, _ => ⟨[], rest, x6, trivial, by simp [forL]⟩
  | s :: l, acc, rest, x6, h, hl => by
    obtain ⟨h1, h2⟩ := h s List.mem_cons_self
    simp only [List.length_cons] at hl
    obtain ⟨ds, rest', y6, b, e⟩ := dig_loop1 c ss x4 x5 x7 l (acc ++ [rest % s]) (rest / s) (some (.int s)) (fun z hz => h z (List.mem_cons_of_mem _ hz)) (by simp; omega)
    refine ⟨(rest % s) :: ds, rest', y6, ⟨emod_b rest h1, b⟩, ?_⟩
    have hb : s.natAbs < BIG := lt_big (by omega) (by omega)
    have step : (fun d e => omO (asg [6] true d e) (evS P__law_digits sub FUEL lb__law_digits_1)) (D.int s) (dEnv c ss acc rest x4 x5 x6 x7) = .nx (dEnv c ss (acc ++ [rest % s]) (rest / s) x4 x5 (some (.int s)) x7) := by
      have hm : muF .append 2 (evL P__law_digits sub (.cons (.op .mod (.bi .int (.cons (.var 3) .nil)) (.var 6)) .nil)) (dEnv c ss acc rest x4 x5 (some (.int s)) x7) = .nx (dEnv c ss (acc ++ [rest % s]) rest x4 x5 (some (.int s)) x7) := by
        rw [mu_app (l := acc.map D.int) (d := .int (rest % s)) (by simp) (by simp [h1]) (lim_lt (by simp; omega))]
        simp
      simp [hm, h1, hb]
    rw [List.map_cons, forL_nx step]
    simpa using e
theorem dig_loop2 (c : D) (ss : List Int) (rest : Int) (x6 : Option D) (hs : ∀ s ∈ ss, 0 < s ∧ s < 1000000) (hl : ss.length ≤ 1000) : ∀ (m i : Nat) (acc : List Int) (seed : Int) (x5 x7 : Option D), i + m = ss.length → acc.length = i → 0 ≤ seed → seed < 2147483647 →
    ∃ (ds : List Int) (y4 y5 y7 : Option D), Bd ds (ss.drop i) ∧ forL (fun d e => omO (asg [5] true d e) (evS P__law_digits sub FUEL lb__law_digits_2)) ((List.range' i m).map fun (k : Nat) => D.int (k : Int)) (dEnv c ss acc rest (some (.int seed)) x5 x6 x7) = .nx (dEnv c ss (acc ++ ds) rest y4 y5 x6 y7)
  | 0, i, acc, seed, x5, x7, hi, ha, _, _ => ⟨[], some (.int seed), x5, x7, by rw [List.drop_eq_nil_of_le (by omega)]; trivial, by simp [forL]⟩
  | m + 1, i, acc, seed, x5, x7, hi, ha, s1, s2 => by
    have hlt : i < ss.length := by omega
    obtain ⟨h1, h2⟩ := hs ss[i] (List.getElem_mem hlt)
    have m1 : dMul (.int seed) (.int 48271) = .ok (.int (seed * 48271)) := dMul_i (lt_big (by omega) (by omega)) (lt_big (by omega) (by omega))
    have m2 : dMul (.int 974711) (.int (i : Int)) = .ok (.int (974711 * i)) := dMul_i (lt_big (by omega) (by omega)) (lt_big (by omega) (by omega))
    obtain ⟨t1, t2⟩ := emod_b (seed * 48271 + 974711 * i + 12345) (b := 2147483647) (by omega)
    generalize hsd : (seed * 48271 + 974711 * (i : Int) + 12345) % 2147483647 = sd at t1 t2
    have q1 : 0 ≤ sd / 65537 := Int.ediv_nonneg t1 (by omega)
    have q2 : sd / 65537 ≤ sd := Int.ediv_le_self _ t1
    have m3 : dMul (.int sd) (.int (sd / 65537 + 3)) = .ok (.int (sd * (sd / 65537 + 3))) := dMul_i (lt_big (by omega) (by omega)) (lt_big (by omega) (by omega))
    have hat : dIdx (.lst (ss.map D.int)) (.int (i : Int)) = .ok (.int ss[i]) := by
      show om (at_ (ss.map D.int) (i : Int)) _ = _
      have : at_ (ss.map D.int) (i : Int) = some (.int ss[i]) := by
        unfold at_ ixOf
        rw [if_pos (by omega), if_pos (by simp; omega)]
        simp [hlt]
      rw [this]; rfl
    generalize htw : (sd * (sd / 65537 + 3)) % 2147483629 = tw
    have big1 : (65537 : Nat) < BIG := lt_big (a := 65537) (by omega) (by omega)
    have big2 : (19 : Nat) < BIG := lt_big (a := 19) (by omega) (by omega)
    obtain ⟨ds, y4, y5, y7, b, e⟩ := dig_loop2 c ss rest x6 hs hl m (i + 1) (acc ++ [tw / 19 % ss[i]]) sd (some (.int (i : Int))) (some (.int tw)) (by omega) (by simp [ha]) t1 t2
    refine ⟨(tw / 19 % ss[i]) :: ds, y4, y5, y7, ?_, ?_⟩
    · rw [List.drop_eq_getElem_cons hlt]
      exact ⟨emod_b _ h1, b⟩
    have step : (fun d e => omO (asg [5] true d e) (evS P__law_digits sub FUEL lb__law_digits_2)) (D.int (i : Int)) (dEnv c ss acc rest (some (.int seed)) x5 x6 x7) = .nx (dEnv c ss (acc ++ [tw / 19 % ss[i]]) rest (some (.int sd)) (some (.int (i : Int))) x6 (some (.int tw))) := by
      have hm : muF .append 2 (evL P__law_digits sub (.cons (.op .mod (.op .fdiv (.var 7) (.int 19)) (.idx (.var 1) (.var 5))) .nil)) (dEnv c ss acc rest (some (.int sd)) (some (.int (i : Int))) x6 (some (.int tw))) = .nx (dEnv c ss (acc ++ [tw / 19 % ss[i]]) rest (some (.int sd)) (some (.int (i : Int))) x6 (some (.int tw))) := by
        rw [mu_app (l := acc.map D.int) (d := .int (tw / 19 % ss[i])) (by simp) (by simp [hat, h1, big2]) (lim_lt (by simp; omega))]
        simp
      simp [hm, m1, m2, hsd, m3, htw, big1]
    rw [List.range'_succ, List.map_cons, forL_nx step]
    simpa using e
theorem digits_ok (c : Int) (ss : List Int) (hs : ∀ s ∈ ss, 0 < s ∧ s < 1000000) (hl : ss.length ≤ 1000) : ∃ ds, Bd ds ss ∧ F__law_digits [.int c, .lst (ss.map D.int)] = .ok (.lst (ds.map D.int)) := by
  by_cases h : (10 : Int) ^ 18 ≤ c
  · obtain ⟨ds, rest', y6, b, e⟩ := dig_loop1 (.int c) ss none none none ss [] (c - 10 ^ 18) none hs (by simp; omega)
    have hf : evS P__law_digits sub FUEL fo__law_digits_1 (dEnv (.int c) ss [] (c - 10 ^ 18) none none none none) = .nx (dEnv (.int c) ss ds rest' none none y6 none) := by
      rw [evS_for, ev_var, lookS, look0, out_ok, items_l, omO_some, e]; simp
    refine ⟨ds, b, ?_⟩
    have h' : (1000000000000000000 : Int) ≤ c := h
    simp only [F__law_digits, run, b__law_digits]
    simp only [dEnv, List.map_nil, show (10 : Int) ^ 18 = 1000000000000000000 from rfl] at hf
    simp [h', hf, lim_le]
  · have hc : 0 ≤ c % 2147483629 := (emod_b c (by omega)).1
    have hc2 : c % 2147483629 < 2147483629 := (emod_b c (by omega)).2
    obtain ⟨ds, y4, y5, y7, b, e⟩ := dig_loop2 (.int c) ss c none hs hl ss.length 0 [] (c % 2147483629) none none (by omega) rfl hc (by omega)
    have hr : biF .rng1 [.int (ss.length : Int)] = .ok (.lst (rangeD 0 (ss.length : Int))) := rng1_ok (by omega)
    have hf : evS P__law_digits sub FUEL fo__law_digits_2 (dEnv (.int c) ss [] c (some (.int (c % 2147483629))) none none none) = .nx (dEnv (.int c) ss ds c y4 y5 none y7) := by
      rw [evS_for]
      have h1 : ev P__law_digits sub (.bi .rng1 (.cons (.bi .len (.cons (.var 1) .nil)) .nil)) (dEnv (.int c) ss [] c (some (.int (c % 2147483629))) none none none) = .ok (.lst (rangeD 0 (ss.length : Int))) := by simp [hr]
      rw [h1, out_ok, items_l, omO_some, range_eq, e]
      simp
    refine ⟨ds, by simpa using b, ?_⟩
    have h' : ¬ (1000000000000000000 : Int) ≤ c := h
    simp only [F__law_digits, run, b__law_digits]
    simp only [dEnv, List.map_nil] at hf
    simp [h', hf, lim_le]
end Lw

set_option maxRecDepth 100000
set_option autoImplicit false
set_option linter.all false
namespace Lw
open E
/-! ### texts: join, split, numbers -/
theorem decI_num (n : Nat) : decI (n : Int) = TL.numL n := by
  have h1 := decI_txt (n : Int)
  have h2 := TL.tl_num n
  rw [h1] at h2
  rw [← h2]
  exact (txt_list _).symm
theorem decI_dig (n : Nat) : ∀ c ∈ decI (n : Int), 48 ≤ c ∧ c ≤ 57 := by rw [decI_num]; exact TL.numL_digits n
theorem decI_ne (n : Nat) : decI (n : Int) ≠ [] := by rw [decI_num]; exact TL.numL_ne n
theorem decI_inj {m n : Nat} (h : decI (m : Int) = decI (n : Int)) : m = n := by rw [decI_num, decI_num] at h; exact TL.numL_inj h
theorem decI_val (n : Nat) : (decI (n : Int)).foldl (fun n c => n * 10 + (c - 48)) 0 = n := by
  have := TL.numL_val n
  rw [decI_num]
  exact this
theorem decI_len {n : Nat} (h : n < 100) : (decI (n : Int)).length ≤ 2 := by rw [decI_num]; exact TL.numL_len (k := 2) (by omega) (by omega)
theorem decI_small : ∀ n : Nat, n < 100 → ((decI (n : Int)).head? = some 48 → (decI (n : Int)).length = 1) := by
  intro n h
  rw [decI_num]
  revert n
  decide
theorem join_cons (s w : List Nat) (r : List (List Nat)) (h : r ≠ []) : joinT s (w :: r) = w ++ s ++ joinT s r := by
  cases r with
  | nil => exact absurd rfl h
  | cons x r => rfl
theorem join_snoc (s w : List Nat) : ∀ (r : List (List Nat)), r ≠ [] → joinT s (r ++ [w]) = joinT s r ++ s ++ w
  | [], h => absurd rfl h
  | [x], _ => rfl
  | x :: y :: r, _ => by
    show x ++ s ++ joinT s ((y :: r) ++ [w]) = x ++ s ++ joinT s (y :: r) ++ s ++ w
    rw [join_snoc s w (y :: r) (by simp)]
    simp
theorem join_app (s : List Nat) : ∀ (a b : List (List Nat)), a ≠ [] → b ≠ [] → joinT s (a ++ b) = joinT s a ++ s ++ joinT s b
  | [], _, h, _ => absurd rfl h
  | [x], b, _, hb => join_cons s x b hb
  | x :: y :: r, b, _, hb => by
    show x ++ s ++ joinT s ((y :: r) ++ b) = x ++ s ++ joinT s (y :: r) ++ s ++ joinT s b
    rw [join_app s (y :: r) b (by simp) hb]
    simp
theorem join_last (s : List Nat) (a ts : List (List Nat)) (h : ts ≠ []) : joinT s (a ++ [joinT s ts]) = joinT s (a ++ ts) := by
  cases a with
  | nil => rfl
  | cons x r => rw [join_snoc s _ _ (by simp), join_app s _ _ (by simp) h]
theorem join_free (c : Nat) (s : List Nat) (hs : c ∉ s) : ∀ ws : List (List Nat), (∀ w ∈ ws, c ∉ w) → c ∉ joinT s ws
  | [], _ => by simp [joinT]
  | [x], h => h x List.mem_cons_self
  | x :: y :: r, h => by
    show c ∉ x ++ s ++ joinT s (y :: r)
    have h1 := h x List.mem_cons_self
    have h2 := join_free c s hs (y :: r) fun w hw => h w (List.mem_cons_of_mem _ hw)
    simp only [List.mem_append, not_or]
    exact ⟨⟨h1, hs⟩, h2⟩
theorem spl_run (c : Nat) : ∀ (w acc r : List Nat), c ∉ w → splC c acc (w ++ r) = splC c (acc ++ w) r
  | [], acc, r, _ => by simp
  | x :: w, acc, r, h => by
    rw [List.cons_append, splC, if_neg (fun z => h (by rw [z]; exact List.mem_cons_self)), spl_run c w _ r (fun z => h (List.mem_cons_of_mem _ z))]
    simp
theorem spl_end (c : Nat) (w : List Nat) (h : c ∉ w) (acc : List Nat) : splC c acc w = [acc ++ w] := by
  have := spl_run c w acc [] h
  rw [List.append_nil] at this
  rw [this]
  rfl
theorem spl_join (c : Nat) : ∀ ws : List (List Nat), ws ≠ [] → (∀ w ∈ ws, c ∉ w) → splC c [] (joinT [c] ws) = ws
  | [], h, _ => absurd rfl h
  | [x], _, h => by
    show splC c [] x = _
    rw [spl_end c x (h x List.mem_cons_self)]
    rfl
  | x :: y :: r, _, h => by
    show splC c [] (x ++ [c] ++ joinT [c] (y :: r)) = _
    rw [List.append_assoc, spl_run c x _ _ (h x List.mem_cons_self), List.nil_append, List.singleton_append]
    unfold splC
    rw [if_pos rfl, spl_join c (y :: r) (by simp) (fun w hw => h w (List.mem_cons_of_mem _ hw))]
theorem split_ok (c : Nat) (hc : c < 256) (ws : List (List Nat)) (h0 : ws ≠ []) (h : ∀ w ∈ ws, c ∉ w) (hl : (joinT [c] ws).length ≤ 900000) : meth .split (.str (joinT [c] ws)) [.str [c]] = .ok (.lst (ws.map D.str)) := by
  show (if c < 256 ∧ (joinT [c] ws).length + 2 ≤ LIM then Res.ok (D.lst ((splC c [] (joinT [c] ws)).map D.str)) else .bad) = _
  rw [if_pos ⟨hc, lim_le (by omega)⟩, spl_join c ws h0 h]
theorem joinS_ok (s : List Nat) (ws : List (List Nat)) (h1 : ws.length ≤ 100) (h2 : s.length ≤ 10) (h3 : ∀ w ∈ ws, w.length ≤ 1000) : meth .join (.str s) [.lst (ws.map D.str)] = .ok (.str (joinT s ws)) := by
  show om (strsD (ws.map D.str)) _ = _
  have e : strsD (ws.map D.str) = some ws := by
    have := strs_map (fun w : List Nat => w) ws
    simpa using this
  rw [e, om_some]
  have hs : (ws.map (·.length)).sum ≤ ws.length * 1000 := by
    clear e h1
    induction ws with
    | nil => simp
    | cons w r ih =>
      have := ih fun z hz => h3 z (List.mem_cons_of_mem _ hz)
      have := h3 w List.mem_cons_self
      simp only [List.map_cons, List.sum_cons, List.length_cons]
      omega
  have hm : ws.length * s.length ≤ ws.length * 10 := Nat.mul_le_mul_left _ h2
  rw [if_pos (lim_le (by omega))]
end Lw

set_option maxRecDepth 100000
set_option autoImplicit false
set_option linter.all false
namespace Lw
open E
abbrev nChange : List Nat := [99, 104, 97, 110, 103, 101]
abbrev nSwap : List Nat := [115, 119, 97, 112]
abbrev nFirst : List Nat := [102, 105, 114, 115, 116]
abbrev nEvery : List Nat := [101, 118, 101, 114, 121]
abbrev nCount : List Nat := [99, 111, 117, 110, 116]
abbrev nLeads : List Nat := [108, 101, 97, 100, 115]
abbrev KS : List (List Nat) := [nChange, nSwap, nFirst, nEvery, nCount, nLeads]
abbrev VS : List (List Nat) := [[99, 99, 116], [99, 99, 116], [99, 99, 116, 116], [99, 99, 110, 116, 116], [99, 115], [99, 116, 116]]
abbrev wYes : List Nat := [121, 101, 115]
abbrev wNo : List Nat := [110, 111]
abbrev DIG : List Nat := [48, 49, 50, 51, 52, 53, 54, 55, 56, 57]
/-! ### reading a number -/
def isDig (c : Nat) : Bool := decide (48 ≤ c) && decide (c ≤ 57)
theorem dig_in (c : Nat) : DIG.contains c = isDig c := by
  refine beq_iff ?_
  unfold isDig
  simp only [List.contains_eq_mem, decide_eq_true_eq, Bool.and_eq_true, List.mem_cons, List.not_mem_nil, or_false]
  omega
def pn (w : List Nat) : Option Nat := if w = [] ∨ 2 < w.length ∨ w.all isDig = false then none else if w.head? = some 48 ∧ 1 < w.length then none else some (w.foldl (fun n c => n * 10 + (c - 48)) 0)
def oD : Option Nat → D
  | some n => .int (n : Int)
  | none => .non
theorem pnum_ok (w : List Nat) (hl : w.length ≤ 1000) : F_plain_number [.str w, .int 2] = .ok (oD (pn w)) := by
  have hlen := len_s' (s := w) (by omega)
  have hlc : ev P_plain_number sub fo_plain_number_1 [some (.str w), some (.int 2), none] = .ok (.lst ((w.filter fun c => !isDig c).map fun c => D.str [c])) :=
    lcf_ok _ _ _ _ _ _ _ _ (.str w) w (fun c => D.str [c]) (fun c => D.str [c]) (fun c => !isDig c) (by simp) (by simp) (by omega) fun c _ => ⟨_, rfl, by
      have := inS c DIG
      rw [dig_in] at this
      simp only [ev_op, ev_var, ev_str]
      simp [this], fun _ => by simp⟩
  have hfl : ((w.filter fun c => !isDig c).length = 0) ↔ w.all isDig = true := by
    rw [List.length_eq_zero_iff, List.filter_eq_nil_iff, List.all_eq_true]
    simp
  simp only [F_plain_number, run, b_plain_number]
  generalize fo_plain_number_1 = f1 at hlc
  by_cases h0 : w = []
  · subst h0
    simp [pn, oD]
  · obtain ⟨c, r, rfl⟩ := List.exists_cons_of_ne_nil h0
    by_cases h1 : 2 < (c :: r).length
    · have hp : pn (c :: r) = none := by unfold pn; rw [if_pos (.inr (.inl h1))]
      rw [hp]
      generalize (c :: r).length = n at hlen h1
      have : ((c :: r) == ([] : List Nat)) = false := rfl
      generalize c :: r = w at hlen this ⊢
      have h2 : (2 : Int) < (n : Int) := by omega
      simp [hlen, this, h2, oD]
    · by_cases h2 : (c :: r).all isDig = true
      · have hz : ((c :: r).filter fun c => !isDig c).length = 0 := hfl.2 h2
        have hz2 : ((c :: r).filter fun c => !isDig c) = [] := List.length_eq_zero_iff.1 hz
        have hd : numT (c :: r) = some ((c :: r).foldl (fun n c => n * 10 + (c - 48)) 0) := by
          unfold numT
          rw [if_pos ⟨by omega, by simp, h2⟩]
        have hint : biF .int [.str (c :: r)] = .ok (.int (((c :: r).foldl (fun n c => n * 10 + (c - 48)) 0 : Nat) : Int)) := by
          show om (numT (c :: r)) _ = _
          rw [hd, om_some]
        have hix : dIdx (.str (c :: r)) (.int 0) = .ok (.str [c]) := idx_s (c :: r) (lim_le (by omega)) 0 c rfl
        have hp : pn (c :: r) = if c = 48 ∧ 1 < (c :: r).length then none else some ((c :: r).foldl (fun n c => n * 10 + (c - 48)) 0) := by
          unfold pn
          rw [if_neg (by rw [h2]; simp at h1 ⊢; omega)]
          simp
        rw [hp]
        rw [hz2, List.map_nil] at hlc
        clear hz2 hz hfl hp
        have hne : ((c :: r) == ([] : List Nat)) = false := rfl
        generalize (c :: r).foldl (fun n c => n * 10 + (c - 48)) 0 = v at *
        generalize (c :: r).length = n at *
        generalize c :: r = w at *
        have h1' : ¬ (2 : Int) < (n : Int) := by omega
        by_cases hc : c = 48
        · subst hc
          by_cases hn : 1 < n
          · have hn2 : (1 : Int) < (n : Int) := by omega
            simp [hlen, hne, h1', hlc, hix, hn, hn2, oD]
          · have hn2 : ¬ (1 : Int) < (n : Int) := by omega
            simp [hlen, hne, h1', hlc, hix, hn, hn2, oD, hint]
        · simp [hlen, hne, h1', hlc, hix, hc, oD, hint]
      · have h2' : (c :: r).all isDig = false := by simpa using h2
        have hp : pn (c :: r) = none := by unfold pn; rw [if_pos (.inr (.inr h2'))]
        rw [hp]
        have hz : ((c :: r).filter fun c => !isDig c).length ≠ 0 := fun z => h2 (hfl.1 z)
        have hne : ((c :: r) == ([] : List Nat)) = false := rfl
        generalize ((c :: r).filter fun c => !isDig c) = fl at hz hlc
        generalize (c :: r).length = n at *
        generalize c :: r = w at *
        have h1' : ¬ (2 : Int) < (n : Int) := by omega
        simp [hlen, hne, h1', hlc, oD]
        cases fl with
        | nil => simp at hz
        | cons x y => simp
def rdT (w : List Nat) (many : Nat) : D := if w = wYes then .bl true else if w = wNo then .bl false else match pn w with
  | some n => if n < many then .int (n : Int) else .non
  | none => .non
def rdN (w : List Nat) : D := match pn w with
  | some n => if 1 ≤ n ∧ n ≤ 6 then .int (n : Int) else .non
  | none => .non
def rdC (w : List Nat) (chars : List Nat) : D := match w with
  | [c] => if c ∈ chars then .str [c] else .non
  | _ => .non
def rdW (s : Nat) (w : List Nat) (chars : List Nat) (many : Nat) : D := if s = 99 then rdC w chars else if s = 116 then rdT w many else rdN w
theorem Prt4 : P_read_target 4 = F_plain_number := by unfold P_read_target; rfl
theorem rdT_ok (w : List Nat) (hl : w.length ≤ 1000) (many : Nat) : F_read_target [.str w, .int (many : Int)] = .ok (rdT w many) := by
  have hp := pnum_ok w hl
  simp only [F_read_target, run, b_read_target]
  unfold rdT
  by_cases h1 : w = wYes
  · subst h1
    simp
  · rw [if_neg h1]
    have h1' : (w == wYes) = false := by simpa using h1
    by_cases h2 : w = wNo
    · subst h2
      simp
    · rw [if_neg h2]
      have h2' : (w == wNo) = false := by simpa using h2
      cases hq : pn w with
      | none =>
        rw [hq] at hp
        simp [h1', h2', Prt4, hp, oD, dIs]
      | some n =>
        rw [hq] at hp
        by_cases hn : n < many
        · have : ¬ many ≤ n := by omega
          simp [h1', h2', Prt4, hp, oD, dIs, hn, this]
        · have : many ≤ n := by omega
          simp [h1', h2', Prt4, hp, oD, dIs, hn, this]
theorem Prw4 : P_read_word 4 = F_plain_number := by unfold P_read_word; rfl
theorem Prw13 : P_read_word 13 = F_read_target := by unfold P_read_word; rfl
theorem rdW_ok (s : Nat) (w : List Nat) (hl : w.length ≤ 1000) (chars : List Nat) (many : Nat) : F_read_word [.str [s], .str w, .str chars, .int (many : Int)] = .ok (rdW s w chars many) := by
  have hp := pnum_ok w hl
  have ht := rdT_ok w hl many
  have hlen := len_s' (s := w) (by omega)
  simp only [F_read_word, run, b_read_word]
  unfold rdW
  by_cases h1 : s = 99
  · subst h1
    rw [if_pos rfl]
    unfold rdC
    by_cases h2 : ∃ c, w = [c]
    · obtain ⟨c, rfl⟩ := h2
      have hin := inS c chars
      by_cases h3 : c ∈ chars
      · have : chars.contains c = true := by simpa using h3
        rw [this] at hin
        simp [hlen, hin, h3]
      · have : chars.contains c = false := by simpa using h3
        rw [this] at hin
        simp [hlen, hin, h3]
    · have h3 : ¬ w.length = 1 := fun z => h2 (List.length_eq_one_iff.1 z)
      have e : (match w with | [c] => if c ∈ chars then D.str [c] else .non | _ => .non) = .non := by
        match w, h2 with
        | [], _ => rfl
        | [c], h => exact absurd ⟨c, rfl⟩ h
        | _ :: _ :: _, _ => rfl
      rw [e]
      generalize w.length = n at hlen h3
      have h3' : ¬ (n : Int) = 1 := by omega
      simp [hlen, h3']
  · rw [if_neg h1]
    have h1' : (([s] : List Nat) == [99]) = false := by simpa using h1
    by_cases h2 : s = 116
    · subst h2
      simp [Prw13, ht]
    · rw [if_neg h2]
      have h2' : (([s] : List Nat) == [116]) = false := by simpa using h2
      unfold rdN
      cases hq : pn w with
      | none =>
        rw [hq] at hp
        simp [h1', h2', Prw4, hp, oD, dIs]
      | some n =>
        rw [hq] at hp
        by_cases hn : 1 ≤ n
        · by_cases hn6 : n ≤ 6
          · have a1 : (1 : Int) ≤ (n : Int) := by omega
            have a2 : (n : Int) ≤ 6 := by omega
            simp [h1', h2', Prw4, hp, oD, dIs, hn, hn6, a1, a2, chnF]
          · have a1 : (1 : Int) ≤ (n : Int) := by omega
            have a2 : ¬ (n : Int) ≤ 6 := by omega
            simp [h1', h2', Prw4, hp, oD, dIs, hn, hn6, a1, a2, chnF]
        · have a1 : ¬ (1 : Int) ≤ (n : Int) := by omega
          simp [h1', h2', Prw4, hp, oD, dIs, hn, a1, chnF]
end Lw

set_option maxRecDepth 100000
set_option autoImplicit false
set_option linter.all false
namespace Lw
open E
/-! ### reading a line -/
def shOf (name : List Nat) (len : Nat) : Option (List Nat) := (lkS KS VS name).map fun sh => if sh = [99, 115] then 99 :: List.replicate (min (max (len - 3) 1) 6) 116 else sh
def itemsOf (sh : List Nat) (ws : List (List Nat)) (chars : List Nat) (many : Nat) : List D := sh.zipIdx.map fun p => rdW p.1 (ws.getD (p.2 + 2) []) chars many
def isN : D → Bool
  | .non => true
  | _ => false
def rdL (ws : List (List Nat)) (at_ : Nat) (chars : List Nat) (many : Nat) : D := match ws with
  | w0 :: w1 :: _ :: _ => if w0 = decI (at_ : Int) then (match shOf w1 ws.length with
    | some sh => if ws.length = sh.length + 2 then (if (itemsOf sh ws chars many).any isN = true then .non else if w1 = nCount then .tup [.str w1, (itemsOf sh ws chars many).getD 0 .non, .lst ((itemsOf sh ws chars many).drop 1)] else .tup (.str w1 :: itemsOf sh ws chars many)) else .non
    | none => .non) else .non
  | _ => .non
theorem rdL_cons (w0 w1 w2 : List Nat) (r : List (List Nat)) (at_ : Nat) (chars : List Nat) (many : Nat) : rdL (w0 :: w1 :: w2 :: r) at_ chars many = if w0 = decI (at_ : Int) then (match shOf w1 (w0 :: w1 :: w2 :: r).length with
    | some sh => if (w0 :: w1 :: w2 :: r).length = sh.length + 2 then (if (itemsOf sh (w0 :: w1 :: w2 :: r) chars many).any isN = true then .non else if w1 = nCount then .tup [.str w1, (itemsOf sh (w0 :: w1 :: w2 :: r) chars many).getD 0 .non, .lst ((itemsOf sh (w0 :: w1 :: w2 :: r) chars many).drop 1)] else .tup (.str w1 :: itemsOf sh (w0 :: w1 :: w2 :: r) chars many)) else .non
    | none => .non) else .non := rfl
theorem rdW_cases (s : Nat) (w chars : List Nat) (many : Nat) : (∃ t, rdW s w chars many = .str t) ∨ (∃ b, rdW s w chars many = .bl b) ∨ (∃ i, rdW s w chars many = .int i) ∨ rdW s w chars many = .non := by
  unfold rdW rdC rdT rdN
  split
  · split
    · split
      · exact .inl ⟨_, rfl⟩
      · exact .inr (.inr (.inr rfl))
    · exact .inr (.inr (.inr rfl))
  · split
    · split
      · exact .inr (.inl ⟨_, rfl⟩)
      · split
        · exact .inr (.inl ⟨_, rfl⟩)
        · split
          · split
            · exact .inr (.inr (.inl ⟨_, rfl⟩))
            · exact .inr (.inr (.inr rfl))
          · exact .inr (.inr (.inr rfl))
    · split
      · split
        · exact .inr (.inr (.inl ⟨_, rfl⟩))
        · exact .inr (.inr (.inr rfl))
      · exact .inr (.inr (.inr rfl))
theorem rdW_flat (s : Nat) (w chars : List Nat) (many : Nat) : flat (rdW s w chars many) = true ∧ eqv (rdW s w chars many) .non = isN (rdW s w chars many) := by
  rcases rdW_cases s w chars many with ⟨t, h⟩ | ⟨b, h⟩ | ⟨i, h⟩ | h <;> rw [h] <;> simp [flat, eqv, isN]
theorem in_items (sh : List Nat) (ws : List (List Nat)) (chars : List Nat) (many : Nat) : inD .non (.lst (itemsOf sh ws chars many)) = .ok ((itemsOf sh ws chars many).any isN) := by
  have h1 : (itemsOf sh ws chars many).all flat = true := by
    rw [List.all_eq_true]
    intro d hd
    obtain ⟨p, _, rfl⟩ := List.mem_map.1 hd
    exact (rdW_flat _ _ _ _).1
  show (if flat .non ∧ _ then Res.ok _ else _) = _
  rw [if_pos ⟨rfl, h1⟩]
  congr 1
  unfold itemsOf
  rw [List.any_map, List.any_map]
  congr 1
  funext p
  exact (rdW_flat _ _ _ _).2
theorem enumD_zip {α : Type} (g : α → D) : ∀ (l : List α) (i : Nat), enumD (l.map g) (i : Int) = (l.zipIdx i).map fun p => D.tup [.int (p.2 : Int), g p.1]
  | [], _ => rfl
  | x :: l, i => by
    rw [List.map_cons, enumD, List.zipIdx_cons, List.map_cons]
    have := enumD_zip g l (i + 1)
    rw [show ((i + 1 : Nat) : Int) = (i : Int) + 1 by omega] at this
    rw [this]
theorem cut_from {α : Type} (t : List α) (k : Nat) : cut t (.int (k : Int)) .non = t.drop k := by
  unfold cut
  have e1 : sx t.length 0 (.int (k : Int)) = min k t.length := by
    show (if (k : Int) < 0 then ((k : Int) + (t.length : Int)).toNat else min (k : Int).toNat t.length) = _
    rw [if_neg (by omega)]
    rfl
  have e2 : sx t.length t.length .non = t.length := rfl
  rw [e1, e2]
  by_cases h : k ≤ t.length
  · rw [Nat.min_eq_left h]
    exact List.take_of_length_le (by simp)
  · rw [Nat.min_eq_right (by omega), List.drop_eq_nil_of_le (Nat.le_refl t.length), List.drop_eq_nil_of_le (show t.length ≤ k by omega)]
    simp
theorem slcL_from (t : List D) (k : Nat) : dSlc (.lst t) (.int (k : Int)) .non = .ok (.lst (t.drop k)) := by
  show (if (isPart (.int (k : Int)) && isPart .non) = true then Res.ok (D.lst (cut t (.int (k : Int)) .non)) else .bad) = _
  exact (if_pos (show (isPart (.int (k : Int)) && isPart .non) = true from rfl)).trans (by rw [cut_from])
theorem slcT_from (t : List D) (k : Nat) : dSlc (.tup t) (.int (k : Int)) .non = .ok (.tup (t.drop k)) := by
  show (if (isPart (.int (k : Int)) && isPart .non) = true then Res.ok (D.tup (cut t (.int (k : Int)) .non)) else .bad) = _
  exact (if_pos (show (isPart (.int (k : Int)) && isPart .non) = true from rfl)).trans (by rw [cut_from])
theorem slcL_pre (t : List D) (k : Nat) : dSlc (.lst t) .non (.int (k : Int)) = .ok (.lst (t.take k)) := by
  show (if (isPart .non && isPart (.int (k : Int))) = true then Res.ok (D.lst (cut t .non (.int (k : Int)))) else .bad) = _
  exact (if_pos (show (isPart .non && isPart (.int (k : Int))) = true from rfl)).trans (by rw [cut_pre])
theorem slcT_pre (t : List D) (k : Nat) : dSlc (.tup t) .non (.int (k : Int)) = .ok (.tup (t.take k)) := by
  show (if (isPart .non && isPart (.int (k : Int))) = true then Res.ok (D.tup (cut t .non (.int (k : Int)))) else .bad) = _
  exact (if_pos (show (isPart .non && isPart (.int (k : Int))) = true from rfl)).trans (by rw [cut_pre])
theorem Prl14 : P_read_line 14 = F_read_word := by unfold P_read_line; rfl
theorem lk_len : ∀ name sh, lkS KS VS name = some sh → 2 ≤ sh.length ∧ sh.length ≤ 5 := by
  intro name sh h
  simp only [lkS] at h
  repeat (split at h; · cases h; simp)
  cases h
theorem items_ok (ws : List (List Nat)) (hw : ∀ w ∈ ws, w.length ≤ 1000) (sh : List Nat) (hl : ws.length = sh.length + 2) (hsh : sh.length ≤ 100) (chars : List Nat) (many : Nat) (x0 x1 x6 x7 x8 : Option D) :
    ev P_read_line sub fo_read_line_1 [x0, x1, some (.str chars), some (.int (many : Int)), some (.lst (ws.map D.str)), some (.str sh), x6, x7, x8] = .ok (.lst (itemsOf sh ws chars many)) := by
  have h1 : biF .enum [.str sh] = .ok (.lst (sh.zipIdx.map fun p => D.tup [.int (p.2 : Int), .str [p.1]])) := by
    have := enumD_zip (fun c : Nat => D.str [c]) sh 0
    show Res.ok (D.lst (enumD (sh.map fun c => D.str [c]) 0)) = _
    rw [← this]
    rfl
  refine lcm_ok P_read_line sub [7, 8] false (.bi .enum (.cons (.var 5) .nil)) (.call 14 [114, 101, 97, 100, 95, 119, 111, 114, 100] (.cons (.var 8) (.cons (.idx (.var 4) (.op .add (.var 7) (.int 2))) (.cons (.var 2) (.cons (.var 3) .nil))))) _ (.lst (sh.zipIdx.map fun p => D.tup [.int (p.2 : Int), .str [p.1]])) sh.zipIdx (fun p => D.tup [.int (p.2 : Int), .str [p.1]]) (fun p => rdW p.1 (ws.getD (p.2 + 2) []) chars many) (by simp [h1]) rfl (by simp; omega) fun p hp => ⟨_, rfl, ?_⟩
  obtain ⟨c, i⟩ := p
  have hi : i < sh.length := by
    have := List.snd_lt_of_mem_zipIdx hp
    simpa using this
  have hg : ws[i + 2]? = some ws[i + 2] := List.getElem?_eq_getElem (by omega)
  have hgd : ws.getD (i + 2) [] = ws[i + 2] := by rw [List.getD_eq_getElem?_getD, hg]; rfl
  have hix : dIdx (.lst (ws.map D.str)) (.int ((i + 2 : Nat) : Int)) = .ok (.str ws[i + 2]) := idx_l _ _ _ (by rw [List.getElem?_map, hg]; rfl)
  have hr := rdW_ok c ws[i + 2] (hw _ (List.getElem_mem _)) chars many
  have ei : (i : Int) + 2 = ((i + 2 : Nat) : Int) := by omega
  simp only [hgd]
  generalize ws[i + 2] = w at *
  generalize ((i + 2 : Nat) : Int) = k at *
  generalize D.lst (ws.map D.str) = dw at *
  show ev P_read_line sub _ [x0, x1, some (.str chars), some (.int (many : Int)), some dw, some (.str sh), x6, some (.int (i : Int)), some (.str [c])] = _
  simp [Prl14, ei, hix, hr]
theorem shOf_some (w1 : List Nat) (len : Nat) : (lkS KS VS w1 = none ∧ shOf w1 len = none) ∨ ∃ sh0, lkS KS VS w1 = some sh0 ∧ shOf w1 len = some (if sh0 = [99, 115] then 99 :: List.replicate (min (max (len - 3) 1) 6) 116 else sh0) := by
  unfold shOf
  cases h : lkS KS VS w1 with
  | none => exact .inl ⟨rfl, rfl⟩
  | some sh => exact .inr ⟨sh, rfl, rfl⟩
def sq1 : E.S → E.S
  | .seq a _ => a
  | _ => .skip
def sq2 : E.S → E.S
  | .seq _ b => b
  | _ => .skip
def rlI : E.S := sq1 (sq2 (sq2 (sq2 b_read_line)))
def rlT : E.S := sq2 (sq2 (sq2 (sq2 b_read_line)))
theorem b_rl : b_read_line = .seq (sq1 b_read_line) (.seq (sq1 (sq2 b_read_line)) (.seq (sq1 (sq2 (sq2 b_read_line))) (.seq rlI rlT))) := rfl
theorem rlI_ok (x0 x1 x2 x3 x6 x7 x8 : Option D) (dw : D) (n : Nat) (hn : 3 ≤ n) (hn2 : n ≤ 60) (hlw : biF .len [dw] = .ok (.int (n : Int))) (sh0 : List Nat) :
    evS P_read_line sub FUEL rlI [x0, x1, x2, x3, some dw, some (.str sh0), x6, x7, x8] = .nx [x0, x1, x2, x3, some dw, some (.str (if sh0 = [99, 115] then 99 :: List.replicate (min (max (n - 3) 1) 6) 116 else sh0)), x6, x7, x8] := by
  simp only [rlI, sq1, sq2, b_read_line]
  by_cases h : sh0 = [99, 115]
  · subst h
    have e1 : (if (6 : Int) < (if (1 : Int) > (n : Int) - 3 then 1 else (n : Int) - 3) then (6 : Int) else (if (1 : Int) > (n : Int) - 3 then 1 else (n : Int) - 3)) = ((min (max (n - 3) 1) 6 : Nat) : Int) := by
      split <;> split at * <;> omega
    have hm : min (max (n - 3) 1) 6 ≤ 6 := Nat.min_le_right _ _
    rw [if_pos rfl]
    generalize min (max (n - 3) 1) 6 = m at e1 hm
    have h2 := mulS 116 m (by omega)
    have h3 : dAdd (.str [99]) (.str (List.replicate m 116)) = .ok (.str (99 :: List.replicate m 116)) := addS (by simp; omega)
    generalize (99 :: List.replicate m 116 : List Nat) = res at h3 ⊢
    generalize List.replicate m 116 = rp at h2 h3
    simp [hlw]
    rw [e1, h2]
    simp [h3]
  · rw [if_neg h]
    have : (sh0 == [99, 115]) = false := by simpa using h
    simp [this]
theorem rl_core (line : List Nat) (dw : D) (n : Nat) (hn3 : 3 ≤ n) (hlen : n ≤ 60) (hlw : biF .len [dw] = .ok (.int (n : Int))) (at_ : Nat) (chars : List Nat) (many : Nat) (w1 da : List Nat)
    (hsp : meth .split (.str line) [.str [32]] = .ok dw) (i0 : dIdx dw (.int 0) = .ok (.str da)) (i1 : dIdx dw (.int 1) = .ok (.str w1)) (hst : biF .str [.int (at_ : Int)] = .ok (.str da)) (sh0 : List Nat) (q1 : lkS KS VS w1 = some sh0) (sh : List Nat)
    (hsh : sh = if sh0 = [99, 115] then 99 :: List.replicate (min (max (n - 3) 1) 6) 116 else sh0) (hsh1 : 1 ≤ sh.length ∧ sh.length ≤ 7) (its : List D)
    (hio : n = sh.length + 2 → ∀ x0 x1 x6 x7 x8, ev P_read_line sub fo_read_line_1 [x0, x1, some (.str chars), some (.int (many : Int)), some dw, some (.str sh), x6, x7, x8] = .ok (.lst its)) (hin : inD .non (.lst its) = .ok (its.any isN)) (itl : its.length = sh.length) :
    F_read_line [.str line, .int (at_ : Int), .str chars, .int (many : Int)] = .ok (if n = sh.length + 2 then (if its.any isN = true then .non else if w1 = nCount then .tup [.str w1, its.getD 0 .non, .lst (its.drop 1)] else .tup (.str w1 :: its)) else .non) := by
  have hn3' : ¬ (n : Int) < 3 := by omega
  have hg : dGdi true KS VS (.str w1) = .ok (.bl false) := by
    show Res.ok (D.bl ((lkS KS VS w1).isSome != true)) = _
    rw [q1]
    rfl
  have hx : dGdx KS VS (.str w1) = .ok (.str sh0) := by
    show om (lkS KS VS w1) (fun v => Res.ok (D.str v)) = _
    rw [q1, om_some]
  simp only [KS, VS, nChange, nSwap, nFirst, nEvery, nCount, nLeads] at hg hx
  have hif := fun x0 x1 x2 x3 x6 x7 x8 => rlI_ok x0 x1 x2 x3 x6 x7 x8 dw n hn3 hlen hlw sh0
  rw [← hsh] at hif
  have hls := len_s' (s := sh) (by omega)
  show fin (evS P_read_line sub FUEL b_read_line [some (.str line), some (.int (at_ : Int)), some (.str chars), some (.int (many : Int)), none, none, none, none, none]) = _
  have pre : ∀ x : E.S, evS P_read_line sub FUEL (.seq (sq1 b_read_line) (.seq (sq1 (sq2 b_read_line)) (.seq (sq1 (sq2 (sq2 b_read_line))) (.seq rlI x)))) [some (.str line), some (.int (at_ : Int)), some (.str chars), some (.int (many : Int)), none, none, none, none, none] =
      evS P_read_line sub FUEL x [some (.str line), some (.int (at_ : Int)), some (.str chars), some (.int (many : Int)), some dw, some (.str sh), none, none, none] := fun x => by
    simp only [sq1, sq2, b_read_line]
    generalize rlI = ri at hif
    simp [isStr_s, hsp, hlw, hn3', i0, i1, hst, hg, hx, hif]
  rw [b_rl, pre]
  simp only [rlT, sq2, b_read_line]
  generalize hls2 : sh.length = m at *
  by_cases hnl : n = m + 2
  · have hb := hio hnl
    have hnl' : (n : Int) = (m : Int) + 2 := by omega
    generalize fo_read_line_1 = f1 at hb
    rw [if_pos hnl]
    cases hA : its.any isN with
    | true =>
      rw [hA] at hin
      generalize D.lst its = dits at hb hin
      simp [hlw, hls, hnl', hb, hin]
    | false =>
      rw [hA] at hin
      obtain ⟨i0', ir, rfl⟩ : ∃ a b, its = a :: b := by
        cases its with
        | nil => simp at itl; omega
        | cons a b => exact ⟨a, b, rfl⟩
      have hx0 : dIdx (.lst (i0' :: ir)) (.int 0) = .ok i0' := idx_l (i0' :: ir) 0 i0' rfl
      have hsl : dSlc (.lst (i0' :: ir)) (.int 1) .non = .ok (.lst ((i0' :: ir).drop 1)) := slcL_from (i0' :: ir) 1
      have hadd : dAdd (.lst [.str w1]) (.lst (i0' :: ir)) = .ok (.lst ([.str w1] ++ (i0' :: ir))) := addL (by simp at itl ⊢; omega)
      have htp : biF .tuple [.lst ([.str w1] ++ (i0' :: ir))] = .ok (.tup (.str w1 :: i0' :: ir)) := rfl
      have hg0 : (i0' :: ir).getD 0 .non = i0' := rfl
      rw [hg0]
      rw [if_neg (by simp)]
      generalize (i0' :: ir).drop 1 = dr at hsl ⊢
      generalize hT : D.tup (.str w1 :: i0' :: ir) = tt at htp ⊢
      generalize D.lst ([.str w1] ++ (i0' :: ir)) = l2 at hadd htp
      generalize D.lst (i0' :: ir) = dits at *
      by_cases hc : w1 = nCount
      · have hc' : (w1 == [99, 111, 117, 110, 116]) = true := by simpa using hc
        rw [if_pos hc]
        simp [hlw, hls, hnl', hb, hin, i1, hc', hx0, hsl, prt, isPart, lim_le]
      · have hc' : (w1 == [99, 111, 117, 110, 116]) = false := by simpa using hc
        rw [if_neg hc]
        simp [hlw, hls, hnl', hb, hin, i1, hc', hadd, htp, lim_le]
  · have hnl' : ¬ (n : Int) = (m : Int) + 2 := by omega
    rw [if_neg hnl]
    generalize fo_read_line_1 = f1
    simp [hlw, hls, hnl']
theorem read_line_ok (ws : List (List Nat)) (h0 : ws ≠ []) (hf : ∀ w ∈ ws, 32 ∉ w) (hw : ∀ w ∈ ws, w.length ≤ 1000) (hl : (joinT [32] ws).length ≤ 900000) (hlen : ws.length ≤ 60) (at_ : Nat) (ha : at_ < 1000) (chars : List Nat) (many : Nat) :
    F_read_line [.str (joinT [32] ws), .int (at_ : Int), .str chars, .int (many : Int)] = .ok (rdL ws at_ chars many) := by
  have hsp := split_ok 32 (by omega) ws h0 hf hl
  generalize joinT [32] ws = line at hsp
  have hlw : biF .len [.lst (ws.map D.str)] = .ok (.int (ws.length : Int)) := by simp
  have hst : biF .str [.int (at_ : Int)] = .ok (.str (decI (at_ : Int))) := by
    show (if (at_ : Int).natAbs < 18446744073709551616 then Res.ok (D.str (decI (at_ : Int))) else .bad) = _
    exact if_pos (by omega)
  match ws, h0 with
  | [w0], _ =>
    simp only [F_read_line, run, b_read_line]
    generalize fo_read_line_1 = f1
    simp [isStr_s, hsp, rdL]
  | [w0, w1], _ =>
    simp only [F_read_line, run, b_read_line]
    generalize fo_read_line_1 = f1
    simp [isStr_s, hsp, rdL]
  | w0 :: w1 :: w2 :: r, _ =>
    have i0 : dIdx (.lst ((w0 :: w1 :: w2 :: r).map D.str)) (.int 0) = .ok (.str w0) := idx_l ((w0 :: w1 :: w2 :: r).map D.str) 0 (.str w0) rfl
    have i1 : dIdx (.lst ((w0 :: w1 :: w2 :: r).map D.str)) (.int 1) = .ok (.str w1) := idx_l ((w0 :: w1 :: w2 :: r).map D.str) 1 (.str w1) rfl
    have hn3 : 3 ≤ (w0 :: w1 :: w2 :: r).length := by simp
    rw [rdL_cons]
    by_cases e0 : w0 = decI (at_ : Int)
    · rw [if_pos e0]
      rcases shOf_some w1 (w0 :: w1 :: w2 :: r).length with ⟨q1, q2⟩ | ⟨sh0, q1, q2⟩
      · rw [q2]
        have hg : dGdi true KS VS (.str w1) = .ok (.bl true) := by
          show Res.ok (D.bl ((lkS KS VS w1).isSome != true)) = _
          rw [q1]
          rfl
        simp only [F_read_line, run, b_read_line]
        generalize fo_read_line_1 = f1
        generalize w0 :: w1 :: w2 :: r = ws at *
        generalize D.lst (ws.map D.str) = dw at *
        generalize ws.length = n at *
        have hn3' : ¬ (n : Int) < 3 := by omega
        generalize decI (at_ : Int) = da at *
        simp only [KS, VS, nChange, nSwap, nFirst, nEvery, nCount, nLeads] at hg
        simp [isStr_s, hsp, hlw, hn3', i0, i1, hst, e0, hg]
      · rw [q2]
        have hl2 := lk_len w1 sh0 q1
        have hsh1 : 1 ≤ (if sh0 = [99, 115] then 99 :: List.replicate (min (max ((w0 :: w1 :: w2 :: r).length - 3) 1) 6) 116 else sh0).length ∧ (if sh0 = [99, 115] then 99 :: List.replicate (min (max ((w0 :: w1 :: w2 :: r).length - 3) 1) 6) 116 else sh0).length ≤ 7 := by
          have := Nat.min_le_right (max ((w0 :: w1 :: w2 :: r).length - 3) 1) 6
          split
          · simp at this ⊢; omega
          · omega
        generalize hsh : (if sh0 = [99, 115] then 99 :: List.replicate (min (max ((w0 :: w1 :: w2 :: r).length - 3) 1) 6) 116 else sh0) = sh at hsh1
        exact rl_core line _ _ hn3 hlen hlw at_ chars many w1 (decI (at_ : Int)) hsp (e0 ▸ i0) i1 hst sh0 q1 sh hsh.symm hsh1 (itemsOf sh (w0 :: w1 :: w2 :: r) chars many) (fun h x0 x1 x6 x7 x8 => items_ok _ hw sh h (by omega) chars many x0 x1 x6 x7 x8) (in_items sh _ chars many) (by simp [itemsOf])
    · rw [if_neg e0]
      have e0' : (w0 == decI (at_ : Int)) = false := by simpa using e0
      simp only [F_read_line, run, b_read_line]
      generalize fo_read_line_1 = f1
      generalize w0 :: w1 :: w2 :: r = ws at *
      generalize D.lst (ws.map D.str) = dw at *
      generalize ws.length = n at *
      have hn3' : ¬ (n : Int) < 3 := by omega
      generalize decI (at_ : Int) = da at *
      simp [isStr_s, hsp, hlw, hn3', i0, i1, hst, e0']
end Lw

set_option maxRecDepth 100000
set_option autoImplicit false
set_option linter.all false
namespace Lw
open E
/-! ### lines -/
inductive Tg where
  | yes | no | st (n : Nat)
def tgD : Tg → D
  | .yes => .bl true
  | .no => .bl false
  | .st n => .int (n : Int)
def tgW : Tg → List Nat
  | .yes => wYes
  | .no => wNo
  | .st n => decI (n : Int)
def TgOk (many : Nat) : Tg → Prop
  | .st n => n < many
  | _ => True
inductive Ln where
  | change (a b : Nat) (t : Tg) | swap (a b : Nat) (t : Tg) | first (a b : Nat) (t u : Tg) | every (a b n : Nat) (t u : Tg) | count (a : Nat) (ts : List Tg) | leads (a : Nat) (t u : Tg)
def lnN : Ln → List Nat
  | .change .. => nChange
  | .swap .. => nSwap
  | .first .. => nFirst
  | .every .. => nEvery
  | .count .. => nCount
  | .leads .. => nLeads
def lnI : Ln → List D
  | .change a b t => [.str [a], .str [b], tgD t]
  | .swap a b t => [.str [a], .str [b], tgD t]
  | .first a b t u => [.str [a], .str [b], tgD t, tgD u]
  | .every a b n t u => [.str [a], .str [b], .int (n : Int), tgD t, tgD u]
  | .count a ts => [.str [a], .tup (ts.map tgD)]
  | .leads a t u => [.str [a], tgD t, tgD u]
def lnD (l : Ln) : D := .tup (.str (lnN l) :: lnI l)
/-- as it is read -/
def lnR : Ln → D
  | .count a ts => .tup [.str nCount, .str [a], .lst (ts.map tgD)]
  | l => lnD l
def lnX : Ln → List (List Nat)
  | .change a b t => [[a], [b], tgW t]
  | .swap a b t => [[a], [b], tgW t]
  | .first a b t u => [[a], [b], tgW t, tgW u]
  | .every a b n t u => [[a], [b], decI (n : Int), tgW t, tgW u]
  | .count a ts => [a] :: ts.map tgW
  | .leads a t u => [[a], tgW t, tgW u]
def lnW (at_ : Nat) (l : Ln) : List (List Nat) := decI (at_ : Int) :: lnN l :: lnX l
def LnOk (chars : List Nat) (many : Nat) : Ln → Prop
  | .change a b t => a ∈ chars ∧ b ∈ chars ∧ TgOk many t
  | .swap a b t => a ∈ chars ∧ b ∈ chars ∧ TgOk many t
  | .first a b t u => a ∈ chars ∧ b ∈ chars ∧ TgOk many t ∧ TgOk many u
  | .every a b n t u => a ∈ chars ∧ b ∈ chars ∧ 1 ≤ n ∧ n ≤ 6 ∧ TgOk many t ∧ TgOk many u
  | .count a ts => a ∈ chars ∧ 1 ≤ ts.length ∧ ts.length ≤ 6 ∧ ∀ t ∈ ts, TgOk many t
  | .leads a t u => a ∈ chars ∧ TgOk many t ∧ TgOk many u
theorem all_dig (n : Nat) : (decI (n : Int)).all isDig = true := by
  rw [List.all_eq_true]
  intro c hc
  have := decI_dig n c hc
  unfold isDig
  simp
  omega
theorem pn_num {n : Nat} (h : n < 100) : pn (decI (n : Int)) = some n := by
  unfold pn
  rw [if_neg (by
    rw [all_dig]
    have := decI_len h
    have := decI_ne n
    simp [this]
    omega), if_neg (by
    rintro ⟨h1, h2⟩
    have := decI_small n h h1
    omega), decI_val]
theorem num_ne (n : Nat) (w : List Nat) (hw : ∃ c r, w = c :: r ∧ 57 < c) : decI (n : Int) ≠ w := by
  intro h
  obtain ⟨c, r, rfl, hc⟩ := hw
  have := decI_dig n c (by rw [h]; exact List.mem_cons_self)
  omega
theorem rdT_tg {many : Nat} (hm : many ≤ 100) {t : Tg} (h : TgOk many t) : rdT (tgW t) many = tgD t := by
  cases t with
  | yes => rfl
  | no => rfl
  | st n =>
    have h : n < many := h
    unfold rdT
    show (if decI (n : Int) = wYes then _ else if decI (n : Int) = wNo then _ else match pn (decI (n : Int)) with | some n => _ | none => _) = _
    rw [if_neg (num_ne n _ ⟨121, _, rfl, by omega⟩), if_neg (num_ne n _ ⟨110, _, rfl, by omega⟩), pn_num (by omega)]
    show (if n < many then D.int (n : Int) else .non) = _
    rw [if_pos h]
    rfl
theorem rdN_num {n : Nat} (h1 : 1 ≤ n) (h2 : n ≤ 6) : rdN (decI (n : Int)) = .int (n : Int) := by
  unfold rdN
  rw [pn_num (by omega)]
  show (if 1 ≤ n ∧ n ≤ 6 then D.int (n : Int) else .non) = _
  rw [if_pos ⟨h1, h2⟩]
theorem rdC_ch {a : Nat} {chars : List Nat} (h : a ∈ chars) : rdC [a] chars = .str [a] := if_pos h
theorem isN_s (s : List Nat) : isN (.str s) = false := rfl
theorem isN_i (s : Int) : isN (.int s) = false := rfl
theorem tg_notN (t : Tg) : isN (tgD t) = false := by cases t <;> rfl
theorem rdL_good (at_ : Nat) (chars : List Nat) (many : Nat) (hm : many ≤ 100) (l : Ln) (h : LnOk chars many l) : rdL (lnW at_ l) at_ chars many = lnR l := by
  cases l with
  | change a b t =>
    obtain ⟨h1, h2, h3⟩ := h
    have e1 := rdC_ch h1; have e2 := rdC_ch h2; have e3 := rdT_tg hm h3
    simp [lnW, lnN, lnX, rdL_cons, shOf, lkS, itemsOf, rdW, e1, e2, e3, isN_s, isN_i, tg_notN, lnR, lnD, lnI, List.zipIdx]
  | swap a b t =>
    obtain ⟨h1, h2, h3⟩ := h
    have e1 := rdC_ch h1; have e2 := rdC_ch h2; have e3 := rdT_tg hm h3
    simp [lnW, lnN, lnX, rdL_cons, shOf, lkS, itemsOf, rdW, e1, e2, e3, isN_s, isN_i, tg_notN, lnR, lnD, lnI, List.zipIdx]
  | first a b t u =>
    obtain ⟨h1, h2, h3, h4⟩ := h
    have e1 := rdC_ch h1; have e2 := rdC_ch h2; have e3 := rdT_tg hm h3; have e4 := rdT_tg hm h4
    simp [lnW, lnN, lnX, rdL_cons, shOf, lkS, itemsOf, rdW, e1, e2, e3, e4, isN_s, isN_i, tg_notN, lnR, lnD, lnI, List.zipIdx]
  | every a b n t u =>
    obtain ⟨h1, h2, h5, h6, h3, h4⟩ := h
    have e1 := rdC_ch h1; have e2 := rdC_ch h2; have e3 := rdT_tg hm h3; have e4 := rdT_tg hm h4; have e5 := rdN_num h5 h6
    simp [lnW, lnN, lnX, rdL_cons, shOf, lkS, itemsOf, rdW, e1, e2, e3, e4, e5, isN_s, isN_i, tg_notN, lnR, lnD, lnI, List.zipIdx]
  | leads a t u =>
    obtain ⟨h1, h3, h4⟩ := h
    have e1 := rdC_ch h1; have e3 := rdT_tg hm h3; have e4 := rdT_tg hm h4
    simp [lnW, lnN, lnX, rdL_cons, shOf, lkS, itemsOf, rdW, e1, e3, e4, isN_s, isN_i, tg_notN, lnR, lnD, lnI, List.zipIdx]
  | count a ts =>
    obtain ⟨h1, h2, h3, h4⟩ := h
    have e1 := rdC_ch h1
    obtain ⟨t0, tr, rfl⟩ : ∃ a b, ts = a :: b := by
      cases ts with
      | nil => simp at h2
      | cons a b => exact ⟨a, b, rfl⟩
    have hlen : (lnW at_ (.count a (t0 :: tr))).length = 3 + (t0 :: tr).length := by simp [lnW, lnX]; omega
    have hs : shOf nCount (3 + (t0 :: tr).length) = some (99 :: List.replicate (t0 :: tr).length 116) := by
      show some (if ([99, 115] : List Nat) = [99, 115] then _ else _) = _
      rw [if_pos rfl]
      congr 3
      have h2' := h2
      have h3' := h3
      generalize (t0 :: tr).length = k at *
      omega
    have hi : itemsOf (99 :: List.replicate (t0 :: tr).length 116) (lnW at_ (.count a (t0 :: tr))) chars many = .str [a] :: (t0 :: tr).map tgD := by
      unfold itemsOf
      rw [List.zipIdx_cons, List.map_cons]
      congr 1
      apply List.ext_getElem?
      intro j
      rw [List.getElem?_map, List.getElem?_zipIdx, List.getElem?_map]
      by_cases hj : j < (t0 :: tr).length
      · have g1 : (List.replicate (t0 :: tr).length 116)[j]? = some 116 := List.getElem?_replicate_of_lt hj
        have g2 : (t0 :: tr)[j]? = some (t0 :: tr)[j] := List.getElem?_eq_getElem hj
        rw [g1, g2]
        have g3 : (lnW at_ (.count a (t0 :: tr))).getD (0 + 1 + j + 2) [] = tgW (t0 :: tr)[j] := by
          rw [show 0 + 1 + j + 2 = j + 3 by omega, List.getD_eq_getElem?_getD]
          show (((t0 :: tr).map tgW)[j]?).getD [] = _
          rw [List.getElem?_map, g2]
          rfl
        show some (rdW 116 ((lnW at_ (.count a (t0 :: tr))).getD (0 + 1 + j + 2) []) chars many) = some (tgD (t0 :: tr)[j])
        rw [g3]
        congr 1
        show (if (116 : Nat) = 99 then _ else if (116 : Nat) = 116 then rdT _ many else _) = _
        rw [if_neg (by omega), if_pos rfl]
        exact rdT_tg hm (h4 _ (List.getElem_mem _))
      · have g1 : (List.replicate (t0 :: tr).length 116)[j]? = none := by rw [List.getElem?_eq_none]; simp at hj ⊢; omega
        have g2 : (t0 :: tr)[j]? = none := List.getElem?_eq_none (by omega)
        rw [g1, g2]
        rfl
    have hany : ((D.str [a] :: (t0 :: tr).map tgD).any isN) = false := by
      rw [List.any_eq_false]
      intro d hd
      rcases List.mem_cons.1 hd with rfl | hd
      · simp [isN]
      · obtain ⟨t, _, rfl⟩ := List.mem_map.1 hd
        simp [tg_notN]
    have e : lnW at_ (.count a (t0 :: tr)) = decI (at_ : Int) :: nCount :: [a] :: (t0 :: tr).map tgW := rfl
    rw [e, rdL_cons, ← e, hlen, if_pos rfl, hs]
    show (if 3 + (t0 :: tr).length = (99 :: List.replicate (t0 :: tr).length 116).length + 2 then _ else _) = _
    rw [if_pos (by simp; omega), hi, hany, if_neg (by simp), if_pos rfl]
    rfl
end Lw

set_option maxRecDepth 100000
set_option autoImplicit false
set_option linter.all false
namespace Lw
open E
inductive It where
  | ch (a : Nat) | tg (t : Tg) | tgs (ts : List Tg)
def itD : It → D
  | .ch a => .str [a]
  | .tg t => tgD t
  | .tgs ts => .tup (ts.map tgD)
def itW : It → List (List Nat)
  | .ch a => [[a]]
  | .tg t => [tgW t]
  | .tgs ts => ts.map tgW
def itN : It → List Nat
  | .ch a => [a]
  | .tg t => tgW t
  | .tgs ts => joinT [32] (ts.map tgW)
def lnIt : Ln → List It
  | .change a b t => [.ch a, .ch b, .tg t]
  | .swap a b t => [.ch a, .ch b, .tg t]
  | .first a b t u => [.ch a, .ch b, .tg t, .tg u]
  | .every a b n t u => [.ch a, .ch b, .tg (.st n), .tg t, .tg u]
  | .count a ts => [.ch a, .tgs ts]
  | .leads a t u => [.ch a, .tg t, .tg u]
theorem lnI_eq (l : Ln) : lnI l = (lnIt l).map itD := by cases l <;> rfl
theorem lnX_eq (l : Ln) : lnX l = (lnIt l).flatMap itW := by cases l <;> simp [lnX, lnIt, itW, tgW]
def lnS : Ln → List Nat
  | .change .. => [99, 99, 116]
  | .swap .. => [99, 99, 116]
  | .first .. => [99, 99, 116, 116]
  | .every .. => [99, 99, 110, 116, 116]
  | .count .. => [99, 115]
  | .leads .. => [99, 116, 116]
theorem lnS_lk (l : Ln) : lkS KS VS (lnN l) = some (lnS l) := by cases l <;> rfl
def ItOk (chars : List Nat) (many s : Nat) : It → Prop
  | .ch a => s = 99 ∧ a ∈ chars
  | .tg t => (s = 116 ∧ TgOk many t) ∨ (s = 110 ∧ ∃ n, t = .st n ∧ 1 ≤ n ∧ n ≤ 6)
  | .tgs ts => s = 115 ∧ 1 ≤ ts.length ∧ ts.length ≤ 6 ∧ ∀ t ∈ ts, TgOk many t
def All2 (P : Nat → It → Prop) : List Nat → List It → Prop
  | [], [] => True
  | s :: sh, i :: its => P s i ∧ All2 P sh its
  | _, _ => False
theorem All2.len {P : Nat → It → Prop} : ∀ {sh : List Nat} {its : List It}, All2 P sh its → sh.length = its.length
  | [], [], _ => rfl
  | _ :: _, _ :: _, h => by simp [All2.len h.2]
  | [], _ :: _, h => h.elim
  | _ :: _, [], h => h.elim
theorem All2.get {P : Nat → It → Prop} : ∀ {sh : List Nat} {its : List It}, All2 P sh its → ∀ {j s : Nat}, sh[j]? = some s → ∃ it, its[j]? = some it ∧ P s it
  | [], [], _, j, s, h => by simp at h
  | _ :: _, _ :: _, h, 0, s, hj => by
    simp at hj
    subst hj
    exact ⟨_, rfl, h.1⟩
  | _ :: _, _ :: _, h, j + 1, s, hj => by
    simp at hj
    obtain ⟨it, h1, h2⟩ := All2.get h.2 hj
    exact ⟨it, by simpa using h1, h2⟩
  | [], _ :: _, h, _, _, _ => h.elim
  | _ :: _, [], h, _, _, _ => h.elim
theorem ln_all (chars : List Nat) (many : Nat) (l : Ln) (h : LnOk chars many l) : All2 (ItOk chars many) (lnS l) (lnIt l) := by
  cases l with
  | change a b t => exact ⟨⟨rfl, h.1⟩, ⟨rfl, h.2.1⟩, .inl ⟨rfl, h.2.2⟩, trivial⟩
  | swap a b t => exact ⟨⟨rfl, h.1⟩, ⟨rfl, h.2.1⟩, .inl ⟨rfl, h.2.2⟩, trivial⟩
  | first a b t u => exact ⟨⟨rfl, h.1⟩, ⟨rfl, h.2.1⟩, .inl ⟨rfl, h.2.2.1⟩, .inl ⟨rfl, h.2.2.2⟩, trivial⟩
  | every a b n t u => exact ⟨⟨rfl, h.1⟩, ⟨rfl, h.2.1⟩, .inr ⟨rfl, n, rfl, h.2.2.1, h.2.2.2.1⟩, .inl ⟨rfl, h.2.2.2.2.1⟩, .inl ⟨rfl, h.2.2.2.2.2⟩, trivial⟩
  | count a ts => exact ⟨⟨rfl, h.1⟩, ⟨rfl, h.2⟩, trivial⟩
  | leads a t u => exact ⟨⟨rfl, h.1⟩, .inl ⟨rfl, h.2.1⟩, .inl ⟨rfl, h.2.2⟩, trivial⟩
/-! ### one item -/
def TgS : Tg → Prop
  | .st n => n < 1000
  | _ => True
theorem TgOk.s {many : Nat} (hm : many ≤ 100) {t : Tg} (h : TgOk many t) : TgS t := by
  cases t with
  | st n => exact Nat.lt_of_lt_of_le h (by omega)
  | _ => trivial
theorem str_num (n : Nat) (h : n < 1000) : biF .str [.int (n : Int)] = .ok (.str (decI (n : Int))) := by
  show (if (n : Int).natAbs < 18446744073709551616 then Res.ok (D.str (decI (n : Int))) else .bad) = _
  exact if_pos (by omega)
theorem tnote_ok (t : Tg) (h : TgS t) : F_target_note [tgD t] = .ok (.str (tgW t)) := by
  cases t with
  | yes => rfl
  | no => rfl
  | st n =>
    have := str_num n h
    simp only [F_target_note, run, b_target_note]
    simp [tgD, tgW, dIs, this]
theorem lword_ok (t : Tg) (h : TgS t) : F__law_word [tgD t] = .ok (.str (tgW t)) := by
  cases t with
  | yes => rfl
  | no => rfl
  | st n =>
    have := str_num n h
    simp only [F__law_word, run, b__law_word]
    simp [tgD, tgW, kdOk, isKd, this]
theorem whole_i (i : Int) : F_is_whole [.int i] = .ok (.bl true) := rfl
theorem Pit1 : P_is_target 1 = F_is_whole := by unfold P_is_target; rfl
theorem target_ok (t : Tg) (many : Nat) (h : TgOk many t) : F_is_target [tgD t, .int (many : Int)] = .ok (.bl true) := by
  simp only [F_is_target, run, b_is_target]
  cases t with
  | yes => simp [tgD, dIs]
  | no => simp [tgD, dIs]
  | st n =>
    have h : n < many := h
    simp [tgD, dIs, Pit1, whole_i, chnF, h]
theorem Pii1 : P_is_item 1 = F_is_whole := by unfold P_is_item; rfl
theorem Pii5 : P_is_item 5 = F_is_target := by unfold P_is_item; rfl
theorem bools_all {α : Type} (xs : List α) : biF .all [.lst (xs.map fun _ => D.bl true)] = .ok (.bl true) := by
  have : boolsD (xs.map fun _ => D.bl true) = some (xs.map fun _ => true) := by
    induction xs with
    | nil => rfl
    | cons _ r ih => simp [boolsD, ih]
  show om (boolsD _) _ = _
  rw [this, om_some]
  simp
theorem item_ok (chars : List Nat) (many s : Nat) (it : It) (h : ItOk chars many s it) : F_is_item [.str [s], itD it, .str chars, .int (many : Int)] = .ok (.bl true) := by
  simp only [F_is_item, run, b_is_item]
  cases it with
  | ch a =>
    obtain ⟨rfl, h⟩ := h
    have h1 := inS a chars
    have : chars.contains a = true := by simpa using h
    rw [this] at h1
    have h2 := len_s' (s := [a]) (by simp)
    generalize fo_is_item_1 = f1
    simp [itD, kdOk, isKd, h1, h2]
  | tg t =>
    rcases h with ⟨rfl, h⟩ | ⟨rfl, n, rfl, h1, h2⟩
    · have := target_ok t many h
      generalize fo_is_item_1 = f1
      simp [itD, Pii5, this]
    · have a1 : (1 : Int) ≤ (n : Int) := by omega
      have a2 : (n : Int) ≤ 6 := by omega
      generalize fo_is_item_1 = f1
      simp [itD, tgD, Pii1, whole_i, chnF, a1, a2]
  | tgs ts =>
    obtain ⟨rfl, h1, h2, h3⟩ := h
    have hlc : ev P_is_item sub fo_is_item_1 [some (.str [115]), some (.tup (ts.map tgD)), some (.str chars), some (.int (many : Int)), none] = .ok (.lst (ts.map fun _ => D.bl true)) :=
      lcm_ok _ _ _ _ _ _ _ (.tup (ts.map tgD)) ts tgD _ (by simp) rfl (by omega) fun t ht => ⟨_, rfl, by
        have := target_ok t many (h3 t ht)
        generalize tgD t = d at this ⊢
        generalize D.tup (ts.map tgD) = dd
        simp [Pii5, this]⟩
    have hall := bools_all ts
    generalize fo_is_item_1 = f1 at hlc
    have a1 : (1 : Int) ≤ (ts.length : Int) := by omega
    have a2 : (ts.length : Int) ≤ 6 := by omega
    have hk : kdOk (.tup (ts.map tgD)) = true := rfl
    have hk2 : isKd (.tup (ts.map tgD)) .tup = true := rfl
    have hl : biF .len [.tup (ts.map tgD)] = .ok (.int (ts.length : Int)) := by simp
    show fin (evS P_is_item sub FUEL _ [some (.str [115]), some (.tup (ts.map tgD)), some (.str chars), some (.int (many : Int)), none]) = _
    generalize D.tup (ts.map tgD) = dd at *
    generalize D.lst (ts.map fun _ => D.bl true) = dl at *
    simp [hk, hk2, hl, chnF, a1, a2, hlc, hall]
/-! ### one line -/
theorem Pil7 : P_is_line 7 = F_is_item := by unfold P_is_line; rfl
theorem gdx_ln (l : Ln) : dGdx KS VS (.str (lnN l)) = .ok (.str (lnS l)) := by
  show om (lkS KS VS (lnN l)) (fun v => Res.ok (D.str v)) = _
  rw [lnS_lk, om_some]
theorem gdi_ln (l : Ln) : dGdi true KS VS (.str (lnN l)) = .ok (.bl false) := by
  show Res.ok (D.bl ((lkS KS VS (lnN l)).isSome != true)) = _
  rw [lnS_lk]
  rfl
theorem lnD_ix (l : Ln) (j : Nat) (it : It) (h : (lnIt l)[j]? = some it) : dIdx (lnD l) (.int ((j + 1 : Nat) : Int)) = .ok (itD it) := by
  refine idx_t (.str (lnN l) :: lnI l) (j + 1) _ ?_
  rw [List.getElem?_cons_succ, lnI_eq, List.getElem?_map, h]
  rfl
theorem lnD_ix0 (l : Ln) : dIdx (lnD l) (.int 0) = .ok (.str (lnN l)) := idx_t (.str (lnN l) :: lnI l) 0 _ rfl
theorem enum_s (sh : List Nat) : biF .enum [.str sh] = .ok (.lst (sh.zipIdx.map fun p => D.tup [.int (p.2 : Int), .str [p.1]])) := by
  have := enumD_zip (fun c : Nat => D.str [c]) sh 0
  show Res.ok (D.lst (enumD (sh.map fun c => D.str [c]) 0)) = _
  rw [← this]
  rfl
theorem lnS_len (l : Ln) : (lnS l).length ≤ 5 := by cases l <;> simp [lnS]
theorem zip_get {sh : List Nat} {c i : Nat} (h : (c, i) ∈ sh.zipIdx) : sh[i]? = some c := by
  have := List.mem_zipIdx h
  simp at this
  rw [List.getElem?_eq_getElem (by omega)]
  congr 1
  exact this.2.symm
theorem line_ok (chars : List Nat) (many : Nat) (l : Ln) (h : LnOk chars many l) : F_is_line [lnD l, .str chars, .int (many : Int)] = .ok (.bl true) := by
  have ha := ln_all chars many l h
  have hx := gdx_ln l
  have hg := gdi_ln l
  have i0 := lnD_ix0 l
  have hls := len_s' (s := lnS l) (by have := lnS_len l; omega)
  have hen := enum_s (lnS l)
  have hlen : biF .len [lnD l] = .ok (.int ((lnS l).length + 1 : Nat)) := by
    rw [ha.len]
    show Res.ok (D.int ((D.str (lnN l) :: lnI l).length : Int)) = _
    rw [lnI_eq]
    simp
  have hlc : ev P_is_line sub fo_is_line_1 [some (lnD l), some (.str chars), some (.int (many : Int)), some (.str (lnS l)), none, none] = .ok (.lst ((lnS l).zipIdx.map fun _ => D.bl true)) := by
    refine lcm_ok _ _ _ _ _ _ _ (.lst ((lnS l).zipIdx.map fun p => D.tup [.int (p.2 : Int), .str [p.1]])) (lnS l).zipIdx (fun p => D.tup [.int (p.2 : Int), .str [p.1]]) _ (by simp [hen]) rfl (by have := lnS_len l; simp; omega) fun p hp => ⟨_, rfl, ?_⟩
    obtain ⟨c, i⟩ := p
    obtain ⟨it, h1, h2⟩ := ha.get (zip_get hp)
    have h3 := lnD_ix l i it h1
    have h4 := item_ok chars many c it h2
    have ei : (i : Int) + 1 = ((i + 1 : Nat) : Int) := by omega
    generalize ((i + 1 : Nat) : Int) = k at *
    generalize lnD l = ld at *
    generalize lnS l = ls at *
    show ev P_is_line sub _ [some ld, some (.str chars), some (.int (many : Int)), some (.str ls), some (.int (i : Int)), some (.str [c])] = _
    simp [Pil7, ei, h3, h4]
  have hall := bools_all (lnS l).zipIdx
  have hk : kdOk (lnD l) = true := rfl
  have hk2 : isKd (lnD l) .tup = true := rfl
  simp only [KS, VS, nChange, nSwap, nFirst, nEvery, nCount, nLeads] at hg hx
  simp only [F_is_line, run, b_is_line]
  generalize fo_is_line_1 = f1 at hlc
  generalize D.lst ((lnS l).zipIdx.map fun _ => D.bl true) = dl at *
  have e1 : (((lnS l).length + 1 : Nat) : Int) = ((lnS l).length : Int) + 1 := by omega
  have e2 : ¬ (((lnS l).length + 1 : Nat) : Int) = 0 := by omega
  generalize ((((lnS l).length + 1 : Nat) : Int)) = k at *
  generalize ((lnS l).length : Int) = k1 at *
  generalize lnD l = ld at *
  generalize lnS l = ls at *
  generalize lnN l = ln at *
  subst e1
  simp [hk, hk2, hlen, i0, hg, hx, hls, hlc, hall, e2]
end Lw

set_option maxRecDepth 100000
set_option autoImplicit false
set_option linter.all false
namespace Lw
open E
/-! ### words -/
abbrev SD (ts : List (List Nat)) : D := .lst (ts.map D.str)
structure WOk (w : List Nat) : Prop where
  f32 : 32 ∉ w
  f10 : 10 ∉ w
  len : w.length ≤ 12
structure WsOk (ws : List (List Nat)) : Prop where
  ne : ws ≠ []
  all : ∀ w ∈ ws, WOk w
  len : ws.length ≤ 30
theorem join_len (s : List Nat) : ∀ (ws : List (List Nat)) (k : Nat), (∀ w ∈ ws, w.length ≤ k) → (joinT s ws).length ≤ ws.length * (k + s.length)
  | [], k, _ => by simp [joinT]
  | [x], k, h => by
    have := h x List.mem_cons_self
    show x.length ≤ 1 * (k + s.length)
    omega
  | x :: y :: r, k, h => by
    have h1 := h x List.mem_cons_self
    have h2 := join_len s (y :: r) k fun w hw => h w (List.mem_cons_of_mem _ hw)
    show (x ++ s ++ joinT s (y :: r)).length ≤ _
    rw [List.length_append, List.length_append, List.length_cons, Nat.add_mul]
    omega
theorem WsOk.jlen {ws : List (List Nat)} (h : WsOk ws) : (joinT [32] ws).length ≤ 400 := by
  have h1 := join_len [32] ws 12 fun w hw => (h.all w hw).len
  have h2 := h.len
  have : ws.length * (12 + ([32] : List Nat).length) ≤ 30 * 13 := Nat.mul_le_mul_right _ h2
  omega
theorem WsOk.f10 {ws : List (List Nat)} (h : WsOk ws) : 10 ∉ joinT [32] ws := join_free 10 [32] (by simp) ws fun w hw => (h.all w hw).f10
theorem WsOk.split {ws : List (List Nat)} (h : WsOk ws) : meth .split (.str (joinT [32] ws)) [.str [32]] = .ok (SD ws) := split_ok 32 (by omega) ws h.ne (fun w hw => (h.all w hw).f32) (by have := h.jlen; omega)
theorem WsOk.join {ws : List (List Nat)} (h : WsOk ws) : meth .join (.str [32]) [SD ws] = .ok (.str (joinT [32] ws)) := joinS_ok [32] ws (by have := h.len; omega) (by simp) fun w hw => by have := (h.all w hw).len; omega
theorem num_w (n : Nat) (h : n < 1000) : WOk (decI (n : Int)) := by
  refine ⟨fun hc => ?_, fun hc => ?_, ?_⟩
  · have := decI_dig n 32 hc; omega
  · have := decI_dig n 10 hc; omega
  · have : (decI (n : Int)).length ≤ 3 := by rw [decI_num]; exact TL.numL_len (k := 3) (by omega) (by omega)
    omega
theorem tg_w (t : Tg) (h : TgS t) : WOk (tgW t) := by
  cases t with
  | yes => exact ⟨by decide, by decide, by decide⟩
  | no => exact ⟨by decide, by decide, by decide⟩
  | st n => exact num_w n h
def ChOk (chars : List Nat) : Prop := ∀ c ∈ chars, 65 ≤ c
theorem ch_w {a : Nat} (h : 65 ≤ a) : WOk [a] := ⟨by simp; omega, by simp; omega, by simp⟩
theorem ItOk.w {chars : List Nat} {many s : Nat} {it : It} (hm : many ≤ 100) (hc : ChOk chars) (h : ItOk chars many s it) : (∀ w ∈ itW it, WOk w) ∧ (itW it).length ≤ 6 := by
  cases it with
  | ch a => exact ⟨fun w hw => by rw [List.mem_singleton.1 hw]; exact ch_w (hc a h.2), by simp [itW]⟩
  | tg t =>
    refine ⟨fun w hw => ?_, by simp [itW]⟩
    rw [List.mem_singleton.1 hw]
    rcases h with ⟨_, h⟩ | ⟨_, n, rfl, _, h2⟩
    · exact tg_w t (h.s hm)
    · exact tg_w (.st n) (show n < 1000 by omega)
  | tgs ts =>
    refine ⟨fun w hw => ?_, by simpa [itW] using h.2.2.1⟩
    obtain ⟨t, ht, rfl⟩ := List.mem_map.1 hw
    exact tg_w t ((h.2.2.2 t ht).s hm)
theorem All2.mem {P : Nat → It → Prop} : ∀ {sh : List Nat} {its : List It}, All2 P sh its → ∀ it ∈ its, ∃ s, P s it
  | [], [], _, it, h => by simp at h
  | s :: _, i :: _, h, it, hi => by
    rcases List.mem_cons.1 hi with rfl | hi
    · exact ⟨s, h.1⟩
    · exact All2.mem h.2 it hi
  | [], _ :: _, h, _, _ => h.elim
  | _ :: _, [], h, _, _ => h.elim
theorem lnN_w (l : Ln) : WOk (lnN l) := by
  have key : ∀ w ∈ KS, (32 ∉ w ∧ 10 ∉ w ∧ w.length ≤ 12) := by decide
  have : lnN l ∈ KS := by cases l <;> simp [lnN]
  exact ⟨(key _ this).1, (key _ this).2.1, (key _ this).2.2⟩
theorem lnIt_len (l : Ln) : (lnIt l).length ≤ 5 := by cases l <;> simp [lnIt]
theorem flat_len {α : Type} (f : α → List (List Nat)) : ∀ l : List α, (∀ a ∈ l, (f a).length ≤ 6) → (l.flatMap f).length ≤ l.length * 6
  | [], _ => by simp
  | a :: l, h => by
    have h1 := h a List.mem_cons_self
    have h2 := flat_len f l fun x hx => h x (List.mem_cons_of_mem _ hx)
    rw [List.flatMap_cons, List.length_append, List.length_cons, Nat.add_mul]
    omega
theorem lnX_w {chars : List Nat} {many : Nat} (hm : many ≤ 100) (hc : ChOk chars) {l : Ln} (h : LnOk chars many l) : (∀ w ∈ lnX l, WOk w) ∧ (lnX l).length ≤ 28 := by
  have ha := ln_all chars many l h
  constructor
  · intro w hw
    rw [lnX_eq] at hw
    obtain ⟨it, h1, h2⟩ := List.mem_flatMap.1 hw
    obtain ⟨s, hs⟩ := ha.mem it h1
    exact (hs.w hm hc).1 w h2
  · cases l with
    | count a ts => have := h.2.2.1; simp [lnX]; omega
    | _ => simp [lnX]
theorem lnW_ok {chars : List Nat} {many : Nat} (hm : many ≤ 100) (hc : ChOk chars) {l : Ln} (h : LnOk chars many l) {at_ : Nat} (ha : at_ < 1000) : WsOk (lnW at_ l) := by
  obtain ⟨h1, h2⟩ := lnX_w hm hc h
  refine ⟨by simp [lnW], fun w hw => ?_, by simp [lnW]; omega⟩
  rcases List.mem_cons.1 hw with rfl | hw
  · exact num_w at_ ha
  · rcases List.mem_cons.1 hw with rfl | hw
    · exact lnN_w l
    · exact h1 w hw
/-! ### the law's note -/
theorem Pn24 : P__law_note 24 = F__law_word := by unfold P__law_note; rfl
theorem note_step {chars : List Nat} {many s : Nat} (hm : many ≤ 100) (it : It) (h : ItOk chars many s it) (x0 x1 x3 x4 : Option D) (ws : List (List Nat)) (hl : ws.length ≤ 1000) :
    ∃ y3 y4, (fun d e => omO (asg [3] true d e) (evS P__law_note sub FUEL lb__law_note_1)) (itD it) [x0, x1, some (SD ws), x3, x4] = .nx [x0, x1, some (SD (ws ++ itW it)), y3, y4] := by
  cases it with
  | ch a =>
    refine ⟨some (.str [a]), x4, ?_⟩
    have hm : muF .append 2 (evL P__law_note sub (.cons (.var 3) .nil)) [x0, x1, some (SD ws), some (.str [a]), x4] = .nx [x0, x1, some (SD (ws ++ [[a]])), some (.str [a]), x4] := by
      rw [mu_app (l := ws.map D.str) (d := .str [a]) rfl (by simp) (lim_lt (by simp; omega))]
      simp
    show omO (asg [3] true (D.str [a]) _) _ = _
    generalize SD ws = dw at *
    show _ = Out.nx [x0, x1, some (SD (ws ++ [[a]])), some (.str [a]), x4]
    generalize SD (ws ++ [[a]]) = dw2 at *
    simp [kdOk, isKd, hm]
  | tg t =>
    have hts : TgS t := by
      rcases h with ⟨_, h⟩ | ⟨_, n, rfl, _, h2⟩
      · exact h.s hm
      · exact (show n < 1000 by omega)
    refine ⟨some (tgD t), x4, ?_⟩
    have hw := lword_ok t hts
    have hm : muF .append 2 (evL P__law_note sub (.cons (.call 24 [95, 108, 97, 119, 95, 119, 111, 114, 100] (.cons (.var 3) .nil)) .nil)) [x0, x1, some (SD ws), some (tgD t), x4] = .nx [x0, x1, some (SD (ws ++ [tgW t])), some (tgD t), x4] := by
      rw [mu_app (l := ws.map D.str) (d := .str (tgW t)) rfl (by
        generalize tgD t = td at *
        generalize SD ws = dw
        simp [Pn24, hw]) (lim_lt (by simp; omega))]
      simp
    have hk : kdOk (tgD t) = true ∧ isKd (tgD t) .tup = false ∧ isKd (tgD t) .str = false := by cases t <;> exact ⟨rfl, rfl, rfl⟩
    show omO (asg [3] true (tgD t) _) _ = Out.nx [x0, x1, some (SD (ws ++ [tgW t])), some (tgD t), x4]
    generalize SD ws = dw at *
    generalize SD (ws ++ [tgW t]) = dw2 at *
    generalize tgD t = td at *
    simp [hk.1, hk.2.1, hk.2.2, hm]
  | tgs ts =>
    have hts : ∀ t ∈ ts, TgS t := fun t ht => (h.2.2.2 t ht).s hm
    refine ⟨some (.tup (ts.map tgD)), x4, ?_⟩
    have hlc : ev P__law_note sub fo__law_note_2 [x0, x1, some (SD ws), some (.tup (ts.map tgD)), x4] = .ok (.lst (ts.map fun t => D.str (tgW t))) :=
      lcm_ok _ _ _ _ _ _ _ (.tup (ts.map tgD)) ts tgD _ (by simp) rfl (by have := h.2.2.1; omega) fun t ht => ⟨_, rfl, by
        have := lword_ok t (hts t ht)
        generalize D.tup (ts.map tgD) = dd
        generalize tgD t = td at *
        simp [Pn24, this]⟩
    have hadd : dAdd (SD ws) (.lst (ts.map fun t => D.str (tgW t))) = .ok (SD (ws ++ ts.map tgW)) := by
      refine (addL (by have := h.2.2.1; simp; omega)).trans ?_
      simp [SD, List.map_map, Function.comp_def]
    have hk : kdOk (.tup (ts.map tgD)) = true := rfl
    have hk2 : isKd (.tup (ts.map tgD)) .tup = true := rfl
    have hon : onlyL (SD (ws ++ ts.map tgW)) = .ok (SD (ws ++ ts.map tgW)) := rfl
    show omO (asg [3] true (.tup (ts.map tgD)) _) (evS P__law_note sub FUEL (.seq (.if_ (.isi (.var 3) .tup) (.seq (.own 2 (.op .add (.var 2) fo__law_note_2)) .skip) (.seq (.if_ (.isi (.var 3) .str) (.seq (.mu .append 2 (.cons (.var 3) .nil)) .skip) (.seq (.mu .append 2 (.cons (.call 24 [95, 108, 97, 119, 95, 119, 111, 114, 100] (.cons (.var 3) .nil)) .nil)) .skip)) .skip)) .skip)) = Out.nx [x0, x1, some (SD (ws ++ ts.map tgW)), some (.tup (ts.map tgD)), x4]
    generalize fo__law_note_2 = f2 at hlc
    generalize SD (ws ++ ts.map tgW) = dw2 at *
    generalize SD ws = dw at *
    generalize D.tup (ts.map tgD) = dd at *
    generalize D.lst (ts.map fun t => D.str (tgW t)) = dl at *
    simp [hk, hk2, hlc, hadd, hon]
theorem note_loop {chars : List Nat} {many : Nat} (hm : many ≤ 100) (x0 x1 : Option D) : ∀ (its : List It) (sh : List Nat), All2 (ItOk chars many) sh its → (∀ it ∈ its, (itW it).length ≤ 6) → ∀ (ws : List (List Nat)) (x3 x4 : Option D), ws.length + 6 * its.length ≤ 1000 →
    ∃ y3 y4, forL (fun d e => omO (asg [3] true d e) (evS P__law_note sub FUEL lb__law_note_1)) (its.map itD) [x0, x1, some (SD ws), x3, x4] = .nx [x0, x1, some (SD (ws ++ its.flatMap itW)), y3, y4]
  | [], _, _, _, ws, x3, x4, _ => ⟨x3, x4, by simp⟩
  | it :: its, [], h, _, _, _, _, _ => h.elim
  | it :: its, s :: sh, h, h6, ws, x3, x4, hl => by
    obtain ⟨z3, z4, e1⟩ := note_step hm it h.1 x0 x1 x3 x4 ws (by simp at hl; omega)
    have hi := h6 it List.mem_cons_self
    obtain ⟨y3, y4, e2⟩ := note_loop hm x0 x1 its sh h.2 (fun i hi => h6 i (List.mem_cons_of_mem _ hi)) (ws ++ itW it) z3 z4 (by simp at hl ⊢; omega)
    refine ⟨y3, y4, ?_⟩
    rw [List.map_cons, forL_nx e1, e2]
    simp
theorem note_ok {chars : List Nat} {many : Nat} (hm : many ≤ 100) (hc : ChOk chars) {l : Ln} (h : LnOk chars many l) (at_ : Nat) (ha : at_ < 1000) : F__law_note [.int (at_ : Int), lnD l] = .ok (.str (joinT [32] (lnW at_ l))) := by
  have hall := ln_all chars many l h
  have h6 : ∀ it ∈ lnIt l, (itW it).length ≤ 6 := fun it hi => by
    obtain ⟨s, hs⟩ := hall.mem it hi
    exact (hs.w hm hc).2
  have hl5 := lnIt_len l
  obtain ⟨y3, y4, e⟩ := note_loop hm (some (.int (at_ : Int))) (some (lnD l)) (lnIt l) (lnS l) hall h6 [decI (at_ : Int), lnN l] none none (by simp; omega)
  rw [← lnX_eq] at e
  have hst := str_num at_ ha
  have i0 := lnD_ix0 l
  have hsl : dSlc (lnD l) (.int 1) .non = .ok (.tup (lnI l)) := slcT_from (.str (lnN l) :: lnI l) 1
  have hj := (lnW_ok hm hc h ha).join
  have hf : evS P__law_note sub FUEL fo__law_note_1 [some (.int (at_ : Int)), some (lnD l), some (.lst [.str (decI (at_ : Int)), .str (lnN l)]), none, none] = .nx [some (.int (at_ : Int)), some (lnD l), some (SD (lnW at_ l)), y3, y4] := by
    rw [evS_for]
    have : ev P__law_note sub (.slc (.var 1) (.int 1) .nil) [some (.int (at_ : Int)), some (lnD l), some (.lst [.str (decI (at_ : Int)), .str (lnN l)]), none, none] = .ok (.tup (lnI l)) := by
      generalize lnD l = ld at hsl ⊢
      simp [prt, isPart, hsl]
    rw [this, out_ok, items_t, omO_some, lnI_eq]
    exact e
  simp only [F__law_note, run, b__law_note]
  generalize fo__law_note_1 = f1 at hf
  generalize SD (lnW at_ l) = dw at *
  generalize joinT [32] (lnW at_ l) = jw at *
  generalize lnD l = ld at *
  generalize lnN l = ln at *
  generalize decI (at_ : Int) = da at *
  simp [hst, i0, hf, hj, isStr_s, lim_le]
end Lw

set_option maxRecDepth 100000
set_option autoImplicit false
set_option linter.all false
namespace Lw
open E
theorem fmt1_s (s : List Nat) (h : s.length ≤ 1000000) : fmt1 (.str s) = .ok s := if_pos (lim_le h)
/-! ### format_program -/
theorem Pin9 : P_item_note 9 = F_target_note := by unfold P_item_note; rfl
theorem inote_ok {chars : List Nat} {many s : Nat} (hm : many ≤ 100) (it : It) (h : ItOk chars many s it) : F_item_note [.str [s], itD it] = .ok (.str (itN it)) ∧ (itN it).length ≤ 100 := by
  cases it with
  | ch a =>
    obtain ⟨rfl, _⟩ := h
    refine ⟨?_, by simp [itN]⟩
    simp only [F_item_note, run, b_item_note]
    generalize fo_item_note_1 = f1
    simp [itD, itN]
  | tg t =>
    have hts : TgS t := by
      rcases h with ⟨_, h⟩ | ⟨_, n, rfl, _, h2⟩
      · exact h.s hm
      · exact (show n < 1000 by omega)
    have hw := tnote_ok t hts
    refine ⟨?_, by have := (tg_w t hts).len; simp [itN]; omega⟩
    simp only [F_item_note, run, b_item_note]
    generalize fo_item_note_1 = f1
    show fin (evS P_item_note sub FUEL _ [some (.str [s]), some (tgD t), none]) = .ok (.str (tgW t))
    generalize tgD t = td at *
    rcases h with ⟨rfl, _⟩ | ⟨rfl, _⟩ <;> simp [Pin9, hw]
  | tgs ts =>
    obtain ⟨rfl, h1, h2, h3⟩ := h
    have hlc : ev P_item_note sub fo_item_note_1 [some (.str [115]), some (.tup (ts.map tgD)), none] = .ok (.lst (ts.map fun t => D.str (tgW t))) :=
      lcm_ok _ _ _ _ _ _ _ (.tup (ts.map tgD)) ts tgD _ (by simp) rfl (by omega) fun t ht => ⟨_, rfl, by
        have := tnote_ok t ((h3 t ht).s hm)
        generalize D.tup (ts.map tgD) = dd
        generalize tgD t = td at *
        simp [Pin9, this]⟩
    have hws : WsOk (ts.map tgW) := ⟨by intro z; rw [List.map_eq_nil_iff] at z; subst z; simp at h1, fun w hw => by
      obtain ⟨t, ht, rfl⟩ := List.mem_map.1 hw
      exact tg_w t ((h3 t ht).s hm), by simp; omega⟩
    have hj := hws.join
    have e : (D.lst (ts.map fun t => D.str (tgW t))) = SD (ts.map tgW) := by simp [SD, List.map_map, Function.comp_def]
    rw [e] at hlc
    refine ⟨?_, by
      have := join_len [32] (ts.map tgW) 12 fun w hw => (hws.all w hw).len
      have h4 : (ts.map tgW).length * (12 + ([32] : List Nat).length) ≤ 6 * 13 := Nat.mul_le_mul_right _ (by simpa using h2)
      show (joinT [32] (ts.map tgW)).length ≤ 100
      omega⟩
    simp only [F_item_note, run, b_item_note]
    show fin (evS P_item_note sub FUEL _ [some (.str [115]), some (.tup (ts.map tgD)), none]) = .ok (.str (joinT [32] (ts.map tgW)))
    generalize fo_item_note_1 = f1 at hlc
    generalize SD (ts.map tgW) = dw at *
    generalize joinT [32] (ts.map tgW) = jw at *
    generalize D.tup (ts.map tgD) = dd at *
    simp [hlc, hj, isStr_s]
theorem Pfp10 : P_format_program 10 = F_item_note := by unfold P_format_program; rfl
theorem fm_in {chars : List Nat} {many : Nat} (hm : many ≤ 100) (x0 x1 x2 : Option D) (ld : D) : ∀ (sh : List Nat) (its : List It) (i : Nat), All2 (ItOk chars many) sh its → (∀ j it, its[j]? = some it → dIdx ld (.int ((i + j + 1 : Nat) : Int)) = .ok (itD it)) → ∀ (ws : List (List Nat)) (x5 x6 : Option D), ws.length + sh.length ≤ 1000 →
    ∃ y5 y6, forL (fun d e => omO (asg [5, 6] false d e) (evS P_format_program sub FUEL lb_format_program_2)) ((sh.zipIdx i).map fun p => D.tup [.int (p.2 : Int), .str [p.1]]) [x0, x1, x2, some ld, some (SD ws), x5, x6] = .nx [x0, x1, x2, some ld, some (SD (ws ++ its.map itN)), y5, y6]
  | [], [], i, _, _, ws, x5, x6, _ => ⟨x5, x6, by simp⟩
  | [], _ :: _, _, h, _, _, _, _, _ => h.elim
  | _ :: _, [], _, h, _, _, _, _, _ => h.elim
  | s :: sh, it :: its, i, h, hix, ws, x5, x6, hl => by
    obtain ⟨y5, y6, e⟩ := fm_in hm x0 x1 x2 ld sh its (i + 1) h.2 (fun j it' hj => by
      have := hix (j + 1) it' (by simpa using hj)
      rw [show i + 1 + j + 1 = i + (j + 1) + 1 by omega]
      exact this) (ws ++ [itN it]) (some (.int (i : Int))) (some (.str [s])) (by simp at hl ⊢; omega)
    refine ⟨y5, y6, ?_⟩
    have hi := (inote_ok hm it h.1).1
    have hd := hix 0 it rfl
    have ei : (i : Int) + 1 = ((i + 0 + 1 : Nat) : Int) := by omega
    have step : (fun d e => omO (asg [5, 6] false d e) (evS P_format_program sub FUEL lb_format_program_2)) (D.tup [.int (i : Int), .str [s]]) [x0, x1, x2, some ld, some (SD ws), x5, x6] = .nx [x0, x1, x2, some ld, some (SD (ws ++ [itN it])), some (.int (i : Int)), some (.str [s])] := by
      have hmu : muF .append 4 (evL P_format_program sub (.cons (.call 10 [105, 116, 101, 109, 95, 110, 111, 116, 101] (.cons (.var 6) (.cons (.idx (.var 3) (.op .add (.var 5) (.int 1))) .nil))) .nil)) [x0, x1, x2, some ld, some (SD ws), some (.int (i : Int)), some (.str [s])] = .nx [x0, x1, x2, some ld, some (SD (ws ++ [itN it])), some (.int (i : Int)), some (.str [s])] := by
        rw [mu_app (l := ws.map D.str) (d := .str (itN it)) rfl (by
          generalize SD ws = dw
          generalize ((i + 0 + 1 : Nat) : Int) = k at *
          simp [Pfp10, ei, hd, hi]) (lim_lt (by simp at hl ⊢; omega))]
        simp
      show omO (asg [5, 6] false _ _) (evS P_format_program sub FUEL (.seq (.mu .append 4 _) .skip)) = _
      generalize SD ws = dw at *
      generalize SD (ws ++ [itN it]) = dw2 at *
      simp only [asgT, setAllS, setAll0, omO_some, List.set_cons_succ, List.set_cons_zero, evS_seq, evS_mu]
      rw [hmu, bindO_nx, evS_skip]
    rw [List.zipIdx_cons, List.map_cons, forL_nx step, e]
    simp
theorem join_note (at_ : Nat) (l : Ln) (h : ∀ a ts, l = .count a ts → ts ≠ []) : joinT [32] (decI (at_ : Int) :: lnN l :: (lnIt l).map itN) = joinT [32] (lnW at_ l) := by
  cases l with
  | count a ts =>
    have hne : ts.map tgW ≠ [] := by
      intro z
      rw [List.map_eq_nil_iff] at z
      exact h a ts rfl z
    exact join_last [32] [decI (at_ : Int), nCount, [a]] (ts.map tgW) hne
  | _ => rfl
theorem fm_step {chars : List Nat} {many : Nat} (hm : many ≤ 100) (hc : ChOk chars) (x0 : Option D) (at_ : Nat) (ha : at_ < 1000) (l : Ln) (h : LnOk chars many l) (ns : List (List Nat)) (hl : ns.length ≤ 1000) (x2 x3 x4 x5 x6 : Option D) :
    ∃ y4 y5 y6, (fun d e => omO (asg [2, 3] false d e) (evS P_format_program sub FUEL lb_format_program_1)) (D.tup [.int (at_ : Int), lnD l]) [x0, some (SD ns), x2, x3, x4, x5, x6] = .nx [x0, some (SD (ns ++ [joinT [32] (lnW at_ l)])), some (.int (at_ : Int)), some (lnD l), y4, y5, y6] := by
  have hall := ln_all chars many l h
  obtain ⟨y5, y6, e⟩ := fm_in hm x0 (some (SD ns)) (some (.int (at_ : Int))) (lnD l) (lnS l) (lnIt l) 0 hall (fun j it hj => by
    have := lnD_ix l j it hj
    rw [show 0 + j + 1 = j + 1 by omega]
    exact this) [decI (at_ : Int), lnN l] x5 x6 (by have := lnS_len l; simp; omega)
  refine ⟨some (SD ([decI (at_ : Int), lnN l] ++ (lnIt l).map itN)), y5, y6, ?_⟩
  have hst := str_num at_ ha
  have i0 := lnD_ix0 l
  have hx := gdx_ln l
  have hen := enum_s (lnS l)
  simp only [KS, VS, nChange, nSwap, nFirst, nEvery, nCount, nLeads] at hx
  have hf : evS P_format_program sub FUEL fo_format_program_2 [x0, some (SD ns), some (.int (at_ : Int)), some (lnD l), some (.lst [.str (decI (at_ : Int)), .str (lnN l)]), x5, x6] = .nx [x0, some (SD ns), some (.int (at_ : Int)), some (lnD l), some (SD ([decI (at_ : Int), lnN l] ++ (lnIt l).map itN)), y5, y6] := by
    rw [evS_for]
    have : ev P_format_program sub (.bi .enum (.cons (.gdx [83, 72, 65, 80, 69, 83] [[99, 104, 97, 110, 103, 101], [115, 119, 97, 112], [102, 105, 114, 115, 116], [101, 118, 101, 114, 121], [99, 111, 117, 110, 116], [108, 101, 97, 100, 115]] [[99, 99, 116], [99, 99, 116], [99, 99, 116, 116], [99, 99, 110, 116, 116], [99, 115], [99, 116, 116]] (.idx (.var 3) (.int 0))) .nil)) [x0, some (SD ns), some (.int (at_ : Int)), some (lnD l), some (.lst [.str (decI (at_ : Int)), .str (lnN l)]), x5, x6] = .ok (.lst ((lnS l).zipIdx.map fun p => D.tup [.int (p.2 : Int), .str [p.1]])) := by
      generalize D.lst ((lnS l).zipIdx.map fun p => D.tup [.int (p.2 : Int), .str [p.1]]) = dz at *
      generalize lnD l = ld at *
      generalize SD ns = dn at *
      generalize lnN l = ln at *
      generalize lnS l = ls at *
      simp [i0, hx, hen]
    rw [this, out_ok, items_l, omO_some]
    exact e
  have hwl : ∀ w ∈ [decI (at_ : Int), lnN l] ++ (lnIt l).map itN, w.length ≤ 1000 := fun w hw => by
    rcases List.mem_append.1 hw with z | z
    · rcases List.mem_cons.1 z with rfl | z
      · have := (num_w at_ ha).len; omega
      · rw [List.mem_singleton.1 z]; have := (lnN_w l).len; omega
    · obtain ⟨it, hi, rfl⟩ := List.mem_map.1 z
      obtain ⟨s, hs⟩ := hall.mem it hi
      have := (inote_ok hm it hs).2
      omega
  have hj : meth .join (.str [32]) [SD ([decI (at_ : Int), lnN l] ++ (lnIt l).map itN)] = .ok (.str (joinT [32] (lnW at_ l))) := by
    rw [← join_note at_ l (fun a ts e z => by subst e z; have := h.2.1; simp at this)]
    exact joinS_ok [32] _ (by have := lnIt_len l; simp; omega) (by simp) hwl
  generalize hW : [decI (at_ : Int), lnN l] ++ (lnIt l).map itN = W at *
  have hmu : muF .append 1 (evL P_format_program sub (.cons (.mt .join (.str [32]) (.cons (.var 4) .nil)) .nil)) [x0, some (SD ns), some (.int (at_ : Int)), some (lnD l), some (SD W), y5, y6] = .nx [x0, some (SD (ns ++ [joinT [32] (lnW at_ l)])), some (.int (at_ : Int)), some (lnD l), some (SD W), y5, y6] := by
    rw [mu_app (l := ns.map D.str) (d := .str (joinT [32] (lnW at_ l))) rfl (by
      generalize SD ns = dn
      generalize SD W = dW at *
      generalize lnD l = ld
      simp [isStr_s, hj]) (lim_lt (by simp; omega))]
    simp
  show omO (asg [2, 3] false _ _) (evS P_format_program sub FUEL (.seq (.own 4 (.lst (.cons (.bi .str (.cons (.var 2) .nil)) (.cons (.idx (.var 3) (.int 0)) .nil)))) (.seq fo_format_program_2 (.seq (.mu .append 1 (.cons (.mt .join (.str [32]) (.cons (.var 4) .nil)) .nil)) .skip)))) = _
  generalize fo_format_program_2 = f2 at hf
  generalize SD (ns ++ [joinT [32] (lnW at_ l)]) = dn2 at *
  generalize SD ns = dn at *
  generalize SD W = dW at *
  generalize lnD l = ld at *
  generalize lnN l = ln at *
  generalize decI (at_ : Int) = da at *
  simp only [asgT, setAllS, setAll0, omO_some, List.set_cons_succ, List.set_cons_zero, evS_seq, evS_own]
  simp only [ev_lst, evL_cons, evL_nil, ev_bi, ev_var, ev_idx, ev_int, lookS, look0, bd_ok, hst, i0]
  rw [if_pos (lim_le (by simp)), bd_ok, onlyL_l, out_ok, bindO_nx]
  show bindO (evS P_format_program sub FUEL f2 [x0, some dn, some (.int (at_ : Int)), some ld, some (.lst [.str da, .str ln]), x5, x6]) _ = _
  rw [hf, bindO_nx, evS_seq, evS_mu, hmu, bindO_nx, evS_skip]
/-- a program's notes -/
def notesOf : Nat → List Ln → List (List Nat)
  | _, [] => []
  | i, l :: ls => joinT [32] (lnW i l) :: notesOf (i + 1) ls
theorem fm_loop {chars : List Nat} {many : Nat} (hm : many ≤ 100) (hc : ChOk chars) (x0 : Option D) : ∀ (ls : List Ln) (i : Nat), (∀ l ∈ ls, LnOk chars many l) → i + ls.length < 1000 → ∀ (ns : List (List Nat)) (x2 x3 x4 x5 x6 : Option D), ns.length + ls.length ≤ 1000 →
    ∃ y2 y3 y4 y5 y6, forL (fun d e => omO (asg [2, 3] false d e) (evS P_format_program sub FUEL lb_format_program_1)) (enumD (ls.map lnD) (i : Int)) [x0, some (SD ns), x2, x3, x4, x5, x6] = .nx [x0, some (SD (ns ++ notesOf i ls)), y2, y3, y4, y5, y6]
  | [], i, _, _, ns, x2, x3, x4, x5, x6, _ => ⟨x2, x3, x4, x5, x6, by simp [enumD, notesOf]⟩
  | l :: ls, i, h, hi, ns, x2, x3, x4, x5, x6, hl => by
    obtain ⟨z4, z5, z6, e1⟩ := fm_step hm hc x0 i (by omega) l (h l List.mem_cons_self) ns (by simp at hl; omega) x2 x3 x4 x5 x6
    obtain ⟨y2, y3, y4, y5, y6, e2⟩ := fm_loop hm hc x0 ls (i + 1) (fun z hz => h z (List.mem_cons_of_mem _ hz)) (by simp at hi; omega) (ns ++ [joinT [32] (lnW i l)]) (some (.int (i : Int))) (some (lnD l)) z4 z5 z6 (by simp at hl ⊢; omega)
    refine ⟨y2, y3, y4, y5, y6, ?_⟩
    rw [List.map_cons, enumD, forL_nx e1]
    rw [show ((i + 1 : Nat) : Int) = (i : Int) + 1 by omega] at e2
    rw [e2]
    simp [notesOf]
def headW (L : List Nat) (m : Nat) : List (List Nat) := [[112, 114, 111, 103, 114, 97, 109], L, decI (m : Int)]
def headT (L : List Nat) (m : Nat) : List Nat := joinT [32] (headW L m)
theorem notes_len : ∀ (ls : List Ln) (i : Nat), (notesOf i ls).length = ls.length
  | [], _ => rfl
  | _ :: ls, i => by simp [notesOf, notes_len ls (i + 1)]
theorem notes_w {chars : List Nat} {many : Nat} (hm : many ≤ 100) (hc : ChOk chars) : ∀ (ls : List Ln) (i : Nat), (∀ l ∈ ls, LnOk chars many l) → i + ls.length < 1000 → ∀ w ∈ notesOf i ls, 10 ∉ w ∧ w.length ≤ 400
  | [], _, _, _, w, hw => by simp [notesOf] at hw
  | l :: ls, i, h, hi, w, hw => by
    rcases List.mem_cons.1 hw with rfl | hw
    · have := lnW_ok hm hc (h l List.mem_cons_self) (at_ := i) (by simp at hi; omega)
      exact ⟨this.f10, this.jlen⟩
    · exact notes_w hm hc ls (i + 1) (fun z hz => h z (List.mem_cons_of_mem _ hz)) (by simp at hi; omega) w hw
abbrev PD (L : List Nat) (m : Nat) (ls : List Ln) : D := .ins 4 [.str L, .int (m : Int), .tup (ls.map lnD)]
theorem headT_eq (L : List Nat) (m : Nat) : headT L m = [112, 114, 111, 103, 114, 97, 109, 32] ++ L ++ [32] ++ decI (m : Int) := by
  unfold headT headW
  simp [joinT]
theorem format_ok {chars : List Nat} {L : List Nat} (hL : L.length ≤ 100) {m : Nat} (hm2 : m < 1000) (ls : List Ln) (hls : ls.length ≤ 50) (hc : ChOk chars) (h : ∀ l ∈ ls, LnOk chars ls.length l) : F_format_program [PD L m ls] = .ok (.str (joinT [10] (headT L m :: notesOf 0 ls))) := by
  obtain ⟨y2, y3, y4, y5, y6, e⟩ := fm_loop (by omega) hc (some (PD L m ls)) ls 0 h (by omega) [headT L m] none none none none none (by simp; omega)
  have hd := (num_w m hm2).len
  have hht := headT_eq L m
  have hhl : (headT L m).length ≤ 200 := by rw [hht]; simp; omega
  have hj : meth .join (.str [10]) [SD (headT L m :: notesOf 0 ls)] = .ok (.str (joinT [10] (headT L m :: notesOf 0 ls))) := joinS_ok [10] _ (by simp [notes_len]; omega) (by simp) fun w hw => by
    rcases List.mem_cons.1 hw with rfl | hw
    · omega
    · have := (notes_w (by omega) hc ls 0 h (by omega) w hw).2; omega
  have f0 : dFld 4 0 (PD L m ls) = .ok (.str L) := rfl
  have f1 : dFld 4 1 (PD L m ls) = .ok (.int (m : Int)) := rfl
  have f2 : dFld 4 2 (PD L m ls) = .ok (.tup (ls.map lnD)) := rfl
  have hf : evS P_format_program sub FUEL fo_format_program_1 [some (PD L m ls), some (SD [headT L m]), none, none, none, none, none] = .nx [some (PD L m ls), some (SD (headT L m :: notesOf 0 ls)), y2, y3, y4, y5, y6] := by
    rw [evS_for]
    have : ev P_format_program sub (.bi .enum (.cons (.fld 4 2 (.var 0)) .nil)) [some (PD L m ls), some (SD [headT L m]), none, none, none, none, none] = .ok (.lst (enumD (ls.map lnD) 0)) := by
      generalize PD L m ls = pd at *
      simp [f2]
      rfl
    rw [this, out_ok, items_l, omO_some]
    exact e
  have hfst : ev P_format_program sub (.fst (.cons (.str [112, 114, 111, 103, 114, 97, 109, 32]) (.cons (.fld 4 0 (.var 0)) (.cons (.str [32]) (.cons (.fld 4 1 (.var 0)) .nil))))) [some (PD L m ls), none, none, none, none, none, none] = .ok (.str (headT L m)) := by
    have a1 : fmt1 (.str [112, 114, 111, 103, 114, 97, 109, 32]) = .ok [112, 114, 111, 103, 114, 97, 109, 32] := fmt1_s _ (by simp)
    have a2 : fmt1 (.str L) = .ok L := fmt1_s _ (by omega)
    have a3 : fmt1 (.str [32]) = .ok [32] := fmt1_s _ (by simp)
    have a4 : fmt1 (.int (m : Int)) = .ok (decI (m : Int)) := by
      show (if (m : Int).natAbs < 18446744073709551616 then Res.ok (decI (m : Int)) else .bad) = _
      exact if_pos (by omega)
    rw [hht]
    generalize decI (m : Int) = dm at *
    generalize PD L m ls = pd at *
    rw [ev_fst, evF_cons, ev_str, bd_ok, a1, bd_ok, if_pos (lim_le (by simp)), evF_cons, ev_fld, ev_var, look0, bd_ok, f0, bd_ok, a2, bd_ok, if_pos (lim_le (by simp; omega)), evF_cons, ev_str, bd_ok, a3, bd_ok, if_pos (lim_le (by simp; omega)), evF_cons, ev_fld, ev_var, look0, bd_ok, f1, bd_ok, a4, bd_ok, if_pos (lim_le (by simp; omega)), evF_nil, bd_ok]
    simp
  show fin (evS P_format_program sub FUEL (.seq (.own 1 (.lst (.cons (.fst (.cons (.str [112, 114, 111, 103, 114, 97, 109, 32]) (.cons (.fld 4 0 (.var 0)) (.cons (.str [32]) (.cons (.fld 4 1 (.var 0)) .nil))))) .nil))) (.seq fo_format_program_1 (.seq (.ret (.mt .join (.str [10]) (.cons (.var 1) .nil))) .skip))) [some (PD L m ls), none, none, none, none, none, none]) = _
  generalize (C.fst (.cons (.str [112, 114, 111, 103, 114, 97, 109, 32]) (.cons (.fld 4 0 (.var 0)) (.cons (.str [32]) (.cons (.fld 4 1 (.var 0)) .nil))))) = cf at *
  generalize fo_format_program_1 = ff at *
  generalize joinT [10] (headT L m :: notesOf 0 ls) = jt at *
  generalize SD (headT L m :: notesOf 0 ls) = ds at *
  generalize PD L m ls = pd at *
  simp only [SD, List.map_cons, List.map_nil] at hf
  simp [hfst, hf, hj, isStr_s, lim_le]
end Lw

set_option maxRecDepth 100000
set_option autoImplicit false
set_option linter.all false
namespace Lw
open E
/-! ### letters -/
abbrev alpha : List Nat := [97, 98, 99, 100, 101, 102, 103, 104, 105, 106, 107, 108, 109, 110, 111, 112, 113, 114, 115, 116, 117, 118, 119, 120, 121, 122]
structure GoodL (L : List Nat) : Prop where
  l1 : 1 ≤ L.length
  l3 : L.length ≤ 3
  asc : L.Pairwise (· < ·)
  az : ∀ c ∈ L, 97 ≤ c ∧ c < 123
theorem alpha_get : ∀ k < 26, alpha[k]? = some (97 + k) := by decide
theorem alpha_find : ∀ k < 26, findC (97 + k) alpha = some k := by decide
theorem letters_ok (r0 r1 r2 r3 : Nat) (h1 : r1 < 8) (h2 : r2 < 8) (h3 : r3 < 8) : ∃ L, GoodL L ∧ F__law_letters [.lst [.int (r0 : Int), .int (r1 : Int), .int (r2 : Int), .int (r3 : Int)]] = .ok (.str L) := by
  have g0 : dIdx (.lst [.int (r0 : Int), .int (r1 : Int), .int (r2 : Int), .int (r3 : Int)]) (.int 0) = .ok (.int (r0 : Int)) := rfl
  have g1 : dIdx (.lst [.int (r0 : Int), .int (r1 : Int), .int (r2 : Int), .int (r3 : Int)]) (.int 1) = .ok (.int (r1 : Int)) := rfl
  have g2 : dIdx (.lst [.int (r0 : Int), .int (r1 : Int), .int (r2 : Int), .int (r3 : Int)]) (.int 2) = .ok (.int (r2 : Int)) := rfl
  have g3 : dIdx (.lst [.int (r0 : Int), .int (r1 : Int), .int (r2 : Int), .int (r3 : Int)]) (.int 3) = .ok (.int (r3 : Int)) := rfl
  have e2 : (r1 : Int) + 1 + (r2 : Int) = ((r1 + 1 + r2 : Nat) : Int) := by omega
  have e3 : ((r1 + 1 + r2 : Nat) : Int) + 1 + (r3 : Int) = ((r1 + 1 + r2 + 1 + r3 : Nat) : Int) := by omega
  have i1 := idx_s alpha (lim_le (by decide)) r1 _ (alpha_get r1 (by omega))
  have i2 := idx_s alpha (lim_le (by decide)) (r1 + 1 + r2) _ (alpha_get _ (by omega))
  have i3 := idx_s alpha (lim_le (by decide)) (r1 + 1 + r2 + 1 + r3) _ (alpha_get _ (by omega))
  have a1 : dAdd (.str [97 + r1]) (.str [97 + (r1 + 1 + r2)]) = .ok (.str ([97 + r1] ++ [97 + (r1 + 1 + r2)])) := addS (by simp)
  have a2 : dAdd (.str ([97 + r1] ++ [97 + (r1 + 1 + r2)])) (.str [97 + (r1 + 1 + r2 + 1 + r3)]) = .ok (.str ([97 + r1] ++ [97 + (r1 + 1 + r2)] ++ [97 + (r1 + 1 + r2 + 1 + r3)])) := addS (by simp)
  simp only [F__law_letters, run, b__law_letters]
  by_cases q0 : r0 = 0
  · subst q0
    refine ⟨[97 + r1], ⟨by simp, by simp, by simp, by simp; omega⟩, ?_⟩
    simp only [Int.natCast_zero] at g0 g1 g2 g3 ⊢
    generalize D.lst [.int 0, .int (r1 : Int), .int (r2 : Int), .int (r3 : Int)] = rw at g0 g1 g2 g3
    generalize (r1 + 1 + r2 + 1 + r3 : Nat) = s3 at e3
    generalize (r1 + 1 + r2 : Nat) = s2 at e2 e3
    simp [g0, g1, g2, g3, e2, e3, i1]
  · by_cases q1 : r0 = 1
    · subst q1
      refine ⟨[97 + r1] ++ [97 + (r1 + 1 + r2)] ++ [97 + (r1 + 1 + r2 + 1 + r3)], ⟨by simp, by simp, by simp; omega, by simp; omega⟩, ?_⟩
      simp only [Int.natCast_one] at g0 g1 g2 g3 ⊢
      generalize D.lst [.int 1, .int (r1 : Int), .int (r2 : Int), .int (r3 : Int)] = rw at g0 g1 g2 g3
      generalize [97 + r1] ++ [97 + (r1 + 1 + r2)] ++ [97 + (r1 + 1 + r2 + 1 + r3)] = t3 at a2
      generalize [97 + r1] ++ [97 + (r1 + 1 + r2)] = t2 at a1 a2
      generalize 97 + (r1 + 1 + r2 + 1 + r3) = c3 at i3 a2
      generalize 97 + (r1 + 1 + r2) = c2 at i2 a1
      generalize 97 + r1 = c1 at i1 a1
      generalize (r1 + 1 + r2 + 1 + r3 : Nat) = s3 at e3 i3
      generalize (r1 + 1 + r2 : Nat) = s2 at e2 e3 i2
      simp [g0, g1, g2, g3, e2, e3, i1, i2, i3, a1, a2]
    · have n0 : ¬ (r0 : Int) = 0 := by omega
      have n1 : ¬ (r0 : Int) = 1 := by omega
      refine ⟨[97 + r1] ++ [97 + (r1 + 1 + r2)], ⟨by simp, by simp, by simp; omega, by simp; omega⟩, ?_⟩
      generalize D.lst [.int (r0 : Int), .int (r1 : Int), .int (r2 : Int), .int (r3 : Int)] = rw at g0 g1 g2 g3
      generalize [97 + r1] ++ [97 + (r1 + 1 + r2)] = t2 at a1
      generalize 97 + (r1 + 1 + r2) = c2 at i2 a1
      generalize 97 + r1 = c1 at i1 a1
      generalize (r1 + 1 + r2 + 1 + r3 : Nat) = s3 at e3
      generalize (r1 + 1 + r2 : Nat) = s2 at e2 e3 i2
      simp [g0, g1, g2, g3, e2, e3, i1, i2, a1, q0, n1]
theorem find_ok (c : Nat) (h : 97 ≤ c ∧ c < 123) : meth .find (.str alpha) [.str [c]] = .ok (.int (((c - 97 : Nat) : Int))) := by
  have e := alpha_find (c - 97) (by omega)
  rw [show 97 + (c - 97) = c by omega] at e
  show Res.ok (D.int (match findC c alpha with | some i => ((i : Nat) : Int) | none => -1)) = _
  rw [e]
theorem flat_ints {α : Type} (xs : List α) (h : α → Int) : (xs.map fun x => D.int (h x)).all flat = true := by
  rw [List.all_eq_true]
  intro d hd
  obtain ⟨x, _, rfl⟩ := List.mem_map.1 hd
  rfl
theorem plain_ints {α : Type} (xs : List α) (h : α → Int) : plain (.lst (xs.map fun x => D.int (h x))) 60 = true := by
  show plainL _ 59 = true
  rw [plainL_all, List.all_eq_true]
  intro d hd
  obtain ⟨x, _, rfl⟩ := List.mem_map.1 hd
  simp [plain]
theorem any_ints {α : Type} (xs : List α) (h : α → Int) (i : Int) : ((xs.map fun x => D.int (h x)).any fun y => eqv y (.int i)) = xs.any fun x => h x == i := by
  induction xs with
  | nil => rfl
  | cons x xs ih =>
    simp only [List.map_cons, List.any_cons, ih]
    simp [eqv]
theorem Pch : P_check_letters 2 = F_are_letters := by unfold P_check_letters; rfl
theorem are_ok {L : List Nat} (h : GoodL L) : F_are_letters [.str L] = .ok (.bl true) := by
  have h1 := h.l1
  have h3 := h.l3
  have p1 : ev P_are_letters sub fo_are_letters_1 [some (.str L), none, none] = .ok (.lst (L.map fun c => D.int ((c - 97 : Nat) : Int))) :=
    lcm_ok _ _ _ _ _ _ _ (.str L) L (fun c => D.str [c]) _ (by simp) (by simp) (by omega) fun c hc => ⟨_, rfl, by
      have := find_ok c (h.az c hc)
      simp [isStr_s]
      exact this⟩
  have is : intsD (L.map fun c => D.int ((c - 97 : Nat) : Int)) = some (L.map fun c => ((c - 97 : Nat) : Int)) := ints_map _ L
  have p2 : (L.map fun c => ((c - 97 : Nat) : Int)) = sortI (dedup (L.map fun c => ((c - 97 : Nat) : Int))) := sset_uniq (by
    rw [List.pairwise_map]
    refine h.asc.imp_of_mem fun {a b} ha hb hab => ?_
    have := h.az a ha
    have := h.az b hb
    omega) fun k => Iff.rfl
  have p3 : biF .sset [.lst (L.map fun c => D.int ((c - 97 : Nat) : Int))] = .ok (.lst (L.map fun c => D.int ((c - 97 : Nat) : Int))) := by
    show om (intsD _) (fun is => if is.length < 63 then Res.ok (D.lst ((sortI (dedup is)).map D.int)) else .bad) = _
    rw [is, om_some, if_pos (by simp; omega), ← p2, List.map_map]
    rfl
  have p4 : inD (.int (-1)) (.lst (L.map fun c => D.int ((c - 97 : Nat) : Int))) = .ok false := by
    show (if flat (.int (-1)) ∧ _ then Res.ok _ else _) = _
    rw [if_pos ⟨rfl, flat_ints L _⟩, any_ints]
    congr 1
    rw [List.any_eq_false]
    intro c _
    simp
  have p5 := eq_refl _ (plain_ints L fun c => ((c - 97 : Nat) : Int))
  have p6 := len_s' (s := L) (by omega)
  have p7 : (1 : Int) ≤ (L.length : Int) := by omega
  have p8 : (L.length : Int) ≤ 3 := by omega
  generalize (L.map fun c => D.int ((c - 97 : Nat) : Int)) = pl at p1 p3 p4 p5
  simp only [F_are_letters, run, b_are_letters]
  simp [p1, p3, p4, p5, p6, chnF, p7, p8]
theorem chk_letters {L : List Nat} (h : GoodL L) : F_check_letters [.str L] = .ok .non := by
  have := are_ok h
  simp only [F_check_letters, run, b_check_letters]
  simp [Pch, this]
end Lw

set_option maxRecDepth 100000
set_option autoImplicit false
set_option linter.all false
namespace Lw
open E
/-! ### frozen -/
theorem Pf3 : P_frozen_3 0 = F_frozen_2 := by unfold P_frozen_3; rfl
theorem Pf4 : P_frozen_4 0 = F_frozen_3 := by unfold P_frozen_4; rfl
theorem Pf5 : P_frozen_5 0 = F_frozen_4 := by unfold P_frozen_5; rfl
theorem fz2_tg (t : Tg) : F_frozen_2 [tgD t] = .ok (tgD t) := by cases t <;> rfl
theorem fz3_tg (t : Tg) : F_frozen_3 [tgD t] = .ok (tgD t) := by cases t <;> rfl
theorem fz3_s (s : List Nat) : F_frozen_3 [.str s] = .ok (.str s) := rfl
theorem fz3_tgs (ts : List Tg) (h : ts.length ≤ 1000) (x : D) (hx : x = .lst (ts.map tgD) ∨ x = .tup (ts.map tgD)) : F_frozen_3 [x] = .ok (.tup (ts.map tgD)) := by
  have h1 : ev P_frozen_3 sub fo_frozen_1 [some x, none] = .ok (.lst (ts.map tgD)) :=
    lcm_ok _ _ _ _ _ _ _ x ts tgD tgD (by simp) (by rcases hx with rfl | rfl <;> rfl) (by omega) fun t _ => ⟨_, rfl, by
      have := fz2_tg t
      generalize tgD t = td at *
      simp only [ev_call, evL_cons, evL_nil]
      simp [Pf3, this]⟩
  have hk : kdOk x = true := by rcases hx with rfl | rfl <;> rfl
  have hk2 : (isKd x .lst || isKd x .tup) = true := by rcases hx with rfl | rfl <;> rfl
  have ht : biF .tuple [.lst (ts.map tgD)] = .ok (.tup (ts.map tgD)) := rfl
  simp only [F_frozen_3, run, b_frozen]
  generalize fo_frozen_1 = f1 at h1
  generalize D.lst (ts.map tgD) = dl at *
  generalize D.tup (ts.map tgD) = dt at *
  simp only [Bool.or_eq_true] at hk2
  simp [hk, hk2, h1, ht]
def frz1 : D → D
  | .lst l => .tup l
  | d => d
def FrI (d : D) : Prop := (∃ s, d = .str s) ∨ (∃ t, d = tgD t) ∨ ∃ ts : List Tg, ts.length ≤ 1000 ∧ (d = .lst (ts.map tgD) ∨ d = .tup (ts.map tgD))
theorem fz3_i {d : D} (h : FrI d) : F_frozen_3 [d] = .ok (frz1 d) := by
  rcases h with ⟨s, rfl⟩ | ⟨t, rfl⟩ | ⟨ts, h1, h2⟩
  · rfl
  · rw [fz3_tg]
    cases t <;> rfl
  · rw [fz3_tgs ts h1 d h2]
    rcases h2 with rfl | rfl <;> rfl
theorem fz4_line (l : List D) (h : ∀ d ∈ l, FrI d) (hl : l.length ≤ 1000) : F_frozen_4 [.tup l] = .ok (.tup (l.map frz1)) := by
  have h1 : ev P_frozen_4 sub fo_frozen_1 [some (.tup l), none] = .ok (.lst (l.map frz1)) :=
    lcm_ok _ _ _ _ _ _ _ (.tup l) l id frz1 (by simp) (by simp) (by omega) fun d hd => ⟨_, rfl, by
      have := fz3_i (h d hd)
      show ev P_frozen_4 sub _ [some (.tup l), some d] = _
      generalize frz1 d = fd at *
      simp only [ev_call, evL_cons, evL_nil]
      simp [Pf4, this]⟩
  simp only [F_frozen_4, run, b_frozen]
  generalize fo_frozen_1 = f1 at h1
  simp [kdOk, isKd, h1, biF]
theorem lnI_fr (ln : Ln) (h : ∀ a ts, ln = .count a ts → ts.length ≤ 1000) : (∀ d ∈ lnI ln, FrI d) ∧ (lnI ln).map frz1 = lnI ln := by
  have hf : ∀ t : Tg, frz1 (tgD t) = tgD t := fun t => by cases t <;> rfl
  have tgF : ∀ t : Tg, FrI (tgD t) := fun t => .inr (.inl ⟨t, rfl⟩)
  have nF : ∀ n : Nat, FrI (.int (n : Int)) := fun n => .inr (.inl ⟨.st n, rfl⟩)
  have sF : ∀ s, FrI (.str s) := fun s => .inl ⟨s, rfl⟩
  cases ln with
  | count a ts =>
    refine ⟨fun d hd => ?_, rfl⟩
    simp only [lnI, List.mem_cons, List.not_mem_nil, or_false] at hd
    rcases hd with rfl | rfl
    · exact sF _
    · exact .inr (.inr ⟨ts, h a ts rfl, .inr rfl⟩)
  | _ =>
    have hs : ∀ s : List Nat, frz1 (.str s) = .str s := fun _ => rfl
    have hi : ∀ i : Int, frz1 (.int i) = .int i := fun _ => rfl
    refine ⟨fun d hd => ?_, by simp [lnI, hf, hs, hi]⟩
    simp only [lnI, List.mem_cons, List.not_mem_nil, or_false] at hd
    rcases hd with rfl | rfl | rfl | rfl | rfl <;> first | exact sF _ | exact tgF _ | exact nF _
theorem fz4_ln (ln : Ln) (h : ∀ a ts, ln = .count a ts → ts.length ≤ 1000) : F_frozen_4 [lnD ln] = .ok (lnD ln) := by
  obtain ⟨h1, h2⟩ := lnI_fr ln h
  have := fz4_line (.str (lnN ln) :: lnI ln) (fun d hd => by
    rcases List.mem_cons.1 hd with rfl | hd
    · exact .inl ⟨_, rfl⟩
    · exact h1 d hd) (by cases ln <;> simp [lnI])
  rw [List.map_cons, h2] at this
  exact this
theorem fz4_rd (ln : Ln) (h : ∀ a ts, ln = .count a ts → ts.length ≤ 1000) : F_frozen_4 [lnR ln] = .ok (lnD ln) := by
  cases ln with
  | count a ts =>
    have := fz4_line [.str nCount, .str [a], .lst (ts.map tgD)] (fun d hd => by
      simp only [List.mem_cons, List.not_mem_nil, or_false] at hd
      rcases hd with rfl | rfl | rfl
      · exact .inl ⟨_, rfl⟩
      · exact .inl ⟨_, rfl⟩
      · exact .inr (.inr ⟨ts, h a ts rfl, .inl rfl⟩)) (by simp)
    exact this
  | _ => exact fz4_ln _ h
theorem fz_lines (f : Ln → D) (ls : List Ln) (hl : ls.length ≤ 1000) (h : ∀ l ∈ ls, F_frozen_4 [f l] = .ok (lnD l)) : F_frozen [.lst (ls.map f)] = .ok (.tup (ls.map lnD)) := by
  have h1 : ev P_frozen_5 sub fo_frozen_1 [some (.lst (ls.map f)), none] = .ok (.lst (ls.map lnD)) :=
    lcm_ok _ _ _ _ _ _ _ (.lst (ls.map f)) ls f lnD (by simp) (by simp) (by omega) fun l hm => ⟨_, rfl, by
      have := h l hm
      generalize D.lst (ls.map f) = dd
      generalize f l = fl at *
      show ev P_frozen_5 sub _ [some dd, some fl] = _
      simp only [ev_call, evL_cons, evL_nil]
      simp [Pf5, this]⟩
  show F_frozen_5 _ = _
  simp only [F_frozen_5, run, b_frozen]
  generalize fo_frozen_1 = f1 at h1
  simp [kdOk, isKd, h1, biF]
/-! ### Program -/
abbrev MK : List Nat := [65, 66, 67, 68, 69]
def chsOf (L : List Nat) (m : Nat) : List Nat := L ++ MK.take m
theorem chars_ok (L : List Nat) (hL : L.length ≤ 100) (m : Nat) : F_characters_of [.str L, .int (m : Int)] = .ok (.str (chsOf L m)) := by
  have hs : dSlc (.str MK) .non (.int (m : Int)) = .ok (.str (MK.take m)) := slc_pre (t := MK) (lim_le (by simp)) m
  have ha : dAdd (.str L) (.str (MK.take m)) = .ok (.str (chsOf L m)) := addS (by simp; omega)
  simp only [F_characters_of, run, b_characters_of]
  generalize MK.take m = mk at *
  generalize chsOf L m = ch at *
  simp [prt, isPart, hs, ha]
theorem Pg0 : P_Program 0 = F_frozen := by unfold P_Program; rfl
theorem Pg3 : P_Program 3 = F_check_letters := by unfold P_Program; rfl
theorem Pg6 : P_Program 6 = F_characters_of := by unfold P_Program; rfl
theorem Pg8 : P_Program 8 = F_is_line := by unfold P_Program; rfl
theorem pg_loop (L : List Nat) (hL : L.length ≤ 100) (m : Nat) (x0 x3 : Option D) (many : Nat) (tl : D) (htl : biF .len [tl] = .ok (.int (many : Int))) : ∀ (ls : List Ln) (i : Int) (x5 x6 : Option D), (∀ l ∈ ls, LnOk (chsOf L m) many l) →
    ∃ y5 y6, forL (fun d e => omO (asg [5, 6] false d e) (evS P_Program sub FUEL lb_Program_1)) (enumD (ls.map lnD) i) [x0, some (.str L), some (.int (m : Int)), x3, some tl, x5, x6] = .nx [x0, some (.str L), some (.int (m : Int)), x3, some tl, y5, y6]
  | [], i, x5, x6, _ => ⟨x5, x6, by simp [enumD]⟩
  | l :: ls, i, x5, x6, h => by
    obtain ⟨y5, y6, e⟩ := pg_loop L hL m x0 x3 many tl htl ls (i + 1) (some (.int i)) (some (lnD l)) (fun z hz => h z (List.mem_cons_of_mem _ hz))
    refine ⟨y5, y6, ?_⟩
    have h1 := chars_ok L hL m
    have h2 := line_ok (chsOf L m) many l (h l List.mem_cons_self)
    have step : (fun d e => omO (asg [5, 6] false d e) (evS P_Program sub FUEL lb_Program_1)) (D.tup [.int i, lnD l]) [x0, some (.str L), some (.int (m : Int)), x3, some tl, x5, x6] = .nx [x0, some (.str L), some (.int (m : Int)), x3, some tl, some (.int i), some (lnD l)] := by
      generalize lnD l = ld at *
      generalize chsOf L m = ch at *
      simp [Pg6, Pg8, h1, h2, htl]
    rw [List.map_cons, enumD, forL_nx step, e]
theorem program_ok (L : List Nat) (hL : GoodL L) (m : Nat) (f : Ln → D) (ls : List Ln) (h0 : ls ≠ []) (hl : ls.length ≤ 50) (h : ∀ l ∈ ls, LnOk (chsOf L m) ls.length l) (hf : ∀ l ∈ ls, F_frozen_4 [f l] = .ok (lnD l)) :
    F_Program [.str L, .int (m : Int), .lst (ls.map f)] = .ok (PD L m ls) := by
  have hL3 := hL.l3
  have p1 := chk_letters hL
  have p2 := fz_lines f ls (by omega) hf
  have htl : biF .len [.tup (ls.map lnD)] = .ok (.int (ls.length : Int)) := by simp
  obtain ⟨y5, y6, e⟩ := pg_loop L (by omega) m none (some (.lst (ls.map f))) ls.length (.tup (ls.map lnD)) htl ls 0 none none h
  have p4 : evS P_Program sub FUEL fo_Program_1 [none, some (.str L), some (.int (m : Int)), some (.lst (ls.map f)), some (.tup (ls.map lnD)), none, none] = .nx [none, some (.str L), some (.int (m : Int)), some (.lst (ls.map f)), some (.tup (ls.map lnD)), y5, y6] := by
    rw [evS_for]
    have : ev P_Program sub (.bi .enum (.cons (.var 4) .nil)) [none, some (.str L), some (.int (m : Int)), some (.lst (ls.map f)), some (.tup (ls.map lnD)), none, none] = .ok (.lst (enumD (ls.map lnD) 0)) := by
      simp
      rfl
    rw [this, out_ok, items_l, omO_some]
    exact e
  have hne : ¬ (ls.length : Int) = 0 := by
    cases ls with
    | nil => exact absurd rfl h0
    | cons _ _ => simp; omega
  show (match evS P_Program sub FUEL b_Program [none, some (.str L), some (.int (m : Int)), some (.lst (ls.map f)), none, none, none] with
    | .nx e => (evL P_Program sub a_Program e).bd fun l => Res.ok (D.ins 4 l)
    | .ex _ c l => .err c l
    | _ => .bad) = _
  have e1 : evS P_Program sub FUEL b_Program [none, some (.str L), some (.int (m : Int)), some (.lst (ls.map f)), none, none, none] = .nx [none, some (.str L), some (.int (m : Int)), some (.lst (ls.map f)), some (.tup (ls.map lnD)), y5, y6] := by
    simp only [b_Program]
    generalize fo_Program_1 = f1 at p4
    generalize D.lst (ls.map f) = dl at *
    generalize D.tup (ls.map lnD) = dt at *
    generalize (ls.length : Int) = n at *
    simp [Pg0, Pg3, p1, p2, htl, hne, p4]
  rw [e1]
  generalize D.lst (ls.map f) = dl
  simp [a_Program]
end Lw

set_option maxRecDepth 100000
set_option autoImplicit false
set_option linter.all false
namespace Lw
open E
/-! ### the head -/
abbrev wProg : List Nat := [112, 114, 111, 103, 114, 97, 109]
abbrev D6 : List (List Nat) := [[48], [49], [50], [51], [52], [53]]
theorem Prh2 : P_read_head 2 = F_are_letters := by unfold P_read_head; rfl
theorem in_strsT (l : List (List Nat)) (w : List Nat) : inD (.str w) (.tup (l.map D.str)) = .ok (l.contains w) := by
  have h : (l.map D.str).all flat = true := by
    rw [List.all_eq_true]
    intro d hd
    obtain ⟨x, _, rfl⟩ := List.mem_map.1 hd
    rfl
  show (if flat (.str w) ∧ _ then Res.ok _ else _) = _
  rw [if_pos ⟨rfl, h⟩]
  congr 1
  rw [List.any_map]
  refine beq_iff ?_
  rw [List.any_eq_true, List.contains_eq_mem, decide_eq_true_iff]
  constructor
  · rintro ⟨x, h1, h2⟩
    have h2 : (x == w) = true := by simpa [eqv] using h2
    rw [beq_iff_eq] at h2
    exact h2 ▸ h1
  · intro h
    exact ⟨w, h, by simp [eqv]⟩
theorem head_good (L : List Nat) (hL : GoodL L) (m : Nat) (hm : m ≤ 5) : F_read_head [.str (headT L m)] = .ok (.tup [.str L, .int (m : Int)]) := by
  have hL3 := hL.l3
  have hws : WsOk (headW L m) := ⟨by simp [headW], fun w hw => by
    simp only [headW, List.mem_cons, List.not_mem_nil, or_false] at hw
    rcases hw with rfl | rfl | rfl
    · exact ⟨by decide, by decide, by decide⟩
    · exact ⟨fun z => by have := hL.az _ z; omega, fun z => by have := hL.az _ z; omega, by omega⟩
    · exact num_w m (by omega), by simp [headW]⟩
  have hsp := hws.split
  have hl := are_ok hL
  have hin : inD (.str (decI (m : Int))) (.tup [.str [48], .str [49], .str [50], .str [51], .str [52], .str [53]]) = .ok true := by
    have : ∀ m ≤ 5, D6.contains (TL.numL m) = true := by decide
    have h2 := in_strsT D6 (decI (m : Int))
    rw [decI_num, this m hm, ← decI_num] at h2
    exact h2
  have hint : biF .int [.str (decI (m : Int))] = .ok (.int (m : Int)) := by
    have hd : numT (decI (m : Int)) = some m := by
      unfold numT
      have := (num_w m (by omega)).len
      rw [if_pos ⟨by omega, decI_ne m, all_dig m⟩, decI_val]
    show om (numT (decI (m : Int))) _ = _
    rw [hd, om_some]
  have i0 : dIdx (.lst [.str wProg, .str L, .str (decI (m : Int))]) (.int 0) = .ok (.str wProg) := rfl
  have i1 : dIdx (.lst [.str wProg, .str L, .str (decI (m : Int))]) (.int 1) = .ok (.str L) := rfl
  have i2 : dIdx (.lst [.str wProg, .str L, .str (decI (m : Int))]) (.int 2) = .ok (.str (decI (m : Int))) := rfl
  have hln : biF .len [.lst [.str wProg, .str L, .str (decI (m : Int))]] = .ok (.int 3) := rfl
  have hsp' : meth .split (.str (headT L m)) [.str [32]] = .ok (.lst [.str wProg, .str L, .str (decI (m : Int))]) := hsp
  simp only [F_read_head, run, b_read_head]
  generalize D.lst [.str wProg, .str L, .str (decI (m : Int))] = dw at *
  generalize decI (m : Int) = dm at *
  generalize headT L m = ht at *
  simp [isStr_s, hsp', hln, i0, i1, i2, Prh2, hl, hin, hint, lim_le]
/-- a head that is not right -/
theorem head_bad (ws : List (List Nat)) (hws : meth .split (.str (joinT [32] ws)) [.str [32]] = .ok (.lst (ws.map D.str))) (h : ws.length ≠ 3 ∨ ∃ w0 w1 w2, ws = [w0, w1, w2] ∧ (w0 ≠ wProg ∨ (F_are_letters [.str w1] = .ok (.bl false)) ∨ (F_are_letters [.str w1] = .ok (.bl true) ∧ w2 ∉ D6))) : F_read_head [.str (joinT [32] ws)] = .ok .non := by
  simp only [F_read_head, run, b_read_head]
  generalize joinT [32] ws = t at hws
  rcases h with h | ⟨w0, w1, w2, rfl, h⟩
  · have hl : biF .len [.lst (ws.map D.str)] = .ok (.int (ws.length : Int)) := by simp
    generalize D.lst (ws.map D.str) = dw at *
    generalize ws.length = n at *
    have : ¬ (n : Int) = 3 := by omega
    simp [isStr_s, hws, hl, this]
  · have i0 : dIdx (.lst ([w0, w1, w2].map D.str)) (.int 0) = .ok (.str w0) := rfl
    have i1 : dIdx (.lst ([w0, w1, w2].map D.str)) (.int 1) = .ok (.str w1) := rfl
    have i2 : dIdx (.lst ([w0, w1, w2].map D.str)) (.int 2) = .ok (.str w2) := rfl
    have hln : biF .len [.lst ([w0, w1, w2].map D.str)] = .ok (.int 3) := rfl
    generalize D.lst ([w0, w1, w2].map D.str) = dw at *
    by_cases h0 : w0 = wProg
    · have h0' : (w0 == [112, 114, 111, 103, 114, 97, 109]) = true := by simpa using h0
      rcases h with h | h | ⟨h, h2⟩
      · exact absurd h0 h
      · simp [isStr_s, hws, hln, i0, i1, h0', Prh2, h]
      · have hin : inD (.str w2) (.tup [.str [48], .str [49], .str [50], .str [51], .str [52], .str [53]]) = .ok false := by
          have := in_strsT D6 w2
          rw [show D6.contains w2 = false by simpa using h2] at this
          exact this
        simp [isStr_s, hws, hln, i0, i1, i2, h0', Prh2, h, hin, lim_le]
    · have h0' : (w0 == [112, 114, 111, 103, 114, 97, 109]) = false := by simpa using h0
      simp [isStr_s, hws, hln, i0, i1, h0']
/-! ### parse_program -/
theorem Ppp6 : P_parse_program 6 = F_characters_of := by unfold P_parse_program; rfl
theorem Ppp12 : P_parse_program 12 = F_read_head := by unfold P_parse_program; rfl
theorem Ppp15 : P_parse_program 15 = F_read_line := by unfold P_parse_program; rfl
theorem Ppp1004 : P_parse_program 1004 = F_Program := by unfold P_parse_program; rfl
abbrev ppEnv (x0 : Option D) (lines : D) (L : List Nat) (m : Nat) (found : List D) (x4 x5 x6 : Option D) : Env := [x0, some lines, some (.tup [.str L, .int (m : Int)]), some (.lst found), x4, x5, x6]
def tupD : D → Prop
  | .tup _ => True
  | _ => False
theorem pp_good (x0 : Option D) (lines : D) (L : List Nat) (hL : L.length ≤ 100) (m many : Nat) (hlen : biF .len [lines] = .ok (.int ((many + 1 : Nat) : Int))) (t : List Nat) (i : Nat) (r : D) (hr : F_read_line [.str t, .int (i : Int), .str (chsOf L m), .int (many : Int)] = .ok r) (hn : tupD r) (found : List D) (hf : found.length ≤ 1000) (x4 x5 x6 : Option D) :
    (fun d e => omO (asg [4, 5] false d e) (evS P_parse_program sub FUEL lb_parse_program_1)) (D.tup [.int (i : Int), .str t]) (ppEnv x0 lines L m found x4 x5 x6) = .nx (ppEnv x0 lines L m (found ++ [r]) (some (.int (i : Int))) (some (.str t)) (some r)) := by
  have h1 := chars_ok L hL m
  have i0 : dIdx (.tup [.str L, .int (m : Int)]) (.int 0) = .ok (.str L) := rfl
  have i1 : dIdx (.tup [.str L, .int (m : Int)]) (.int 1) = .ok (.int (m : Int)) := rfl
  have hmu : muF .append 3 (evL P_parse_program sub (.cons (.var 6) .nil)) (ppEnv x0 lines L m found (some (.int (i : Int))) (some (.str t)) (some r)) = .nx (ppEnv x0 lines L m (found ++ [r]) (some (.int (i : Int))) (some (.str t)) (some r)) := by
    rw [mu_app (l := found) (d := r) rfl (by simp) (lim_lt (by omega))]
    simp
  have hd : dIs .non false r = .ok (.bl false) := by
    cases r <;> first | exact hn.elim | rfl
  have e1 : (((many + 1 : Nat) : Int) - 1) = (many : Int) := by omega
  simp only [ppEnv] at hmu ⊢
  generalize D.tup [.str L, .int (m : Int)] = told at *
  generalize D.lst found = df at *
  generalize D.lst (found ++ [r]) = df2 at *
  generalize (((many + 1 : Nat) : Int)) = k at *
  generalize chsOf L m = ch at *
  simp [Ppp6, Ppp15, h1, i0, i1, hlen, e1, hr, hd, hmu]
theorem pp_bad (x0 : Option D) (lines : D) (L : List Nat) (hL : L.length ≤ 100) (m many : Nat) (hlen : biF .len [lines] = .ok (.int ((many + 1 : Nat) : Int))) (t : List Nat) (i : Nat) (hr : F_read_line [.str t, .int (i : Int), .str (chsOf L m), .int (many : Int)] = .ok .non) (found : List D) (x4 x5 x6 : Option D) :
    (fun d e => omO (asg [4, 5] false d e) (evS P_parse_program sub FUEL lb_parse_program_1)) (D.tup [.int (i : Int), .str t]) (ppEnv x0 lines L m found x4 x5 x6) = .ex (ppEnv x0 lines L m found (some (.int (i : Int))) (some (.str t)) (some .non)) 2 [.int ((i : Int) + 2)] := by
  have h1 := chars_ok L hL m
  have i0 : dIdx (.tup [.str L, .int (m : Int)]) (.int 0) = .ok (.str L) := rfl
  have i1 : dIdx (.tup [.str L, .int (m : Int)]) (.int 1) = .ok (.int (m : Int)) := rfl
  have e1 : (((many + 1 : Nat) : Int) - 1) = (many : Int) := by omega
  have hd : dIs .non false .non = .ok (.bl true) := rfl
  simp only [ppEnv]
  generalize D.tup [.str L, .int (m : Int)] = told at *
  generalize D.lst found = df at *
  generalize (((many + 1 : Nat) : Int)) = k at *
  generalize chsOf L m = ch at *
  simp [Ppp6, Ppp15, h1, i0, i1, hlen, e1, hr, hd]
theorem pp_loop (x0 : Option D) (lines : D) (L : List Nat) (hL : L.length ≤ 100) (m many : Nat) (hlen : biF .len [lines] = .ok (.int ((many + 1 : Nat) : Int))) : ∀ (ts : List (List Nat)) (rs : List D) (i : Nat), ts.length = rs.length → (∀ j t r, ts[j]? = some t → rs[j]? = some r → F_read_line [.str t, .int ((i + j : Nat) : Int), .str (chsOf L m), .int (many : Int)] = .ok r ∧ tupD r) → ∀ (found : List D) (x4 x5 x6 : Option D), found.length + ts.length ≤ 1000 → ∀ (more : List (List Nat)),
    ∃ y4 y5 y6, forL (fun d e => omO (asg [4, 5] false d e) (evS P_parse_program sub FUEL lb_parse_program_1)) (enumD ((ts ++ more).map D.str) (i : Int)) (ppEnv x0 lines L m found x4 x5 x6) = forL (fun d e => omO (asg [4, 5] false d e) (evS P_parse_program sub FUEL lb_parse_program_1)) (enumD (more.map D.str) ((i + ts.length : Nat) : Int)) (ppEnv x0 lines L m (found ++ rs) y4 y5 y6)
  | [], [], i, _, _, found, x4, x5, x6, _, more => ⟨x4, x5, x6, by simp⟩
  | [], _ :: _, _, h, _, _, _, _, _, _, _ => by simp at h
  | _ :: _, [], _, h, _, _, _, _, _, _, _ => by simp at h
  | t :: ts, r :: rs, i, hl, h, found, x4, x5, x6, hf, more => by
    obtain ⟨h1, h2⟩ := h 0 t r rfl rfl
    have step := pp_good x0 lines L hL m many hlen t i r h1 h2 found (by simp at hf; omega) x4 x5 x6
    obtain ⟨y4, y5, y6, e⟩ := pp_loop x0 lines L hL m many hlen ts rs (i + 1) (by simpa using hl) (fun j t' r' a b => by
      have := h (j + 1) t' r' (by simpa using a) (by simpa using b)
      rw [show i + 1 + j = i + (j + 1) by omega]
      exact this) (found ++ [r]) (some (.int (i : Int))) (some (.str t)) (some r) (by simp at hf ⊢; omega) more
    refine ⟨y4, y5, y6, ?_⟩
    rw [List.cons_append, List.map_cons, enumD, forL_nx step]
    rw [show ((i + 1 : Nat) : Int) = (i : Int) + 1 by omega] at e
    rw [e]
    rw [show i + 1 + ts.length = i + (t :: ts).length by simp; omega]
    simp
/-- the text's lines -/
structure LinesOk (ts : List (List Nat)) : Prop where
  f10 : ∀ t ∈ ts, 10 ∉ t ∧ t.length ≤ 500
  len : ts.length ≤ 40
theorem LinesOk.split {ts : List (List Nat)} (h : LinesOk ts) (h0 : ts ≠ []) : meth .split (.str (joinT [10] ts)) [.str [10]] = .ok (.lst (ts.map D.str)) := split_ok 10 (by omega) ts h0 (fun t ht => (h.f10 t ht).1) (by
  have h1 := join_len [10] ts 500 fun w hw => (h.f10 w hw).2
  have h2 := h.len
  have : ts.length * (500 + ([10] : List Nat).length) ≤ 40 * 501 := Nat.mul_le_mul_right _ h2
  omega)
theorem LinesOk.join {ts : List (List Nat)} (h : LinesOk ts) : meth .join (.str [10]) [.lst (ts.map D.str)] = .ok (.str (joinT [10] ts)) := joinS_ok [10] ts (by have := h.len; omega) (by simp) fun w hw => by have := (h.f10 w hw).2; omega
theorem parse_head_bad (h : List Nat) (ts : List (List Nat)) (hl : LinesOk (h :: ts)) (hh : F_read_head [.str h] = .ok .non) : F_parse_program [.str (joinT [10] (h :: ts))] = .err 2 [.int 1] := by
  have hsp := hl.split (by simp)
  have i0 : dIdx (.lst ((h :: ts).map D.str)) (.int 0) = .ok (.str h) := idx_l ((h :: ts).map D.str) 0 (.str h) rfl
  have hd : dIs .non false .non = .ok (.bl true) := rfl
  simp only [F_parse_program, run, b_parse_program]
  generalize fo_parse_program_1 = f1
  generalize D.lst ((h :: ts).map D.str) = dw at *
  generalize joinT [10] (h :: ts) = s at *
  simp [isStr_s, hsp, i0, Ppp12, hh, hd]
theorem parse_short (h : List Nat) (hl : LinesOk [h]) (a b : D) (hh : F_read_head [.str h] = .ok (.tup [a, b])) : F_parse_program [.str h] = .err 2 [.int 2] := by
  have hsp := hl.split (by simp)
  have i0 : dIdx (.lst ([h].map D.str)) (.int 0) = .ok (.str h) := rfl
  have hln : biF .len [.lst ([h].map D.str)] = .ok (.int 1) := rfl
  have hd : dIs .non false (.tup [a, b]) = .ok (.bl false) := rfl
  have hsp' : meth .split (.str h) [.str [10]] = .ok (.lst ([h].map D.str)) := hsp
  simp only [F_parse_program, run, b_parse_program]
  generalize fo_parse_program_1 = f1
  generalize D.lst ([h].map D.str) = dw at *
  generalize D.tup [a, b] = tt at *
  simp [isStr_s, hsp', i0, Ppp12, hh, hd, hln]
theorem parse_pre (h : List Nat) (ts : List (List Nat)) (h0 : ts ≠ []) (hl : LinesOk (h :: ts)) (L : List Nat) (m : Nat) (hh : F_read_head [.str h] = .ok (.tup [.str L, .int (m : Int)])) (o : Out)
    (hf : forL (fun d e => omO (asg [4, 5] false d e) (evS P_parse_program sub FUEL lb_parse_program_1)) (enumD (ts.map D.str) ((0 : Nat) : Int)) (ppEnv (some (.str (joinT [10] (h :: ts)))) (.lst ((h :: ts).map D.str)) L m [] none none none) = o) :
    F_parse_program [.str (joinT [10] (h :: ts))] = fin (bindO o (evS P_parse_program sub FUEL (.seq (.frz 3 (.ret (.call 1004 [80, 114, 111, 103, 114, 97, 109] (.cons (.idx (.var 2) (.int 0)) (.cons (.idx (.var 2) (.int 1)) (.cons (.var 3) .nil)))))) .skip))) := by
  have hsp := hl.split (by simp)
  have i0 : dIdx (.lst ((h :: ts).map D.str)) (.int 0) = .ok (.str h) := idx_l ((h :: ts).map D.str) 0 (.str h) rfl
  have hln : biF .len [.lst ((h :: ts).map D.str)] = .ok (.int ((h :: ts).length : Int)) := by simp
  have hn : ¬ ((h :: ts).length : Int) = 1 := by
    cases ts with
    | nil => exact absurd rfl h0
    | cons _ _ => simp; omega
  have hsl : dSlc (.lst ((h :: ts).map D.str)) (.int 1) .non = .ok (.lst (ts.map D.str)) := slcL_from ((h :: ts).map D.str) 1
  have hen : biF .enum [.lst (ts.map D.str)] = .ok (.lst (enumD (ts.map D.str) 0)) := rfl
  have hd : dIs .non false (.tup [.str L, .int (m : Int)]) = .ok (.bl false) := rfl
  have hfo : evS P_parse_program sub FUEL fo_parse_program_1 (ppEnv (some (.str (joinT [10] (h :: ts)))) (.lst ((h :: ts).map D.str)) L m [] none none none) = o := by
    rw [evS_for]
    have : ev P_parse_program sub (.bi .enum (.cons (.slc (.var 1) (.int 1) .nil) .nil)) (ppEnv (some (.str (joinT [10] (h :: ts)))) (.lst ((h :: ts).map D.str)) L m [] none none none) = .ok (.lst (enumD (ts.map D.str) 0)) := by
      simp only [ppEnv]
      generalize D.lst ((h :: ts).map D.str) = dw at *
      generalize D.lst (ts.map D.str) = dt at *
      simp [prt, isPart, hsl, hen]
    rw [this, out_ok, items_l, omO_some]
    exact hf
  simp only [F_parse_program, run, b_parse_program]
  simp only [ppEnv] at hfo
  generalize fo_parse_program_1 = f1 at *
  generalize (E.S.seq (.frz 3 (.ret (.call 1004 [80, 114, 111, 103, 114, 97, 109] (.cons (.idx (.var 2) (.int 0)) (.cons (.idx (.var 2) (.int 1)) (.cons (.var 3) .nil)))))) .skip) = tl
  clear hf
  generalize D.lst ((h :: ts).map D.str) = dw at *
  generalize joinT [10] (h :: ts) = s at *
  generalize ((h :: ts).length : Int) = n at *
  generalize D.tup [.str L, .int (m : Int)] = told at *
  simp [isStr_s, hsp, i0, Ppp12, hh, hd, hln, hn, lim_le]
  rw [hfo]
end Lw

set_option maxRecDepth 100000
set_option autoImplicit false
set_option linter.all false
namespace Lw
open E
theorem read_ws {ws : List (List Nat)} (h : WsOk ws) (at_ : Nat) (ha : at_ < 1000) (chars : List Nat) (many : Nat) : F_read_line [.str (joinT [32] ws), .int (at_ : Int), .str chars, .int (many : Int)] = .ok (rdL ws at_ chars many) :=
  read_line_ok ws h.ne (fun w hw => (h.all w hw).f32) (fun w hw => by have := (h.all w hw).len; omega) (by have := h.jlen; omega) (by have := h.len; omega) at_ ha chars many
theorem lnR_tup (l : Ln) : tupD (lnR l) := by cases l <;> trivial
theorem read_note {chars : List Nat} {many : Nat} (hm : many ≤ 100) (hc : ChOk chars) {l : Ln} (h : LnOk chars many l) (at_ : Nat) (ha : at_ < 1000) : F_read_line [.str (joinT [32] (lnW at_ l)), .int (at_ : Int), .str chars, .int (many : Int)] = .ok (lnR l) := by
  rw [read_ws (lnW_ok hm hc h ha) at_ ha, rdL_good at_ chars many hm l h]
theorem notes_get : ∀ (ls : List Ln) (i j : Nat) (t : List Nat), (notesOf i ls)[j]? = some t → ∃ l, ls[j]? = some l ∧ t = joinT [32] (lnW (i + j) l)
  | [], _, _, _, h => by simp [notesOf] at h
  | l :: ls, i, 0, t, h => by
    simp [notesOf] at h
    exact ⟨l, rfl, h.symm⟩
  | l :: ls, i, j + 1, t, h => by
    obtain ⟨l', h1, h2⟩ := notes_get ls (i + 1) j t (by simpa [notesOf] using h)
    exact ⟨l', by simpa using h1, by rw [h2, show i + 1 + j = i + (j + 1) by omega]⟩
theorem chs_ok {L : List Nat} (hL : GoodL L) (m : Nat) : ChOk (chsOf L m) := fun c hc => by
  rcases List.mem_append.1 hc with z | z
  · have := hL.az c z; omega
  · have := List.mem_of_mem_take z
    simp at this
    omega
theorem head_line {L : List Nat} (hL : GoodL L) {m : Nat} (hm : m ≤ 5) : 10 ∉ headT L m ∧ (headT L m).length ≤ 500 := by
  have hL3 := hL.l3
  have hd := num_w m (by omega)
  have := hd.len
  rw [headT_eq]
  refine ⟨?_, by simp; omega⟩
  have h1 := hd.f10
  have h2 : 10 ∉ L := fun z => by have := hL.az 10 z; omega
  simp [h1, h2]
theorem notes_lines {L : List Nat} (hL : GoodL L) {m : Nat} (hm : m ≤ 5) {many : Nat} (hmany : many ≤ 100) (ls : List Ln) (hl : ls.length ≤ 30) (h : ∀ l ∈ ls, LnOk (chsOf L m) many l) : ∀ t ∈ notesOf 0 ls, 10 ∉ t ∧ t.length ≤ 500 := fun t ht => by
  have := notes_w hmany (chs_ok hL m) ls 0 h (by omega) t ht
  exact ⟨this.1, by omega⟩
theorem parse_ok (L : List Nat) (hL : GoodL L) (m : Nat) (hm : m ≤ 5) (ls : List Ln) (h0 : ls ≠ []) (hl : ls.length ≤ 30) (h : ∀ l ∈ ls, LnOk (chsOf L m) ls.length l) : F_parse_program [.str (joinT [10] (headT L m :: notesOf 0 ls))] = .ok (PD L m ls) := by
  have hL3 := hL.l3
  have hlo : LinesOk (headT L m :: notesOf 0 ls) := ⟨fun t ht => by
    rcases List.mem_cons.1 ht with rfl | ht
    · exact head_line hL hm
    · exact notes_lines hL hm (by omega) ls hl h t ht, by simp [notes_len]; omega⟩
  have hlen : biF .len [.lst ((headT L m :: notesOf 0 ls).map D.str)] = .ok (.int ((ls.length + 1 : Nat) : Int)) := by simp [notes_len]
  obtain ⟨y4, y5, y6, e⟩ := pp_loop (some (.str (joinT [10] (headT L m :: notesOf 0 ls)))) (.lst ((headT L m :: notesOf 0 ls).map D.str)) L (by omega) m ls.length hlen (notesOf 0 ls) (ls.map lnR) 0 (by simp [notes_len]) (fun j t r a b => by
    obtain ⟨l, q1, q2⟩ := notes_get ls 0 j t a
    rw [List.getElem?_map, q1] at b
    have hj := lt_of_get q1
    cases b
    rw [q2]
    exact ⟨read_note (by omega) (chs_ok hL m) (h l (List.mem_of_getElem? q1)) (0 + j) (by omega), lnR_tup l⟩) [] none none none (by simp [notes_len]; omega) []
  rw [List.append_nil] at e
  have hne : notesOf 0 ls ≠ [] := by
    intro z
    have := notes_len ls 0
    rw [z] at this
    exact h0 (List.length_eq_zero_iff.1 this.symm)
  rw [parse_pre (headT L m) (notesOf 0 ls) hne hlo L m (head_good L hL m hm) _ e]
  have hp := program_ok L hL m lnR ls h0 (by omega) h (fun l hl' => fz4_rd l fun a ts e => by
    have := h l hl'
    subst e
    have := this.2.2.1
    omega)
  have i0 : dIdx (.tup [.str L, .int (m : Int)]) (.int 0) = .ok (.str L) := rfl
  have i1 : dIdx (.tup [.str L, .int (m : Int)]) (.int 1) = .ok (.int (m : Int)) := rfl
  simp only [List.map_nil, enumD, forL_nil, ppEnv, List.nil_append]
  generalize D.tup [.str L, .int (m : Int)] = told at *
  generalize D.lst (ls.map lnR) = dl at *
  generalize D.lst ((headT L m :: notesOf 0 ls).map D.str) = dh at *
  generalize PD L m ls = pd at *
  simp [Ppp1004, i0, i1, hp]
theorem parse_bad_line (L : List Nat) (hL : GoodL L) (m : Nat) (hm : m ≤ 5) (pre : List Ln) (b : List Nat) (rest : List (List Nat)) (many : Nat) (hmany : (notesOf 0 pre ++ b :: rest).length = many) (hm30 : many ≤ 30) (h : ∀ l ∈ pre, LnOk (chsOf L m) many l)
    (hb : F_read_line [.str b, .int (pre.length : Int), .str (chsOf L m), .int (many : Int)] = .ok .non) (hf : ∀ t ∈ b :: rest, 10 ∉ t ∧ t.length ≤ 500) : F_parse_program [.str (joinT [10] (headT L m :: (notesOf 0 pre ++ b :: rest)))] = .err 2 [.int ((pre.length : Int) + 2)] := by
  have hL3 := hL.l3
  have hpl : pre.length < many := by
    rw [← hmany, List.length_append, notes_len]
    simp
  have hlo : LinesOk (headT L m :: (notesOf 0 pre ++ b :: rest)) := ⟨fun t ht => by
    rcases List.mem_cons.1 ht with rfl | ht
    · exact head_line hL hm
    · rcases List.mem_append.1 ht with ht | ht
      · exact notes_lines hL hm (by omega) pre (by omega) h t ht
      · exact hf t ht, by rw [List.length_cons, hmany]; omega⟩
  have hlen : biF .len [.lst ((headT L m :: (notesOf 0 pre ++ b :: rest)).map D.str)] = .ok (.int ((many + 1 : Nat) : Int)) := by
    rw [len_l, List.length_map, List.length_cons, hmany]
  obtain ⟨y4, y5, y6, e⟩ := pp_loop (some (.str (joinT [10] (headT L m :: (notesOf 0 pre ++ b :: rest))))) (.lst ((headT L m :: (notesOf 0 pre ++ b :: rest)).map D.str)) L (by omega) m many hlen (notesOf 0 pre) (pre.map lnR) 0 (by simp [notes_len]) (fun j t r a b => by
    obtain ⟨l, q1, q2⟩ := notes_get pre 0 j t a
    rw [List.getElem?_map, q1] at b
    have hj := lt_of_get q1
    cases b
    rw [q2]
    exact ⟨read_note (by omega) (chs_ok hL m) (h l (List.mem_of_getElem? q1)) (0 + j) (by omega), lnR_tup l⟩) [] none none none (by simp [notes_len]; omega) (b :: rest)
  have e2 : enumD ((b :: rest).map D.str) ((pre.length : Nat) : Int) = D.tup [.int (pre.length : Int), .str b] :: enumD (rest.map D.str) ((pre.length : Int) + 1) := rfl
  rw [notes_len, Nat.zero_add, e2, forL_ex (pp_bad _ _ L (by omega) m many hlen b pre.length hb _ y4 y5 y6)] at e
  rw [parse_pre (headT L m) (notesOf 0 pre ++ b :: rest) (by simp) hlo L m (head_good L hL m hm) _ e]
  rfl
/-! ### lines that are refused -/
theorem sh_facts {w1 : List Nat} {n : Nat} {sh : List Nat} (hn : 3 ≤ n) (h : shOf w1 n = some sh) : sh[0]? = some 99 ∧ sh[sh.length - 1]? = some 116 ∧ 2 ≤ sh.length ∧ sh.length ≤ 7 := by
  unfold shOf at h
  cases q : lkS KS VS w1 with
  | none => rw [q] at h; cases h
  | some sh0 =>
    rw [q] at h
    have h : (if sh0 = [99, 115] then 99 :: List.replicate (min (max (n - 3) 1) 6) 116 else sh0) = sh := by simpa using h
    have hv : sh0 ∈ VS := by
      simp only [lkS] at q
      repeat (split at q; · cases q; simp)
      cases q
    by_cases hs : sh0 = [99, 115]
    · rw [if_pos hs] at h
      have hk : 1 ≤ min (max (n - 3) 1) 6 ∧ min (max (n - 3) 1) 6 ≤ 6 := by omega
      generalize min (max (n - 3) 1) 6 = k at *
      subst h
      refine ⟨rfl, ?_, by simp; omega, by simp; omega⟩
      rw [List.length_cons, List.length_replicate, show k + 1 - 1 = (k - 1) + 1 by omega, List.getElem?_cons_succ]
      exact List.getElem?_replicate_of_lt (by omega)
    · rw [if_neg hs] at h
      subst h
      have key : ∀ s ∈ VS, s ≠ [99, 115] → s[0]? = some 99 ∧ s[s.length - 1]? = some 116 ∧ 2 ≤ s.length ∧ s.length ≤ 7 := by decide
      exact key sh0 hv hs
theorem rdL_bad (ws : List (List Nat)) (at_ : Nat) (chars : List Nat) (many : Nat) (H : ∀ w0 w1 w2 r sh, ws = w0 :: w1 :: w2 :: r → w0 = decI (at_ : Int) → shOf w1 ws.length = some sh → ws.length = sh.length + 2 → ∃ j s, sh[j]? = some s ∧ rdW s (ws.getD (j + 2) []) chars many = .non) : rdL ws at_ chars many = .non := by
  match ws, H with
  | [], _ => rfl
  | [_], _ => rfl
  | [_, _], _ => rfl
  | w0 :: w1 :: w2 :: r, H =>
    rw [rdL_cons]
    by_cases h0 : w0 = decI (at_ : Int)
    · rw [if_pos h0]
      cases hs : shOf w1 (w0 :: w1 :: w2 :: r).length with
      | none => rfl
      | some sh =>
        show (if (w0 :: w1 :: w2 :: r).length = sh.length + 2 then _ else _) = _
        by_cases hl : (w0 :: w1 :: w2 :: r).length = sh.length + 2
        · rw [if_pos hl]
          obtain ⟨j, s, h1, h2⟩ := H w0 w1 w2 r sh rfl h0 hs hl
          rw [if_pos]
          rw [List.any_eq_true]
          refine ⟨.non, ?_, rfl⟩
          unfold itemsOf
          rw [List.mem_map]
          refine ⟨(s, j), ?_, h2⟩
          rw [List.mem_zipIdx_iff_getElem?]
          exact h1
        · rw [if_neg hl]
    · rw [if_neg h0]
theorem bad_w0 (w0 : List Nat) (r : List (List Nat)) (at_ : Nat) (chars : List Nat) (many : Nat) (h : w0 ≠ decI (at_ : Int)) : rdL (w0 :: r) at_ chars many = .non := rdL_bad _ _ _ _ fun a b c d sh e h0 _ _ => by
  injection e with e1 e2
  exact absurd (e1.trans h0) h
theorem bad_name (w0 w1 : List Nat) (r : List (List Nat)) (at_ : Nat) (chars : List Nat) (many : Nat) (h : lkS KS VS w1 = none) : rdL (w0 :: w1 :: r) at_ chars many = .non := rdL_bad _ _ _ _ fun a b c d sh e h0 hs _ => by
  injection e with e1 e2
  injection e2 with e3 e4
  rw [← e3] at hs
  unfold shOf at hs
  rw [h] at hs
  cases hs
theorem bad_last (ini : List (List Nat)) (w : List Nat) (at_ : Nat) (chars : List Nat) (many : Nat) (h : rdT w many = .non) : rdL (ini ++ [w]) at_ chars many = .non := rdL_bad _ _ _ _ fun a b c d sh e h0 hs hl => by
  obtain ⟨f1, f2, f3, f4⟩ := sh_facts (by rw [e]; simp) hs
  refine ⟨sh.length - 1, 116, f2, ?_⟩
  have : (ini ++ [w]).getD (sh.length - 1 + 2) [] = w := by
    rw [show sh.length - 1 + 2 = ini.length by simp at hl; omega, List.getD_eq_getElem?_getD]
    simp
  rw [this]
  unfold rdW
  rw [if_neg (by omega), if_pos rfl, h]
theorem bad_third (w0 w1 w2 : List Nat) (r : List (List Nat)) (at_ : Nat) (chars : List Nat) (many : Nat) (h : rdC w2 chars = .non) : rdL (w0 :: w1 :: w2 :: r) at_ chars many = .non := rdL_bad _ _ _ _ fun a b c d sh e h0 hs hl => by
  obtain ⟨f1, f2, f3, f4⟩ := sh_facts (by simp) hs
  exact ⟨0, 99, f1, h⟩
theorem bad_long (ws : List (List Nat)) (at_ : Nat) (chars : List Nat) (many : Nat) (h : 9 < ws.length) : rdL ws at_ chars many = .non := rdL_bad _ _ _ _ fun a b c d sh e h0 hs hl => by
  obtain ⟨f1, f2, f3, f4⟩ := sh_facts (by rw [e]; simp) hs
  omega
theorem bad_every (w0 a b w c d : List Nat) (at_ : Nat) (chars : List Nat) (many : Nat) (h : rdN w = .non) : rdL [w0, nEvery, a, b, w, c, d] at_ chars many = .non := rdL_bad _ _ _ _ fun a' b' c' d' sh e h0 hs hl => by
  injection e with e1 e2
  injection e2 with e3 e4
  rw [← e3] at hs
  have hs : some [99, 99, 110, 116, 116] = some sh := hs
  cases hs
  exact ⟨2, 110, rfl, h⟩
theorem bad_count3 (w0 a : List Nat) (at_ : Nat) (chars : List Nat) (many : Nat) : rdL [w0, nCount, a] at_ chars many = .non := rdL_bad _ _ _ _ fun a' b' c' d' sh e h0 hs hl => by
  injection e with e1 e2
  injection e2 with e3 e4
  rw [← e3] at hs
  have hs : some [99, 116] = some sh := hs
  cases hs
  simp at hl
theorem bad_short (ws : List (List Nat)) (at_ : Nat) (chars : List Nat) (many : Nat) (h : ws.length < 3) : rdL ws at_ chars many = .non := rdL_bad _ _ _ _ fun a b c d sh e h0 hs hl => by
  rw [e] at h
  simp at h
  omega
end Lw

set_option maxRecDepth 100000
set_option autoImplicit false
set_option linter.all false
namespace Lw
open E
theorem Psp25 : P__law_spoilt 25 = F__law_note := by unfold P__law_spoilt; rfl
abbrev wYesB : List Nat := [89, 101, 115]
abbrev Y7 : List Nat := [32, 121, 101, 115, 32, 121, 101, 115, 32, 121, 101, 115, 32, 121, 101, 115, 32, 121, 101, 115, 32, 121, 101, 115, 32, 121, 101, 115]
theorem lnX_len {chars : List Nat} {many : Nat} {l : Ln} (h : LnOk chars many l) : 2 ≤ (lnX l).length ∧ (lnX l).length ≤ 7 := by
  cases l with
  | count a ts => have h1 := h.2.1; have h2 := h.2.2.1; simp [lnX]; omega
  | _ => simp [lnX]
theorem lnX_hd {chars : List Nat} {many : Nat} {l : Ln} (h : LnOk chars many l) : ∃ a w3 r, lnX l = [a] :: w3 :: r ∧ a ∈ chars ∧ r.length ≤ 5 := by
  have h2 := lnX_len h
  cases l with
  | count a ts =>
    cases ts with
    | nil => have := h.2.1; simp at this
    | cons t r => exact ⟨a, tgW t, r.map tgW, rfl, h.1, by have := h.2.2.1; simp at this ⊢; omega⟩
  | change a b t => exact ⟨a, _, _, rfl, h.1, by simp⟩
  | swap a b t => exact ⟨a, _, _, rfl, h.1, by simp⟩
  | first a b t u => exact ⟨a, _, _, rfl, h.1, by simp⟩
  | every a b n t u => exact ⟨a, _, _, rfl, h.1, by simp⟩
  | leads a t u => exact ⟨a, _, _, rfl, h.1, by simp⟩
theorem SD_tk (ws : List (List Nat)) (k : Nat) : dSlc (SD ws) .non (.int (k : Int)) = .ok (SD (ws.take k)) := by
  rw [slcL_pre, ← List.map_take]
theorem SD_dr (ws : List (List Nat)) (k : Nat) : dSlc (SD ws) (.int (k : Int)) .non = .ok (SD (ws.drop k)) := by
  rw [slcL_from, ← List.map_drop]
theorem SD_add (a b : List (List Nat)) (h : a.length + b.length ≤ 1000) : dAdd (SD a) (SD b) = .ok (SD (a ++ b)) := by
  refine (addL (by simp; omega)).trans ?_
  simp [SD]
theorem strs_from (t : List Nat) (hl : t.length ≤ 1000) (k : Nat) : dSlc (.str t) (.int (k : Int)) .non = .ok (.str (t.drop k)) := by
  rw [slc_any (lim_le (by omega)) _ _ rfl rfl, cut_from]
/-- the words of the spoilt line -/
def spW (at_ many m : Nat) (w0 w1 w2 w3 : List Nat) (r : List (List Nat)) : Nat → List (List Nat)
  | 0 => (w0 :: w1 :: w2 :: w3 :: r) ++ [[]]
  | 1 => [] :: w0 :: w1 :: w2 :: w3 :: r
  | 2 => [[]]
  | 3 => (w0 :: w1 :: w2 :: w3 :: r) ++ [wYes, wYes, wYes, wYes, wYes, wYes, wYes]
  | 4 => w0 :: [] :: w1 :: w2 :: w3 :: r
  | 5 => (48 :: w0) :: w1 :: w2 :: w3 :: r
  | 6 => decI ((at_ + 1 : Nat) : Int) :: w1 :: w2 :: w3 :: r
  | 7 => (w0 :: w1 :: w2 :: w3 :: r).dropLast ++ [wYesB]
  | 8 => (w0 :: w1 :: w2 :: w3 :: r).dropLast ++ [decI (many : Int)]
  | 9 => w0 :: (w1 ++ [115]) :: w2 :: w3 :: r
  | 10 => w0 :: w1 :: [65 + m] :: w3 :: r
  | 11 => (w0 :: w1 :: w2 :: w3 :: r).dropLast ++ [[48, 48]]
  | 12 => [w0, w1]
  | 13 => w0 :: w1 :: (w2 ++ w2) :: w3 :: r
  | 14 => [w0, nEvery, w2, w2, (([[48], [55], [48, 49], [45, 49]] : List (List Nat)).getD (at_ % 4) []), wYes, wNo]
  | _ => [w0, nCount, w2] ++ List.replicate (([0, 7] : List Nat).getD (at_ % 2) 0) wYes
theorem pn_nil : pn [] = none := rfl
theorem spW_bad (at_ : Nat) (chars : List Nat) (hch : ∀ c ∈ chars, 58 ≤ c) (many : Nat) (hm : many < 100) (m : Nat) (hmc : 65 + m ∉ chars) (l : Ln) (a : Nat) (w3 : List Nat) (r : List (List Nat)) (k : Nat) (hk : k < 16) : rdL (spW at_ many m (decI (at_ : Int)) (lnN l) [a] w3 r k) at_ chars many = .non := by
  have hk : k = 0 ∨ k = 1 ∨ k = 2 ∨ k = 3 ∨ k = 4 ∨ k = 5 ∨ k = 6 ∨ k = 7 ∨ k = 8 ∨ k = 9 ∨ k = 10 ∨ k = 11 ∨ k = 12 ∨ k = 13 ∨ k = 14 ∨ k = 15 := by omega
  rcases hk with rfl | rfl | rfl | rfl | rfl | rfl | rfl | rfl | rfl | rfl | rfl | rfl | rfl | rfl | rfl | rfl
  · exact bad_last _ [] at_ chars many rfl
  · exact bad_w0 _ _ _ _ _ (fun z => decI_ne at_ z.symm)
  · exact bad_short _ _ _ _ (by simp [spW])
  · exact bad_long _ _ _ _ (by simp [spW])
  · exact bad_name _ _ _ _ _ _ rfl
  · exact bad_w0 _ _ _ _ _ (fun z => by have := congrArg List.length z; simp at this)
  · exact bad_w0 _ _ _ _ _ (fun z => by have := decI_inj z; omega)
  · exact bad_last _ wYesB at_ chars many rfl
  · refine bad_last _ (decI (many : Int)) at_ chars many ?_
    unfold rdT
    rw [if_neg (num_ne many _ ⟨121, _, rfl, by omega⟩), if_neg (num_ne many _ ⟨110, _, rfl, by omega⟩), pn_num hm]
    show (if many < many then D.int (many : Int) else .non) = _
    rw [if_neg (by omega)]
  · refine bad_name _ _ _ _ _ _ ?_
    have key : ∀ n ∈ KS, lkS KS VS (n ++ [115]) = none := by decide
    exact key _ (by cases l <;> simp [lnN])
  · exact bad_third _ _ _ _ _ _ _ (if_neg hmc)
  · exact bad_last _ [48, 48] at_ chars many rfl
  · exact bad_short _ _ _ _ (by simp [spW])
  · exact bad_third _ _ _ _ _ _ _ rfl
  · refine bad_every _ _ _ _ _ _ _ _ _ ?_
    have : at_ % 4 = 0 ∨ at_ % 4 = 1 ∨ at_ % 4 = 2 ∨ at_ % 4 = 3 := by omega
    rcases this with h | h | h | h <;> rw [h] <;> rfl
  · have : at_ % 2 = 0 ∨ at_ % 2 = 1 := by omega
    rcases this with h | h
    · show rdL ([decI (at_ : Int), nCount, [a]] ++ List.replicate (([0, 7] : List Nat).getD (at_ % 2) 0) wYes) at_ chars many = _
      rw [h]
      exact bad_count3 _ _ _ _ _
    · refine bad_long _ _ _ _ ?_
      show 9 < ([decI (at_ : Int), nCount, [a]] ++ List.replicate (([0, 7] : List Nat).getD (at_ % 2) 0) wYes).length
      rw [h]
      simp
theorem wok_lit (w : List Nat) (h : (decide (32 ∉ w) && decide (10 ∉ w) && decide (w.length ≤ 12)) = true) : WOk w := by
  simp only [Bool.and_eq_true, decide_eq_true_eq] at h
  exact ⟨h.1.1, h.1.2, h.2⟩
theorem spW_ok (at_ : Nat) (ha : at_ < 900) (many : Nat) (hm : many < 100) (m : Nat) (hm5 : m ≤ 5) (l : Ln) (a : Nat) (ha65 : 65 ≤ a) (w3 : List Nat) (r : List (List Nat)) (hr : r.length ≤ 5) (h3 : WOk w3) (hrr : ∀ w ∈ r, WOk w) (k : Nat) (hk : k < 16) : WsOk (spW at_ many m (decI (at_ : Int)) (lnN l) [a] w3 r k) := by
  have w0 := num_w at_ (by omega)
  have w1 := lnN_w l
  have w2 := ch_w ha65
  have l0 : (decI (at_ : Int)).length ≤ 3 := by rw [decI_num]; exact TL.numL_len (k := 3) (by omega) (by omega)
  have l1 : (lnN l).length ≤ 6 := by
    have key : ∀ n ∈ KS, n.length ≤ 6 := by decide
    exact key _ (by cases l <;> simp [lnN])
  have hdl : ∀ w ∈ (decI (at_ : Int) :: lnN l :: [a] :: w3 :: r), WOk w := by
    intro w hw
    simp only [List.mem_cons] at hw
    rcases hw with rfl | rfl | rfl | rfl | hw
    · exact w0
    · exact w1
    · exact w2
    · exact h3
    · exact hrr w hw
  have wn : WOk [] := wok_lit _ (by decide)
  have wy : WOk wYes := wok_lit _ (by decide)
  have hk : k = 0 ∨ k = 1 ∨ k = 2 ∨ k = 3 ∨ k = 4 ∨ k = 5 ∨ k = 6 ∨ k = 7 ∨ k = 8 ∨ k = 9 ∨ k = 10 ∨ k = 11 ∨ k = 12 ∨ k = 13 ∨ k = 14 ∨ k = 15 := by omega
  have mk : ∀ ws : List (List Nat), ws ≠ [] → ws.length ≤ 30 → (∀ w ∈ ws, WOk w ∨ w ∈ (decI (at_ : Int) :: lnN l :: [a] :: w3 :: r)) → WsOk ws := fun ws h1 h2 h3 => ⟨h1, fun w hw => by
    rcases h3 w hw with z | z
    · exact z
    · exact hdl w z, h2⟩
  rcases hk with rfl | rfl | rfl | rfl | rfl | rfl | rfl | rfl | rfl | rfl | rfl | rfl | rfl | rfl | rfl | rfl
  · refine mk _ (by simp [spW]) (by simp [spW]; omega) fun w hw => ?_
    rcases List.mem_append.1 hw with z | z
    · exact .inr z
    · rw [List.mem_singleton.1 z]; exact .inl wn
  · refine mk _ (by simp [spW]) (by simp [spW]; omega) fun w hw => ?_
    rcases List.mem_cons.1 hw with rfl | z
    · exact .inl wn
    · exact .inr z
  · exact mk _ (by simp [spW]) (by simp [spW]) fun w hw => by rw [List.mem_singleton.1 hw]; exact .inl wn
  · refine mk _ (by simp [spW]) (by simp [spW]; omega) fun w hw => ?_
    rcases List.mem_append.1 hw with z | z
    · exact .inr z
    · simp only [List.mem_cons, List.not_mem_nil, or_false, or_self] at z
      rw [z]; exact .inl wy
  · refine mk _ (by simp [spW]) (by simp [spW]; omega) fun w hw => ?_
    rcases List.mem_cons.1 hw with rfl | z
    · exact .inl w0
    · rcases List.mem_cons.1 z with rfl | z
      · exact .inl wn
      · exact .inr (List.mem_cons_of_mem _ z)
  · refine mk _ (by simp [spW]) (by simp [spW]; omega) fun w hw => ?_
    rcases List.mem_cons.1 hw with rfl | z
    · exact .inl ⟨by simpa using w0.f32, by simpa using w0.f10, by simp; omega⟩
    · exact .inr (List.mem_cons_of_mem _ z)
  · refine mk _ (by simp [spW]) (by simp [spW]; omega) fun w hw => ?_
    rcases List.mem_cons.1 hw with rfl | z
    · exact .inl (num_w (at_ + 1) (by omega))
    · exact .inr (List.mem_cons_of_mem _ z)
  · refine mk _ (by simp [spW]) (by simp [spW]; omega) fun w hw => ?_
    rcases List.mem_append.1 hw with z | z
    · exact .inr (List.dropLast_subset _ z)
    · rw [List.mem_singleton.1 z]; exact .inl (wok_lit _ (by decide))
  · refine mk _ (by simp [spW]) (by simp [spW]; omega) fun w hw => ?_
    rcases List.mem_append.1 hw with z | z
    · exact .inr (List.dropLast_subset _ z)
    · rw [List.mem_singleton.1 z]; exact .inl (num_w many (by omega))
  · refine mk _ (by simp [spW]) (by simp [spW]; omega) fun w hw => ?_
    rcases List.mem_cons.1 hw with rfl | z
    · exact .inl w0
    · rcases List.mem_cons.1 z with rfl | z
      · exact .inl ⟨by simpa using w1.f32, by simpa using w1.f10, by simp; omega⟩
      · exact .inr (List.mem_cons_of_mem _ (List.mem_cons_of_mem _ z))
  · refine mk _ (by simp [spW]) (by simp [spW]; omega) fun w hw => ?_
    simp only [spW, List.mem_cons] at hw
    rcases hw with rfl | rfl | rfl | rfl | z
    · exact .inl w0
    · exact .inl w1
    · exact .inl (ch_w (by omega))
    · exact .inl h3
    · exact .inl (hrr w z)
  · refine mk _ (by simp [spW]) (by simp [spW]; omega) fun w hw => ?_
    rcases List.mem_append.1 hw with z | z
    · exact .inr (List.dropLast_subset _ z)
    · rw [List.mem_singleton.1 z]; exact .inl (wok_lit _ (by decide))
  · refine mk _ (by simp [spW]) (by simp [spW]) fun w hw => ?_
    simp only [spW, List.mem_cons, List.not_mem_nil, or_false] at hw
    rcases hw with rfl | rfl
    · exact .inl w0
    · exact .inl w1
  · refine mk _ (by simp [spW]) (by simp [spW]; omega) fun w hw => ?_
    simp only [spW, List.mem_cons] at hw
    rcases hw with rfl | rfl | rfl | rfl | z
    · exact .inl w0
    · exact .inl w1
    · exact .inl ⟨by simp; omega, by simp; omega, by simp⟩
    · exact .inl h3
    · exact .inl (hrr w z)
  · refine mk _ (by simp [spW]) (by simp [spW]) fun w hw => ?_
    simp only [spW, List.mem_cons, List.not_mem_nil, or_false] at hw
    rcases hw with rfl | rfl | rfl | rfl | rfl | rfl | rfl
    · exact .inl w0
    · exact .inl (wok_lit _ (by decide))
    · exact .inl w2
    · exact .inl w2
    · have : at_ % 4 = 0 ∨ at_ % 4 = 1 ∨ at_ % 4 = 2 ∨ at_ % 4 = 3 := by omega
      rcases this with h | h | h | h <;> rw [h] <;> exact .inl (wok_lit _ (by decide))
    · exact .inl wy
    · exact .inl (wok_lit _ (by decide))
  · have : at_ % 2 = 0 ∨ at_ % 2 = 1 := by omega
    have hrep : ([0, 7] : List Nat).getD (at_ % 2) 0 ≤ 7 := by rcases this with h | h <;> rw [h] <;> simp
    refine mk _ (by simp [spW]) (by simp only [spW, List.length_append, List.length_replicate, List.length_cons, List.length_nil]; omega) fun w hw => ?_
    rcases List.mem_append.1 hw with z | z
    · simp only [List.mem_cons, List.not_mem_nil, or_false] at z
      rcases z with rfl | rfl | rfl
      · exact .inl w0
      · exact .inl (wok_lit _ (by decide))
      · exact .inl w2
    · rw [List.eq_of_mem_replicate z]; exact .inl wy
end Lw

set_option maxRecDepth 100000
set_option autoImplicit false
set_option linter.all false
namespace Lw
open E
theorem join2 (ws : List (List Nat)) (h : ws ≠ []) (w : List Nat) : joinT [32] ws ++ [32] ++ w = joinT [32] (ws ++ [w]) := (join_snoc [32] w ws h).symm
theorem sp_join (ws : List (List Nat)) (h1 : ws.length ≤ 100) (h3 : ∀ w ∈ ws, w.length ≤ 1000) : meth .join (.str [32]) [SD ws] = .ok (.str (joinT [32] ws)) := joinS_ok [32] ws h1 (by simp) h3
theorem spoilt_ok (at_ : Nat) (ha : at_ < 900) (many : Nat) (hm : many < 100) (m : Nat) (hm5 : m ≤ 5) (chars : List Nat) (hc : ChOk chars) (l : Ln) (h : LnOk chars many l) (a : Nat) (w3 : List Nat) (r : List (List Nat)) (hX : lnX l = [a] :: w3 :: r) (k : Nat) (hk : k < 16) (hW : WsOk (spW at_ many m (decI (at_ : Int)) (lnN l) [a] w3 r k)) :
    F__law_spoilt [.int (at_ : Int), lnD l, .int (many : Int), .int (m : Int), .int (k : Int)] = .ok (.str (joinT [32] (spW at_ many m (decI (at_ : Int)) (lnN l) [a] w3 r k))) := by
  have hws := lnW_ok (many := many) (by omega) hc h (at_ := at_) (by omega)
  have eW : lnW at_ l = decI (at_ : Int) :: lnN l :: [a] :: w3 :: r := by unfold lnW; rw [hX]
  have hn := note_ok (many := many) (by omega) hc h at_ (by omega)
  have hsp := hws.split
  have hjl := hws.jlen
  have hwl := hws.len
  have hall := hws.all
  rw [eW] at hn hsp hjl hwl hall
  generalize hw0 : decI (at_ : Int) = w0 at *
  generalize lnN l = w1 at *
  have len0 : w0.length ≤ 12 := (hall w0 (by simp)).len
  have len1 : w1.length ≤ 12 := (hall w1 (by simp)).len
  have len3 : w3.length ≤ 12 := (hall w3 (by simp)).len
  have lenr : ∀ w ∈ r, w.length ≤ 12 := fun w hw => (hall w (by simp [hw])).len
  have lall : ∀ w ∈ w0 :: w1 :: [a] :: w3 :: r, w.length ≤ 1000 := fun w hw => by have := (hall w hw).len; omega
  have i0 : dIdx (SD (w0 :: w1 :: [a] :: w3 :: r)) (.int 0) = .ok (.str w0) := idx_l ((w0 :: w1 :: [a] :: w3 :: r).map D.str) 0 (.str w0) rfl
  have i1 : dIdx (SD (w0 :: w1 :: [a] :: w3 :: r)) (.int 1) = .ok (.str w1) := idx_l ((w0 :: w1 :: [a] :: w3 :: r).map D.str) 1 (.str w1) rfl
  have i2 : dIdx (SD (w0 :: w1 :: [a] :: w3 :: r)) (.int 2) = .ok (.str [a]) := idx_l ((w0 :: w1 :: [a] :: w3 :: r).map D.str) 2 (.str [a]) rfl
  have s2 : dSlc (SD (w0 :: w1 :: [a] :: w3 :: r)) .non (.int 2) = .ok (SD [w0, w1]) := SD_tk (w0 :: w1 :: [a] :: w3 :: r) 2
  have t1 : dSlc (SD (w0 :: w1 :: [a] :: w3 :: r)) (.int 1) .non = .ok (SD (w1 :: [a] :: w3 :: r)) := SD_dr (w0 :: w1 :: [a] :: w3 :: r) 1
  have t2 : dSlc (SD (w0 :: w1 :: [a] :: w3 :: r)) (.int 2) .non = .ok (SD ([a] :: w3 :: r)) := SD_dr (w0 :: w1 :: [a] :: w3 :: r) 2
  have t3 : dSlc (SD (w0 :: w1 :: [a] :: w3 :: r)) (.int 3) .non = .ok (SD (w3 :: r)) := SD_dr (w0 :: w1 :: [a] :: w3 :: r) 3
  have hlen : biF .len [SD (w0 :: w1 :: [a] :: w3 :: r)] = .ok (.int ((r.length + 4 : Nat) : Int)) := by simp; omega
  have e1 : (((r.length + 4 : Nat) : Int) - 1) = ((r.length + 3 : Nat) : Int) := by omega
  have sd : dSlc (SD (w0 :: w1 :: [a] :: w3 :: r)) .non (.int ((r.length + 3 : Nat) : Int)) = .ok (SD ((w0 :: w1 :: [a] :: w3 :: r).dropLast)) := by
    rw [SD_tk, List.dropLast_eq_take]
    rfl
  have hdl : (w0 :: w1 :: [a] :: w3 :: r).dropLast.length ≤ 40 := by simp at hwl ⊢; omega
  have ldl : ∀ w ∈ (w0 :: w1 :: [a] :: w3 :: r).dropLast, w.length ≤ 1000 := fun w hw => lall w (List.dropLast_subset _ hw)
  have jn : ∀ w : List Nat, w.length ≤ 100 → dAdd (SD ((w0 :: w1 :: [a] :: w3 :: r).dropLast)) (.lst [.str w]) = .ok (SD ((w0 :: w1 :: [a] :: w3 :: r).dropLast ++ [w])) ∧ meth .join (.str [32]) [SD ((w0 :: w1 :: [a] :: w3 :: r).dropLast ++ [w])] = .ok (.str (joinT [32] ((w0 :: w1 :: [a] :: w3 :: r).dropLast ++ [w]))) := fun w hw =>
    ⟨SD_add _ [w] (by simp only [List.length_cons, List.length_nil]; omega), sp_join _ (by simp only [List.length_append, List.length_cons, List.length_nil]; omega) fun u hu => by
      rcases List.mem_append.1 hu with z | z
      · exact ldl u z
      · rw [List.mem_singleton.1 z]; omega⟩
  have stm := str_num many (by omega)
  by_cases h8 : k < 8
  · have hlt : (k : Int) < 8 := by omega
    have hJ : joinT [32] (w0 :: w1 :: [a] :: w3 :: r) = w0 ++ [32] ++ joinT [32] (w1 :: [a] :: w3 :: r) := rfl
    have a0 : dAdd (.str (joinT [32] (w0 :: w1 :: [a] :: w3 :: r))) (.str [32]) = .ok (.str (joinT [32] ((w0 :: w1 :: [a] :: w3 :: r) ++ [[]]))) := by
      rw [join_snoc [32] [] _ (by simp), List.append_nil]
      exact addS (by simp only [List.length_cons, List.length_nil]; omega)
    have a1 : dAdd (.str [32]) (.str (joinT [32] (w0 :: w1 :: [a] :: w3 :: r))) = .ok (.str (joinT [32] ([] :: w0 :: w1 :: [a] :: w3 :: r))) := addS (by simp only [List.length_cons, List.length_nil]; omega)
    have a3 : dAdd (.str (joinT [32] (w0 :: w1 :: [a] :: w3 :: r))) (.str Y7) = .ok (.str (joinT [32] ((w0 :: w1 :: [a] :: w3 :: r) ++ [wYes, wYes, wYes, wYes, wYes, wYes, wYes]))) := by
      rw [join_app [32] _ _ (by simp) (by simp), List.append_assoc]
      exact addS (b := Y7) (by simp only [List.length_cons, List.length_nil]; omega)
    have hj1l : (joinT [32] (w1 :: [a] :: w3 :: r)).length ≤ 400 := by
      have := congrArg List.length hJ
      simp only [List.length_append] at this
      omega
    have j1 : meth .join (.str [32]) [SD (w1 :: [a] :: w3 :: r)] = .ok (.str (joinT [32] (w1 :: [a] :: w3 :: r))) := sp_join _ (by simp at hwl ⊢; omega) fun u hu => lall u (List.mem_cons_of_mem _ hu)
    have a4 : dAdd (.str w0) (.str [32, 32]) = .ok (.str (w0 ++ [32, 32])) := addS (by simp only [List.length_cons, List.length_nil]; omega)
    have a4b : dAdd (.str (w0 ++ [32, 32])) (.str (joinT [32] (w1 :: [a] :: w3 :: r))) = .ok (.str (joinT [32] (w0 :: [] :: w1 :: [a] :: w3 :: r))) := by
      refine (addS (by simp only [List.length_append, List.length_cons, List.length_nil]; omega)).trans ?_
      congr 2
      show w0 ++ [32, 32] ++ joinT [32] (w1 :: [a] :: w3 :: r) = w0 ++ [32] ++ ([] ++ [32] ++ joinT [32] (w1 :: [a] :: w3 :: r))
      simp
    have a5 : dAdd (.str [48]) (.str (joinT [32] (w0 :: w1 :: [a] :: w3 :: r))) = .ok (.str (joinT [32] ((48 :: w0) :: w1 :: [a] :: w3 :: r))) := addS (by simp only [List.length_cons, List.length_nil]; omega)
    have l0 := len_s' (s := w0) (by omega)
    have sJ : dSlc (.str (joinT [32] (w0 :: w1 :: [a] :: w3 :: r))) (.int (w0.length : Int)) .non = .ok (.str ([32] ++ joinT [32] (w1 :: [a] :: w3 :: r))) := by
      rw [strs_from _ (by omega), hJ, List.append_assoc, List.drop_left]
    have st1 : biF .str [.int ((at_ : Int) + 1)] = .ok (.str (decI ((at_ + 1 : Nat) : Int))) := str_num (at_ + 1) (by omega)
    have hd1 : (decI ((at_ + 1 : Nat) : Int)).length ≤ 12 := (num_w (at_ + 1) (by omega)).len
    have a6 : dAdd (.str (decI ((at_ + 1 : Nat) : Int))) (.str ([32] ++ joinT [32] (w1 :: [a] :: w3 :: r))) = .ok (.str (joinT [32] (decI ((at_ + 1 : Nat) : Int) :: w1 :: [a] :: w3 :: r))) := by
      refine (addS (by simp only [List.length_append, List.length_cons, List.length_nil]; omega)).trans ?_
      congr 2
      show _ = decI ((at_ + 1 : Nat) : Int) ++ [32] ++ joinT [32] (w1 :: [a] :: w3 :: r)
      simp
    obtain ⟨a7, j7⟩ := jn wYesB (by simp)
    obtain ⟨R, hR⟩ : ∃ R, R = D.lst [.str (joinT [32] ((w0 :: w1 :: [a] :: w3 :: r) ++ [[]])), .str (joinT [32] ([] :: w0 :: w1 :: [a] :: w3 :: r)), .str [], .str (joinT [32] ((w0 :: w1 :: [a] :: w3 :: r) ++ [wYes, wYes, wYes, wYes, wYes, wYes, wYes])), .str (joinT [32] (w0 :: [] :: w1 :: [a] :: w3 :: r)), .str (joinT [32] ((48 :: w0) :: w1 :: [a] :: w3 :: r)), .str (joinT [32] (decI ((at_ + 1 : Nat) : Int) :: w1 :: [a] :: w3 :: r)), .str (joinT [32] ((w0 :: w1 :: [a] :: w3 :: r).dropLast ++ [wYesB]))] := ⟨_, rfl⟩
    have hix : dIdx R (.int (k : Int)) = .ok (.str (joinT [32] (spW at_ many m w0 w1 [a] w3 r k))) := by
      have : k = 0 ∨ k = 1 ∨ k = 2 ∨ k = 3 ∨ k = 4 ∨ k = 5 ∨ k = 6 ∨ k = 7 := by omega
      rw [hR]
      rcases this with rfl | rfl | rfl | rfl | rfl | rfl | rfl | rfl <;> exact idx_l _ _ _ rfl
    simp only [F__law_spoilt, run, b__law_spoilt]
    generalize joinT [32] (spW at_ many m w0 w1 [a] w3 r k) = res at *
    generalize joinT [32] ((w0 :: w1 :: [a] :: w3 :: r).dropLast ++ [wYesB]) = z7 at *
    generalize SD ((w0 :: w1 :: [a] :: w3 :: r).dropLast ++ [wYesB]) = d7 at *
    generalize SD ((w0 :: w1 :: [a] :: w3 :: r).dropLast) = dd at *
    generalize joinT [32] (decI ((at_ + 1 : Nat) : Int) :: w1 :: [a] :: w3 :: r) = z6 at *
    generalize [32] ++ joinT [32] (w1 :: [a] :: w3 :: r) = z6b at *
    generalize joinT [32] ((48 :: w0) :: w1 :: [a] :: w3 :: r) = z5 at *
    generalize joinT [32] (w0 :: [] :: w1 :: [a] :: w3 :: r) = z4 at *
    generalize w0 ++ [32, 32] = z4b at *
    generalize joinT [32] ((w0 :: w1 :: [a] :: w3 :: r) ++ [wYes, wYes, wYes, wYes, wYes, wYes, wYes]) = z3 at *
    generalize joinT [32] ([] :: w0 :: w1 :: [a] :: w3 :: r) = z1 at *
    generalize joinT [32] ((w0 :: w1 :: [a] :: w3 :: r) ++ [[]]) = z0 at *
    generalize joinT [32] (w0 :: w1 :: [a] :: w3 :: r) = J at *
    generalize joinT [32] (w1 :: [a] :: w3 :: r) = J1 at *
    generalize SD (w0 :: w1 :: [a] :: w3 :: r) = dws at *
    generalize SD (w1 :: [a] :: w3 :: r) = dws1 at *
    generalize lnD l = ld at *
    generalize ((r.length + 4 : Nat) : Int) = n4 at *
    generalize ((r.length + 3 : Nat) : Int) = n3 at *
    generalize (w0.length : Int) = nw at *
    generalize decI ((at_ + 1 : Nat) : Int) = da1 at *
    rw [hR] at hix
    simp only [Y7] at a3
    have hk8 : k < 8 := h8
    simp [isStr_s, Psp25, hn, hsp, hlt, a0, a1, a3, i0, a4, t1, j1, a4b, a5, st1, l0, sJ, a6, hlen, e1, sd, a7, j7, hix, prt, isPart, lim_le]
  · have hk : k = 8 ∨ k = 9 ∨ k = 10 ∨ k = 11 ∨ k = 12 ∨ k = 13 ∨ k = 14 ∨ k = 15 := by omega
    have l2 : ∀ w ∈ [w0, w1], w.length ≤ 1000 := fun w hw => by
      simp only [List.mem_cons, List.not_mem_nil, or_false] at hw
      rcases hw with rfl | rfl <;> omega
    have hr30 : r.length ≤ 30 := by simp at hwl; omega
    rcases hk with rfl | rfl | rfl | rfl | rfl | rfl | rfl | rfl
    · obtain ⟨a7, j7⟩ := jn (decI (many : Int)) (by have := (num_w many (by omega)).len; omega)
      show _ = Res.ok (D.str (joinT [32] ((w0 :: w1 :: [a] :: w3 :: r).dropLast ++ [decI (many : Int)])))
      simp only [F__law_spoilt, run, b__law_spoilt]
      generalize joinT [32] ((w0 :: w1 :: [a] :: w3 :: r).dropLast ++ [decI (many : Int)]) = z7 at *
      generalize SD ((w0 :: w1 :: [a] :: w3 :: r).dropLast ++ [decI (many : Int)]) = d7 at *
      generalize SD ((w0 :: w1 :: [a] :: w3 :: r).dropLast) = dd at *
      generalize joinT [32] (w0 :: w1 :: [a] :: w3 :: r) = J at *
      generalize SD (w0 :: w1 :: [a] :: w3 :: r) = dws at *
      generalize lnD l = ld at *
      generalize ((r.length + 4 : Nat) : Int) = n4 at *
      generalize ((r.length + 3 : Nat) : Int) = n3 at *
      generalize decI (many : Int) = da1 at *
      simp [isStr_s, Psp25, hn, hsp, hlen, e1, sd, stm, a7, j7, prt, isPart, lim_le]
    · have a9 : dAdd (.str w1) (.str [115]) = .ok (.str (w1 ++ [115])) := addS (by simp only [List.length_cons, List.length_nil]; omega)
      have b9 : dAdd (.lst [.str w0, .str (w1 ++ [115])]) (SD ([a] :: w3 :: r)) = .ok (SD (w0 :: (w1 ++ [115]) :: [a] :: w3 :: r)) := SD_add [w0, w1 ++ [115]] ([a] :: w3 :: r) (by simp; omega)
      have j9 := sp_join (w0 :: (w1 ++ [115]) :: [a] :: w3 :: r) (by simp; omega) fun u hu => by
        rcases List.mem_cons.1 hu with rfl | hu
        · omega
        · rcases List.mem_cons.1 hu with rfl | hu
          · simp; omega
          · exact lall u (List.mem_cons_of_mem _ (List.mem_cons_of_mem _ hu))
      show _ = Res.ok (D.str (joinT [32] (w0 :: (w1 ++ [115]) :: [a] :: w3 :: r)))
      simp only [F__law_spoilt, run, b__law_spoilt]
      generalize joinT [32] (w0 :: (w1 ++ [115]) :: [a] :: w3 :: r) = z at *
      generalize SD (w0 :: (w1 ++ [115]) :: [a] :: w3 :: r) = d9 at *
      generalize joinT [32] (w0 :: w1 :: [a] :: w3 :: r) = J at *
      generalize SD (w0 :: w1 :: [a] :: w3 :: r) = dws at *
      generalize SD ([a] :: w3 :: r) = dws2 at *
      generalize lnD l = ld at *
      generalize w1 ++ [115] = w1s at *
      simp [isStr_s, Psp25, hn, hsp, i0, i1, a9, t2, b9, j9, prt, isPart, lim_le]
    · have h6 : dIdx (.str [65, 66, 67, 68, 69, 70]) (.int (m : Int)) = .ok (.str [65 + m]) := idx_s [65, 66, 67, 68, 69, 70] (lim_le (by simp)) m _ (by
        have : m = 0 ∨ m = 1 ∨ m = 2 ∨ m = 3 ∨ m = 4 ∨ m = 5 := by omega
        rcases this with rfl | rfl | rfl | rfl | rfl | rfl <;> rfl)
      have b1 : dAdd (SD [w0, w1]) (.lst [.str [65 + m]]) = .ok (SD [w0, w1, [65 + m]]) := SD_add [w0, w1] [[65 + m]] (by simp)
      have b2 : dAdd (SD [w0, w1, [65 + m]]) (SD (w3 :: r)) = .ok (SD (w0 :: w1 :: [65 + m] :: w3 :: r)) := SD_add [w0, w1, [65 + m]] (w3 :: r) (by simp; omega)
      have j9 := sp_join (w0 :: w1 :: [65 + m] :: w3 :: r) (by simp; omega) fun u hu => by
        simp only [List.mem_cons] at hu
        rcases hu with rfl | rfl | rfl | rfl | hu
        · omega
        · omega
        · simp
        · omega
        · have := lenr u hu; omega
      show _ = Res.ok (D.str (joinT [32] (w0 :: w1 :: [65 + m] :: w3 :: r)))
      simp only [F__law_spoilt, run, b__law_spoilt]
      generalize joinT [32] (w0 :: w1 :: [65 + m] :: w3 :: r) = z at *
      generalize SD (w0 :: w1 :: [65 + m] :: w3 :: r) = d9 at *
      generalize SD [w0, w1, [65 + m]] = d8 at *
      generalize joinT [32] (w0 :: w1 :: [a] :: w3 :: r) = J at *
      generalize SD (w0 :: w1 :: [a] :: w3 :: r) = dws at *
      generalize SD (w3 :: r) = dws3 at *
      generalize SD [w0, w1] = dws2 at *
      generalize lnD l = ld at *
      generalize [65 + m] = c65 at *
      simp [isStr_s, Psp25, hn, hsp, s2, t3, h6, b1, b2, j9, prt, isPart, lim_le]
    · obtain ⟨a7, j7⟩ := jn [48, 48] (by simp)
      show _ = Res.ok (D.str (joinT [32] ((w0 :: w1 :: [a] :: w3 :: r).dropLast ++ [[48, 48]])))
      simp only [F__law_spoilt, run, b__law_spoilt]
      generalize joinT [32] ((w0 :: w1 :: [a] :: w3 :: r).dropLast ++ [[48, 48]]) = z7 at *
      generalize SD ((w0 :: w1 :: [a] :: w3 :: r).dropLast ++ [[48, 48]]) = d7 at *
      generalize SD ((w0 :: w1 :: [a] :: w3 :: r).dropLast) = dd at *
      generalize joinT [32] (w0 :: w1 :: [a] :: w3 :: r) = J at *
      generalize SD (w0 :: w1 :: [a] :: w3 :: r) = dws at *
      generalize lnD l = ld at *
      generalize ((r.length + 4 : Nat) : Int) = n4 at *
      generalize ((r.length + 3 : Nat) : Int) = n3 at *
      simp [isStr_s, Psp25, hn, hsp, hlen, e1, sd, a7, j7, prt, isPart, lim_le]
    · have j9 := sp_join [w0, w1] (by simp) l2
      show _ = Res.ok (D.str (joinT [32] [w0, w1]))
      simp only [F__law_spoilt, run, b__law_spoilt]
      generalize joinT [32] [w0, w1] = z at *
      generalize joinT [32] (w0 :: w1 :: [a] :: w3 :: r) = J at *
      generalize SD (w0 :: w1 :: [a] :: w3 :: r) = dws at *
      generalize SD [w0, w1] = dws2 at *
      generalize lnD l = ld at *
      simp [isStr_s, Psp25, hn, hsp, s2, j9, prt, isPart, lim_le]
    · have a9 : dAdd (.str [a]) (.str [a]) = .ok (.str ([a] ++ [a])) := addS (by simp)
      have b1 : dAdd (SD [w0, w1]) (.lst [.str ([a] ++ [a])]) = .ok (SD [w0, w1, [a] ++ [a]]) := SD_add [w0, w1] [[a] ++ [a]] (by simp)
      have b2 : dAdd (SD [w0, w1, [a] ++ [a]]) (SD (w3 :: r)) = .ok (SD (w0 :: w1 :: ([a] ++ [a]) :: w3 :: r)) := SD_add [w0, w1, [a] ++ [a]] (w3 :: r) (by simp; omega)
      have j9 := sp_join (w0 :: w1 :: ([a] ++ [a]) :: w3 :: r) (by simp; omega) fun u hu => by
        simp only [List.mem_cons] at hu
        rcases hu with rfl | rfl | rfl | rfl | hu
        · omega
        · omega
        · simp
        · omega
        · have := lenr u hu; omega
      show _ = Res.ok (D.str (joinT [32] (w0 :: w1 :: ([a] ++ [a]) :: w3 :: r)))
      simp only [F__law_spoilt, run, b__law_spoilt]
      generalize joinT [32] (w0 :: w1 :: ([a] ++ [a]) :: w3 :: r) = z at *
      generalize SD (w0 :: w1 :: ([a] ++ [a]) :: w3 :: r) = d9 at *
      generalize SD [w0, w1, [a] ++ [a]] = d8 at *
      generalize joinT [32] (w0 :: w1 :: [a] :: w3 :: r) = J at *
      generalize SD (w0 :: w1 :: [a] :: w3 :: r) = dws at *
      generalize SD (w3 :: r) = dws3 at *
      generalize SD [w0, w1] = dws2 at *
      generalize lnD l = ld at *
      generalize [a] ++ [a] = aa at *
      simp [isStr_s, Psp25, hn, hsp, s2, t3, i2, a9, b1, b2, j9, prt, isPart, lim_le]
    · have h4 : ∃ x : List Nat, ([[48], [55], [48, 49], [45, 49]] : List (List Nat)).getD (at_ % 4) [] = x ∧ x.length ≤ 2 ∧ dIdx (.lst [.str [48], .str [55], .str [48, 49], .str [45, 49]]) (.int ((at_ : Int) % 4)) = .ok (.str x) := by
        have e4 : (at_ : Int) % 4 = ((at_ % 4 : Nat) : Int) := by omega
        have : at_ % 4 = 0 ∨ at_ % 4 = 1 ∨ at_ % 4 = 2 ∨ at_ % 4 = 3 := by omega
        rw [e4]
        rcases this with h | h | h | h <;> rw [h] <;> exact ⟨_, rfl, by simp, rfl⟩
      obtain ⟨x, x1, x2, x3⟩ := h4
      have res : joinT [32] (spW at_ many m w0 w1 [a] w3 r 14) = w0 ++ [32, 101, 118, 101, 114, 121, 32] ++ [a] ++ [32] ++ [a] ++ [32] ++ x ++ [32, 121, 101, 115, 32, 110, 111] := by
        show joinT [32] [w0, nEvery, [a], [a], (([[48], [55], [48, 49], [45, 49]] : List (List Nat)).getD (at_ % 4) []), wYes, wNo] = _
        rw [x1]
        simp [joinT]
      rw [res]
      have c1 : dAdd (.str w0) (.str [32, 101, 118, 101, 114, 121, 32]) = .ok (.str (w0 ++ [32, 101, 118, 101, 114, 121, 32])) := addS (by simp; omega)
      have c2 : dAdd (.str (w0 ++ [32, 101, 118, 101, 114, 121, 32])) (.str [a]) = .ok (.str (w0 ++ [32, 101, 118, 101, 114, 121, 32] ++ [a])) := addS (by simp; omega)
      have c3 : dAdd (.str (w0 ++ [32, 101, 118, 101, 114, 121, 32] ++ [a])) (.str [32]) = .ok (.str (w0 ++ [32, 101, 118, 101, 114, 121, 32] ++ [a] ++ [32])) := addS (by simp; omega)
      have c4 : dAdd (.str (w0 ++ [32, 101, 118, 101, 114, 121, 32] ++ [a] ++ [32])) (.str [a]) = .ok (.str (w0 ++ [32, 101, 118, 101, 114, 121, 32] ++ [a] ++ [32] ++ [a])) := addS (by simp; omega)
      have c5 : dAdd (.str (w0 ++ [32, 101, 118, 101, 114, 121, 32] ++ [a] ++ [32] ++ [a])) (.str [32]) = .ok (.str (w0 ++ [32, 101, 118, 101, 114, 121, 32] ++ [a] ++ [32] ++ [a] ++ [32])) := addS (by simp; omega)
      have c6 : dAdd (.str (w0 ++ [32, 101, 118, 101, 114, 121, 32] ++ [a] ++ [32] ++ [a] ++ [32])) (.str x) = .ok (.str (w0 ++ [32, 101, 118, 101, 114, 121, 32] ++ [a] ++ [32] ++ [a] ++ [32] ++ x)) := addS (by simp; omega)
      have c7 : dAdd (.str (w0 ++ [32, 101, 118, 101, 114, 121, 32] ++ [a] ++ [32] ++ [a] ++ [32] ++ x)) (.str [32, 121, 101, 115, 32, 110, 111]) = .ok (.str (w0 ++ [32, 101, 118, 101, 114, 121, 32] ++ [a] ++ [32] ++ [a] ++ [32] ++ x ++ [32, 121, 101, 115, 32, 110, 111])) := addS (by simp; omega)
      simp only [F__law_spoilt, run, b__law_spoilt]
      generalize w0 ++ [32, 101, 118, 101, 114, 121, 32] ++ [a] ++ [32] ++ [a] ++ [32] ++ x ++ [32, 121, 101, 115, 32, 110, 111] = y7 at *
      generalize w0 ++ [32, 101, 118, 101, 114, 121, 32] ++ [a] ++ [32] ++ [a] ++ [32] ++ x = y6 at *
      generalize w0 ++ [32, 101, 118, 101, 114, 121, 32] ++ [a] ++ [32] ++ [a] ++ [32] = y5 at *
      generalize w0 ++ [32, 101, 118, 101, 114, 121, 32] ++ [a] ++ [32] ++ [a] = y4 at *
      generalize w0 ++ [32, 101, 118, 101, 114, 121, 32] ++ [a] ++ [32] = y3 at *
      generalize w0 ++ [32, 101, 118, 101, 114, 121, 32] ++ [a] = y2 at *
      generalize w0 ++ [32, 101, 118, 101, 114, 121, 32] = y1 at *
      generalize joinT [32] (w0 :: w1 :: [a] :: w3 :: r) = J at *
      generalize SD (w0 :: w1 :: [a] :: w3 :: r) = dws at *
      generalize lnD l = ld at *
      simp [isStr_s, Psp25, hn, hsp, i0, i2, c1, c2, c3, c4, c5, c6, c7, x3, lim_le]
    · have h2 : ∃ q : Nat, ([0, 7] : List Nat).getD (at_ % 2) 0 = q ∧ (q = 0 ∨ q = 7) ∧ dIdx (.lst [.int 0, .int 7]) (.int ((at_ : Int) % 2)) = .ok (.int (q : Int)) := by
        have e4 : (at_ : Int) % 2 = ((at_ % 2 : Nat) : Int) := by omega
        have : at_ % 2 = 0 ∨ at_ % 2 = 1 := by omega
        rw [e4]
        rcases this with h | h <;> rw [h] <;> exact ⟨_, rfl, by simp, rfl⟩
      obtain ⟨q, q1, q2, q3⟩ := h2
      have hmu := mulT [32, 121, 101, 115] q (by simp; omega) (by omega)
      have res : joinT [32] (spW at_ many m w0 w1 [a] w3 r 15) = w0 ++ [32, 99, 111, 117, 110, 116, 32] ++ [a] ++ (List.replicate q [32, 121, 101, 115]).flatten := by
        show joinT [32] ([w0, nCount, [a]] ++ List.replicate (([0, 7] : List Nat).getD (at_ % 2) 0) wYes) = _
        rw [q1]
        rcases q2 with rfl | rfl <;> simp [joinT]
      have hql : (List.replicate q [32, 121, 101, 115]).flatten.length ≤ 28 := by rcases q2 with rfl | rfl <;> simp
      rw [res]
      generalize (List.replicate q [32, 121, 101, 115]).flatten = x at *
      have c1 : dAdd (.str w0) (.str [32, 99, 111, 117, 110, 116, 32]) = .ok (.str (w0 ++ [32, 99, 111, 117, 110, 116, 32])) := addS (by simp; omega)
      have c2 : dAdd (.str (w0 ++ [32, 99, 111, 117, 110, 116, 32])) (.str [a]) = .ok (.str (w0 ++ [32, 99, 111, 117, 110, 116, 32] ++ [a])) := addS (by simp; omega)
      have c3 : dAdd (.str (w0 ++ [32, 99, 111, 117, 110, 116, 32] ++ [a])) (.str x) = .ok (.str (w0 ++ [32, 99, 111, 117, 110, 116, 32] ++ [a] ++ x)) := addS (by simp; omega)
      simp only [F__law_spoilt, run, b__law_spoilt]
      generalize w0 ++ [32, 99, 111, 117, 110, 116, 32] ++ [a] ++ x = y3 at *
      generalize w0 ++ [32, 99, 111, 117, 110, 116, 32] ++ [a] = y2 at *
      generalize w0 ++ [32, 99, 111, 117, 110, 116, 32] = y1 at *
      generalize joinT [32] (w0 :: w1 :: [a] :: w3 :: r) = J at *
      generalize SD (w0 :: w1 :: [a] :: w3 :: r) = dws at *
      generalize lnD l = ld at *
      simp [isStr_s, Psp25, hn, hsp, i0, i2, c1, c2, c3, hmu, q3, lim_le]
end Lw

set_option maxRecDepth 100000
set_option autoImplicit false
set_option linter.all false
namespace Lw
open E
/-! ### what the law draws -/
theorem ltarget_ok (d at_ many : Nat) (hm : 1 ≤ many) (lp : Bool) : ∃ t, TgOk many t ∧ F__law_target [.int (d : Int), .int (at_ : Int), .int (many : Int), .bl lp] = .ok (tgD t) := by
  have key : ∀ (ch x : D), dIdx ch (.int ((d : Int) % 8)) = .ok x → ((∃ b, x = .bl b) ∨ ∃ n : Nat, x = .int (n : Int)) → ∃ t, TgOk many t ∧
      fin (evS P__law_target sub FUEL (.seq (.asg [5] true (.idx (.var 4) (.op .mod (.var 0) (.int 8)))) (.seq (.if_ (.and (.not (.isi (.var 5) .bool)) (.one (.op .ge (.var 5) (.var 2)))) (.seq (.ret (.op .eq (.op .mod (.var 0) (.int 3)) (.int 0))) .skip) .skip) (.seq (.ret (.var 5)) .skip))) [some (.int (d : Int)), some (.int (at_ : Int)), some (.int (many : Int)), some (.bl lp), some ch, none]) = .ok (tgD t) := fun ch x hx h => by
    rcases h with ⟨b, rfl⟩ | ⟨n, rfl⟩
    · refine ⟨if b = true then .yes else .no, by cases b <;> trivial, ?_⟩
      cases b <;> simp [hx, kdOk, isKd, tgD]
    · by_cases hn : many ≤ n
      · have hn' : (many : Int) ≤ (n : Int) := by omega
        by_cases h3 : (d : Int) % 3 = 0
        · exact ⟨.yes, trivial, by simp [hx, kdOk, isKd, tgD, hn, h3]⟩
        · exact ⟨.no, trivial, by simp [hx, kdOk, isKd, tgD, hn, h3]⟩
      · have hn' : ¬ (many : Int) ≤ (n : Int) := by omega
        exact ⟨.st n, (show n < many by omega), by simp [hx, kdOk, isKd, tgD, hn]⟩
  have hd : d % 8 = 0 ∨ d % 8 = 1 ∨ d % 8 = 2 ∨ d % 8 = 3 ∨ d % 8 = 4 ∨ d % 8 = 5 ∨ d % 8 = 6 ∨ d % 8 = 7 := by omega
  have e8 : (d : Int) % 8 = ((d % 8 : Nat) : Int) := by omega
  have hmp : (0 : Int) < (many : Int) := by omega
  cases lp with
  | false =>
    obtain ⟨t, h1, h2⟩ := key (.lst [.bl true, .bl false, .int ((at_ : Int) + 1), .int ((at_ : Int) + 1), .int ((at_ : Int) + 2), .bl true, .bl false, .int ((at_ : Int) + 1)]) ([D.bl true, .bl false, .int ((at_ : Int) + 1), .int ((at_ : Int) + 1), .int ((at_ : Int) + 2), .bl true, .bl false, .int ((at_ : Int) + 1)].getD (d % 8) .non) (by
      rw [e8]
      rcases hd with h | h | h | h | h | h | h | h <;> rw [h] <;> exact idx_l _ _ _ rfl) (by
      have a1 : (at_ : Int) + 1 = ((at_ + 1 : Nat) : Int) := by omega
      have a2 : (at_ : Int) + 2 = ((at_ + 2 : Nat) : Int) := by omega
      rw [a1, a2]
      rcases hd with h | h | h | h | h | h | h | h <;> rw [h] <;> first | exact .inl ⟨_, rfl⟩ | exact .inr ⟨_, rfl⟩)
    refine ⟨t, h1, ?_⟩
    rw [← h2]
    simp only [F__law_target, run, b__law_target]
    simp [lim_le]
  | true =>
    obtain ⟨t, h1, h2⟩ := key (.lst [.bl true, .bl false, .int ((at_ : Int) + 1), .int (at_ : Int), .int 0, .int ((d : Int) % (many : Int)), .int ((at_ : Int) + 2), .int ((at_ : Int) + 1)]) ([D.bl true, .bl false, .int ((at_ : Int) + 1), .int (at_ : Int), .int 0, .int ((d : Int) % (many : Int)), .int ((at_ : Int) + 2), .int ((at_ : Int) + 1)].getD (d % 8) .non) (by
      rw [e8]
      rcases hd with h | h | h | h | h | h | h | h <;> rw [h] <;> exact idx_l _ _ _ rfl) (by
      have a1 : (at_ : Int) + 1 = ((at_ + 1 : Nat) : Int) := by omega
      have a2 : (at_ : Int) + 2 = ((at_ + 2 : Nat) : Int) := by omega
      have a3 : (d : Int) % (many : Int) = ((d % many : Nat) : Int) := by omega
      rw [a1, a2, a3]
      rcases hd with h | h | h | h | h | h | h | h <;> rw [h] <;> first | exact .inl ⟨_, rfl⟩ | exact .inr ⟨_, rfl⟩ | exact .inr ⟨0, rfl⟩)
    refine ⟨t, h1, ?_⟩
    rw [← h2]
    simp only [F__law_target, run, b__law_target]
    have hmp2 : 0 < many := by omega
    simp [lim_le, hmp2]
theorem Pll21 : P__law_line 21 = F__law_target := by unfold P__law_line; rfl
abbrev ND (r : List Nat) : D := .lst (r.map fun (n : Nat) => D.int (n : Int))
theorem lline_ok (n0 n1 n2 n3 n4 n5 n6 : Nat) (h0 : n0 < 6) (h6 : n6 < 4) (at_ many : Nat) (hm : 1 ≤ many) (chars : List Nat) (hc1 : 1 ≤ chars.length) (hc2 : chars.length ≤ 100) (lp : Bool) :
    ∃ l, LnOk chars many l ∧ F__law_line [ND [n0, n1, n2, n3, n4, n5, n6], .int (at_ : Int), .int (many : Int), .str chars, .bl lp] = .ok (lnD l) := by
  obtain ⟨t0, o0, f0⟩ := ltarget_ok n3 at_ many hm lp
  obtain ⟨t1, o1, f1⟩ := ltarget_ok n4 at_ many hm lp
  obtain ⟨t2, o2, f2⟩ := ltarget_ok n5 at_ many hm lp
  have g : ∀ (k v : Nat), [n0, n1, n2, n3, n4, n5, n6][k]? = some v → dIdx (ND [n0, n1, n2, n3, n4, n5, n6]) (.int (k : Int)) = .ok (.int (v : Int)) := fun k v h => idx_l _ k _ (by rw [List.getElem?_map, h]; rfl)
  have hcl := len_s' (s := chars) (by omega)
  have chx : ∀ n : Nat, ∃ a, a ∈ chars ∧ dIdx (.str chars) (.int ((n : Int) % (chars.length : Int))) = .ok (.str [a]) := fun n => by
    have hlt : n % chars.length < chars.length := Nat.mod_lt _ (by omega)
    refine ⟨chars[n % chars.length], List.getElem_mem _, ?_⟩
    have e : (n : Int) % (chars.length : Int) = ((n % chars.length : Nat) : Int) := by omega
    rw [e]
    exact idx_s chars (lim_le (by omega)) _ _ (List.getElem?_eq_getElem hlt)
  obtain ⟨a, ha, ia⟩ := chx n1
  obtain ⟨b, hb, ib⟩ := chx n2
  have g0 := g 0 n0 rfl
  have g1 := g 1 n1 rfl
  have g2 := g 2 n2 rfl
  have g6 := g 6 n6 rfl
  have hlp : (0 : Int) < (chars.length : Int) := by omega
  have htg : ∀ x5 x6 x7 x8, ev P__law_line sub fo__law_line_1 [some (ND [n0, n1, n2, n3, n4, n5, n6]), some (.int (at_ : Int)), some (.int (many : Int)), some (.str chars), some (.bl lp), x5, x6, x7, x8, none] = .ok (.lst [tgD t0, tgD t1, tgD t2]) := fun x5 x6 x7 x8 => by
    have hr : biF .rng1 [.int 3] = .ok (.lst ([0, 1, 2].map fun (k : Nat) => D.int (k : Int))) := rfl
    have := lcm_ok P__law_line sub [9] true (.bi .rng1 (.cons (.int 3) .nil)) (.call 21 [95, 108, 97, 119, 95, 116, 97, 114, 103, 101, 116] (.cons (.idx (.var 0) (.op .add (.int 3) (.var 9))) (.cons (.var 1) (.cons (.var 2) (.cons (.var 4) .nil))))) [some (ND [n0, n1, n2, n3, n4, n5, n6]), some (.int (at_ : Int)), some (.int (many : Int)), some (.str chars), some (.bl lp), x5, x6, x7, x8, none] (.lst ([0, 1, 2].map fun (k : Nat) => D.int (k : Int))) [0, 1, 2] (fun (k : Nat) => D.int (k : Int)) (fun k => [tgD t0, tgD t1, tgD t2].getD k .non) (by rw [ev_bi, evL_cons, ev_int, bd_ok, evL_nil, bd_ok, bd_ok, hr]) rfl (by simp) fun k hk => ⟨_, rfl, by
      have hk : k = 0 ∨ k = 1 ∨ k = 2 := by simpa using hk
      have g3 := g 3 n3 rfl
      have g4 := g 4 n4 rfl
      have g5 := g 5 n5 rfl
      rw [show ((3 : Nat) : Int) = 3 from rfl] at g3
      rw [show ((4 : Nat) : Int) = 4 from rfl] at g4
      rw [show ((5 : Nat) : Int) = 5 from rfl] at g5
      generalize ND [n0, n1, n2, n3, n4, n5, n6] = nd at *
      rcases hk with rfl | rfl | rfl
      · show ev P__law_line sub _ [some nd, some (.int (at_ : Int)), some (.int (many : Int)), some (.str chars), some (.bl lp), x5, x6, x7, x8, some (.int 0)] = _
        simp [Pll21, g3, f0]
      · show ev P__law_line sub _ [some nd, some (.int (at_ : Int)), some (.int (many : Int)), some (.str chars), some (.bl lp), x5, x6, x7, x8, some (.int 1)] = _
        simp [Pll21, g4, f1]
      · show ev P__law_line sub _ [some nd, some (.int (at_ : Int)), some (.int (many : Int)), some (.str chars), some (.bl lp), x5, x6, x7, x8, some (.int 2)] = _
        simp [Pll21, g5, f2]⟩
    exact this
  have j0 : dIdx (.lst [tgD t0, tgD t1, tgD t2]) (.int 0) = .ok (tgD t0) := idx_l [tgD t0, tgD t1, tgD t2] 0 _ rfl
  have j1 : dIdx (.lst [tgD t0, tgD t1, tgD t2]) (.int 1) = .ok (tgD t1) := idx_l [tgD t0, tgD t1, tgD t2] 1 _ rfl
  have hname : ∀ n : Nat, n < 6 → dIdx (.lst [.str [99, 104, 97, 110, 103, 101], .str [115, 119, 97, 112], .str [102, 105, 114, 115, 116], .str [101, 118, 101, 114, 121], .str [99, 111, 117, 110, 116], .str [108, 101, 97, 100, 115]]) (.int (n : Int)) = .ok (.str (KS.getD n [])) := fun n hn => by
    have : n = 0 ∨ n = 1 ∨ n = 2 ∨ n = 3 ∨ n = 4 ∨ n = 5 := by omega
    rcases this with rfl | rfl | rfl | rfl | rfl | rfl <;> rfl
  have hn0 := hname n0 h0
  rw [show ((0 : Nat) : Int) = 0 from rfl] at g0
  rw [show ((1 : Nat) : Int) = 1 from rfl] at g1
  rw [show ((2 : Nat) : Int) = 2 from rfl] at g2
  rw [show ((6 : Nat) : Int) = 6 from rfl] at g6
  have hcases : n0 = 0 ∨ n0 = 1 ∨ n0 = 2 ∨ n0 = 3 ∨ n0 = 4 ∨ n0 = 5 := by omega
  simp only [F__law_line, run, b__law_line]
  generalize hnd : ND [n0, n1, n2, n3, n4, n5, n6] = nd at *
  have hq : ∃ q : Nat, 1 ≤ q ∧ q ≤ 3 ∧ (1 : Int) + (n6 : Int) % 3 = (q : Int) := ⟨1 + n6 % 3, by omega, by omega, by omega⟩
  obtain ⟨q, q1, q2, q3⟩ := hq
  have hsl : dSlc (.lst [tgD t0, tgD t1, tgD t2]) .non (.int (q : Int)) = .ok (.lst (([t0, t1, t2].take q).map tgD)) := by
    rw [slcL_pre]
    rw [List.map_take]
    rfl
  have htp : biF .tuple [.lst (([t0, t1, t2].take q).map tgD)] = .ok (.tup (([t0, t1, t2].take q).map tgD)) := rfl
  generalize hfo : fo__law_line_1 = fo at *
  generalize hdt : D.lst [tgD t0, tgD t1, tgD t2] = dt at *
  generalize (chars.length : Int) = cl at *
  rcases hcases with rfl | rfl | rfl | rfl | rfl | rfl
  · refine ⟨.change a b t0, ⟨ha, hb, o0⟩, ?_⟩
    have hn0 : dIdx _ (.int 0) = .ok (.str nChange) := hn0
    rw [show ((0 : Nat) : Int) = 0 from rfl] at g0
    show _ = Res.ok (D.tup [.str nChange, .str [a], .str [b], tgD t0])
    generalize tgD t0 = d0 at *
    generalize tgD t1 = d1 at *
    simp [g0, g1, g2, hn0, hcl, hlp, ia, ib, htg, j0, j1, lim_le]
  · refine ⟨.swap a b t0, ⟨ha, hb, o0⟩, ?_⟩
    have hn0 : dIdx _ (.int 1) = .ok (.str nSwap) := hn0
    rw [show ((1 : Nat) : Int) = 1 from rfl] at g0
    show _ = Res.ok (D.tup [.str nSwap, .str [a], .str [b], tgD t0])
    generalize tgD t0 = d0 at *
    generalize tgD t1 = d1 at *
    simp [g0, g1, g2, hn0, hcl, hlp, ia, ib, htg, j0, j1, lim_le]
  · refine ⟨.first a b t0 t1, ⟨ha, hb, o0, o1⟩, ?_⟩
    have hn0 : dIdx _ (.int 2) = .ok (.str nFirst) := hn0
    rw [show ((2 : Nat) : Int) = 2 from rfl] at g0
    show _ = Res.ok (D.tup [.str nFirst, .str [a], .str [b], tgD t0, tgD t1])
    generalize tgD t0 = d0 at *
    generalize tgD t1 = d1 at *
    simp [g0, g1, g2, hn0, hcl, hlp, ia, ib, htg, j0, j1, lim_le]
  · refine ⟨.every a b (1 + n6) t0 t1, ⟨ha, hb, by omega, by omega, o0, o1⟩, ?_⟩
    have hn0 : dIdx _ (.int 3) = .ok (.str nEvery) := hn0
    rw [show ((3 : Nat) : Int) = 3 from rfl] at g0
    show _ = Res.ok (D.tup [.str nEvery, .str [a], .str [b], .int ((1 + n6 : Nat) : Int), tgD t0, tgD t1])
    have e6 : ((1 + n6 : Nat) : Int) = (1 : Int) + (n6 : Int) := by omega
    rw [e6]
    generalize tgD t0 = d0 at *
    generalize tgD t1 = d1 at *
    simp [g0, g1, g2, g6, hn0, hcl, hlp, ia, ib, htg, j0, j1, lim_le]
  · refine ⟨.count a ([t0, t1, t2].take q), ⟨ha, by simp; omega, by simp; omega, fun t ht => by
      have := List.mem_of_mem_take ht
      simp only [List.mem_cons, List.not_mem_nil, or_false] at this
      rcases this with rfl | rfl | rfl
      · exact o0
      · exact o1
      · exact o2⟩, ?_⟩
    have hn0 : dIdx _ (.int 4) = .ok (.str nCount) := hn0
    rw [show ((4 : Nat) : Int) = 4 from rfl] at g0
    show _ = Res.ok (D.tup [.str nCount, .str [a], .tup (([t0, t1, t2].take q).map tgD)])
    generalize D.tup (([t0, t1, t2].take q).map tgD) = dtp at *
    generalize D.lst (([t0, t1, t2].take q).map tgD) = dlp at *
    simp [g0, g1, g2, g6, hn0, hcl, hlp, ia, ib, htg, q3, hsl, htp, prt, isPart, lim_le]
  · refine ⟨.leads a t0 t1, ⟨ha, o0, o1⟩, ?_⟩
    have hn0 : dIdx _ (.int 5) = .ok (.str nLeads) := hn0
    rw [show ((5 : Nat) : Int) = 5 from rfl] at g0
    show _ = Res.ok (D.tup [.str nLeads, .str [a], tgD t0, tgD t1])
    generalize tgD t0 = d0 at *
    generalize tgD t1 = d1 at *
    simp [g0, g1, g2, hn0, hcl, hlp, ia, ib, htg, j0, j1, lim_le]
end Lw

set_option maxRecDepth 100000
set_option autoImplicit false
set_option linter.all false
namespace Lw
open E
theorem Plp18 : P__law_program 18 = F__law_cell := by unfold P__law_program; rfl
theorem Plp19 : P__law_program 19 = F__law_digits := by unfold P__law_program; rfl
theorem Plp20 : P__law_program 20 = F__law_letters := by unfold P__law_program; rfl
theorem Plp22 : P__law_program 22 = F__law_line := by unfold P__law_program; rfl
theorem lp_step (ns : List Int) (hns : ns.length ≤ 63) (x2 x4 x5 : Option D) (lp : Bool) (chars : List Nat) (hc1 : 1 ≤ chars.length) (hc2 : chars.length ≤ 100) (many : Nat) (hm : 1 ≤ many) (i : Nat) (hi : i < 100) (ls : List Ln) (hl : ls.length ≤ 100) (x9 x10 : Option D) :
    ∃ l y10, LnOk chars many l ∧ (fun d e => omO (asg [9] true d e) (evS P__law_program sub FUEL lb__law_program_1)) (.int (i : Int)) [some (.scr ns), some (.int 0), x2, some (.bl lp), x4, x5, some (.str chars), some (.int (many : Int)), some (.lst (ls.map lnD)), x9, x10] =
      .nx [some (.scr ns), some (.int 0), x2, some (.bl lp), x4, x5, some (.str chars), some (.int (many : Int)), some (.lst ((ls ++ [l]).map lnD)), some (.int (i : Int)), y10] := by
  obtain ⟨v, _, hv⟩ := cell_ok ns hns (2 + i) (by omega)
  obtain ⟨ds, b, hd⟩ := digits_ok v [6, 12, 12, 24, 24, 24, 4] (by simp) (by simp)
  match ds, b with
  | [a0, a1, a2, a3, a4, a5, a6], ⟨h0, h1, h2, h3, h4, h5, h6, _⟩ =>
  obtain ⟨n0, rfl⟩ := Int.eq_ofNat_of_zero_le h0.1
  obtain ⟨n1, rfl⟩ := Int.eq_ofNat_of_zero_le h1.1
  obtain ⟨n2, rfl⟩ := Int.eq_ofNat_of_zero_le h2.1
  obtain ⟨n3, rfl⟩ := Int.eq_ofNat_of_zero_le h3.1
  obtain ⟨n4, rfl⟩ := Int.eq_ofNat_of_zero_le h4.1
  obtain ⟨n5, rfl⟩ := Int.eq_ofNat_of_zero_le h5.1
  obtain ⟨n6, rfl⟩ := Int.eq_ofNat_of_zero_le h6.1
  obtain ⟨l, o, f⟩ := lline_ok n0 n1 n2 n3 n4 n5 n6 (by omega) (by omega) i many hm chars hc1 hc2 lp
  have hd' : F__law_digits [.int v, .lst [.int 6, .int 12, .int 12, .int 24, .int 24, .int 24, .int 4]] = .ok (ND [n0, n1, n2, n3, n4, n5, n6]) := hd
  have e2 : (0 : Int) + 2 + (i : Int) = ((2 + i : Nat) : Int) := by omega
  refine ⟨l, some (ND [n0, n1, n2, n3, n4, n5, n6]), o, ?_⟩
  generalize ND [n0, n1, n2, n3, n4, n5, n6] = nd at *
  have hmu : muF .append 8 (evL P__law_program sub (.cons (.call 22 [95, 108, 97, 119, 95, 108, 105, 110, 101] (.cons (.var 10) (.cons (.var 9) (.cons (.var 7) (.cons (.var 6) (.cons (.var 3) .nil)))))) .nil)) [some (.scr ns), some (.int 0), x2, some (.bl lp), x4, x5, some (.str chars), some (.int (many : Int)), some (.lst (ls.map lnD)), some (.int (i : Int)), some nd] =
      .nx [some (.scr ns), some (.int 0), x2, some (.bl lp), x4, x5, some (.str chars), some (.int (many : Int)), some (.lst ((ls ++ [l]).map lnD)), some (.int (i : Int)), some nd] := by
    rw [mu_app (l := ls.map lnD) (d := lnD l) rfl (by
      generalize D.lst (ls.map lnD) = dl
      generalize lnD l = ld at *
      simp [Plp22, f]) (lim_lt (by simp; omega))]
    simp
  generalize D.lst (ls.map lnD) = dl at *
  generalize D.lst ((ls ++ [l]).map lnD) = dl2 at *
  generalize ((2 + i : Nat) : Int) = c at *
  show omO (asg [9] true _ _) _ = _
  rw [asg1, omO_some, evS_seq, evS_asg]
  have hrow : ev P__law_program sub (.call 19 [95, 108, 97, 119, 95, 100, 105, 103, 105, 116, 115] (.cons (.call 18 [95, 108, 97, 119, 95, 99, 101, 108, 108] (.cons (.var 0) (.cons (.op .add (.op .add (.var 1) (.int 2)) (.var 9)) .nil))) (.cons (.lst (.cons (.int 6) (.cons (.int 12) (.cons (.int 12) (.cons (.int 24) (.cons (.int 24) (.cons (.int 24) (.cons (.int 4) .nil)))))))) .nil))) [some (.scr ns), some (.int 0), x2, some (.bl lp), x4, x5, some (.str chars), some (.int (many : Int)), some dl, some (.int (i : Int)), x10] = .ok nd := by
    have e2' : (2 : Int) + (i : Int) = c := by omega
    simp [Plp18, Plp19, e2', hv, hd', lim_le]
  show bindO ((ev P__law_program sub _ [some (.scr ns), some (.int 0), x2, some (.bl lp), x4, x5, some (.str chars), some (.int (many : Int)), some dl, some (.int (i : Int)), x10]).out _ _) _ = _
  rw [hrow, out_ok, asg1, omO_some, bindO_nx, evS_seq, evS_mu]
  show bindO (muF .append 8 _ [some (.scr ns), some (.int 0), x2, some (.bl lp), x4, x5, some (.str chars), some (.int (many : Int)), some dl, some (.int (i : Int)), some nd]) _ = _
  rw [hmu, bindO_nx, evS_skip]
theorem lp_loop (ns : List Int) (hns : ns.length ≤ 63) (x2 x4 x5 : Option D) (lp : Bool) (chars : List Nat) (hc1 : 1 ≤ chars.length) (hc2 : chars.length ≤ 100) (many : Nat) (hm : 1 ≤ many) (hm8 : many ≤ 50) : ∀ (m i : Nat), i + m = many → ∀ (ls : List Ln), ls.length = i → (∀ l ∈ ls, LnOk chars many l) → ∀ x9 x10,
    ∃ (ls' : List Ln) (y9 y10 : Option D), ls'.length = many ∧ (∀ l ∈ ls', LnOk chars many l) ∧ forL (fun d e => omO (asg [9] true d e) (evS P__law_program sub FUEL lb__law_program_1)) ((List.range' i m).map fun (k : Nat) => D.int (k : Int)) [some (.scr ns), some (.int 0), x2, some (.bl lp), x4, x5, some (.str chars), some (.int (many : Int)), some (.lst (ls.map lnD)), x9, x10] =
      .nx [some (.scr ns), some (.int 0), x2, some (.bl lp), x4, x5, some (.str chars), some (.int (many : Int)), some (.lst (ls'.map lnD)), y9, y10]
  | 0, i, hi, ls, hl, h, x9, x10 => ⟨ls, x9, x10, by omega, h, rfl⟩
  | m + 1, i, hi, ls, hl, h, x9, x10 => by
    obtain ⟨l, z10, o, e1⟩ := lp_step ns hns x2 x4 x5 lp chars hc1 hc2 many hm i (by omega) ls (by omega) x9 x10
    obtain ⟨ls', y9, y10, q1, q2, e2⟩ := lp_loop ns hns x2 x4 x5 lp chars hc1 hc2 many hm hm8 m (i + 1) (by omega) (ls ++ [l]) (by simp [hl]) (fun z hz => by
      rcases List.mem_append.1 hz with y | y
      · exact h z y
      · rw [List.mem_singleton.1 y]; exact o) (some (.int (i : Int))) z10
    exact ⟨ls', y9, y10, q1, q2, by rw [List.range'_succ, List.map_cons, forL_nx e1, e2]⟩
theorem lprog_ok (ns : List Int) (hns : ns.length ≤ 63) (lp : Bool) : ∃ (L : List Nat) (m : Nat) (ls : List Ln), GoodL L ∧ m < 3 ∧ 1 ≤ ls.length ∧ ls.length ≤ 8 ∧ (∀ l ∈ ls, LnOk (chsOf L m) ls.length l) ∧ F__law_program [.scr ns, .int 0, .int 8, .bl lp] = .ok (.lst [.str L, .int (m : Int), .lst (ls.map lnD)]) := by
  obtain ⟨v0, _, c0⟩ := cell_ok ns hns 0 (by omega)
  obtain ⟨ds, b0, hd0⟩ := digits_ok v0 [8, 8, 8, 8] (by simp) (by simp)
  obtain ⟨v1, _, c1⟩ := cell_ok ns hns 1 (by omega)
  obtain ⟨ds1, b1, hd1⟩ := digits_ok v1 [3, 8] (by simp) (by simp)
  match ds, b0 with
  | [a0, a1, a2, a3], ⟨h0, h1, h2, h3, _⟩ =>
  match ds1, b1 with
  | [p0, p1], ⟨k0, k1, _⟩ =>
  obtain ⟨n0, rfl⟩ := Int.eq_ofNat_of_zero_le h0.1
  obtain ⟨n1, rfl⟩ := Int.eq_ofNat_of_zero_le h1.1
  obtain ⟨n2, rfl⟩ := Int.eq_ofNat_of_zero_le h2.1
  obtain ⟨n3, rfl⟩ := Int.eq_ofNat_of_zero_le h3.1
  obtain ⟨m, rfl⟩ := Int.eq_ofNat_of_zero_le k0.1
  obtain ⟨mm, rfl⟩ := Int.eq_ofNat_of_zero_le k1.1
  obtain ⟨L, hL, hlet⟩ := letters_ok n0 n1 n2 n3 (by omega) (by omega) (by omega)
  have hL1 := hL.l1
  have hL3 := hL.l3
  have hcl : (chsOf L m).length ≤ 8 ∧ 1 ≤ (chsOf L m).length := by
    unfold chsOf
    rw [List.length_append]
    have : (MK.take m).length ≤ 5 := by simp; omega
    omega
  obtain ⟨ls, y9, y10, q1, q2, e⟩ := lp_loop ns hns (some (.int 8)) (some (.str L)) (some (.lst [.int (m : Int), .int (mm : Int)])) lp (chsOf L m) hcl.2 (by omega) (1 + mm) (by omega) (by omega) (1 + mm) 0 (by omega) [] rfl (by simp) none none
  refine ⟨L, m, ls, hL, by omega, by omega, by omega, by rw [q1]; exact q2, ?_⟩
  have hf : evS P__law_program sub FUEL fo__law_program_1 [some (.scr ns), some (.int 0), some (.int 8), some (.bl lp), some (.str L), some (.lst [.int (m : Int), .int (mm : Int)]), some (.str (chsOf L m)), some (.int ((1 + mm : Nat) : Int)), some (.lst []), none, none] = .nx [some (.scr ns), some (.int 0), some (.int 8), some (.bl lp), some (.str L), some (.lst [.int (m : Int), .int (mm : Int)]), some (.str (chsOf L m)), some (.int ((1 + mm : Nat) : Int)), some (.lst (ls.map lnD)), y9, y10] := by
    rw [evS_for]
    have hr := rng_n (1 + mm) (by omega)
    have h1 : ev P__law_program sub (.bi .rng1 (.cons (.var 7) .nil)) [some (.scr ns), some (.int 0), some (.int 8), some (.bl lp), some (.str L), some (.lst [.int (m : Int), .int (mm : Int)]), some (.str (chsOf L m)), some (.int ((1 + mm : Nat) : Int)), some (.lst []), none, none] = .ok (.lst ((List.range' 0 (1 + mm)).map fun (k : Nat) => D.int (k : Int))) := by
      generalize (List.range' 0 (1 + mm)).map (fun (k : Nat) => D.int (k : Int)) = rr at hr
      generalize ((1 + mm : Nat) : Int) = q at hr ⊢
      simp [hr]
    rw [h1, out_ok, items_l, omO_some]
    exact e
  have hd0' : F__law_digits [.int v0, .lst [.int 8, .int 8, .int 8, .int 8]] = .ok (.lst [.int (n0 : Int), .int (n1 : Int), .int (n2 : Int), .int (n3 : Int)]) := hd0
  have hd1' : F__law_digits [.int v1, .lst [.int 3, .int 8]] = .ok (.lst [.int (m : Int), .int (mm : Int)]) := hd1
  have c0' : F__law_cell [.scr ns, .int 0] = .ok (.int v0) := c0
  have c1' : F__law_cell [.scr ns, .int 1] = .ok (.int v1) := c1
  have s0 : dIdx (.lst [.int (m : Int), .int (mm : Int)]) (.int 0) = .ok (.int (m : Int)) := rfl
  have s1 : dIdx (.lst [.int (m : Int), .int (mm : Int)]) (.int 1) = .ok (.int (mm : Int)) := rfl
  have hsl : dSlc (.str [65, 66, 67, 68, 69]) .non (.int (m : Int)) = .ok (.str (MK.take m)) := slc_pre (t := MK) (lim_le (by simp)) m
  have hadd : dAdd (.str L) (.str (MK.take m)) = .ok (.str (chsOf L m)) := addS (by simp; omega)
  have em : (1 : Int) + (mm : Int) = ((1 + mm : Nat) : Int) := by omega
  simp only [F__law_program, run, b__law_program]
  generalize fo__law_program_1 = f1 at hf
  generalize MK.take m = mk at *
  generalize chsOf L m = ch at *
  generalize D.lst [.int (m : Int), .int (mm : Int)] = sh at *
  generalize D.lst [.int (n0 : Int), .int (n1 : Int), .int (n2 : Int), .int (n3 : Int)] = dn at *
  generalize ((1 + mm : Nat) : Int) = q at *
  generalize D.lst (ls.map lnD) = dls at *
  simp [Plp18, Plp19, Plp20, c0', c1', hd0', hd1', hlet, s0, s1, hsl, hadd, em, hf, prt, isPart, lim_le]
/-! ### wider -/
theorem LnOk.mono {c1 c2 : List Nat} (h : ∀ c ∈ c1, c ∈ c2) {m1 m2 : Nat} (hm : m1 ≤ m2) {l : Ln} (o : LnOk c1 m1 l) : LnOk c2 m2 l := by
  have tg : ∀ t, TgOk m1 t → TgOk m2 t := fun t ht => by
    cases t with
    | st n => exact Nat.lt_of_lt_of_le ht hm
    | _ => trivial
  cases l with
  | change a b t => exact ⟨h _ o.1, h _ o.2.1, tg _ o.2.2⟩
  | swap a b t => exact ⟨h _ o.1, h _ o.2.1, tg _ o.2.2⟩
  | first a b t u => exact ⟨h _ o.1, h _ o.2.1, tg _ o.2.2.1, tg _ o.2.2.2⟩
  | every a b n t u => exact ⟨h _ o.1, h _ o.2.1, o.2.2.1, o.2.2.2.1, tg _ o.2.2.2.2.1, tg _ o.2.2.2.2.2⟩
  | count a ts => exact ⟨h _ o.1, o.2.1, o.2.2.1, fun t ht => tg t (o.2.2.2 t ht)⟩
  | leads a t u => exact ⟨h _ o.1, tg _ o.2.1, tg _ o.2.2⟩
theorem lnD_fst (l : Ln) : dIdx (lnD l) (.int 0) = .ok (.str (lnN l)) := lnD_ix0 l
theorem rep_map {α β : Type} (f : α → β) (l : List α) : ∀ n : Nat, (List.replicate n (l.map f)).flatten = ((List.replicate n l).flatten).map f
  | 0 => rfl
  | n + 1 => by rw [List.replicate_succ, List.flatten_cons, rep_map f l n, List.replicate_succ, List.flatten_cons, List.map_append]
theorem addT {a b : List D} (h : a.length + b.length ≤ 1000000) : dAdd (.tup a) (.tup b) = .ok (.tup (a ++ b)) := if_pos (lim_le h)
theorem wd_step (chars : List Nat) (many : Nat) (x0 : Option D) (rd : D) (r0 r1 : Nat) (h1 : r1 < 6) (g0 : dIdx rd (.int 0) = .ok (.int (r0 : Int))) (g1 : dIdx rd (.int 1) = .ok (.int (r1 : Int))) (l : Ln) (o : LnOk chars many l) (ls : List Ln) (hl : ls.length ≤ 100) (x3 : Option D) :
    ∃ l', LnOk chars many l' ∧ (fun d e => omO (asg [3] true d e) (evS P__law_wider sub FUEL lb__law_wider_1)) (lnD l) [x0, some rd, some (.lst (ls.map lnD)), x3] = .nx [x0, some rd, some (.lst ((ls ++ [l']).map lnD)), some (lnD l)] := by
  have i0 := lnD_fst l
  have mu : ∀ (c : C) (l' : Ln), ev P__law_wider sub c [x0, some rd, some (.lst (ls.map lnD)), some (lnD l)] = .ok (lnD l') → muF .append 2 (evL P__law_wider sub (.cons c .nil)) [x0, some rd, some (.lst (ls.map lnD)), some (lnD l)] = .nx [x0, some rd, some (.lst ((ls ++ [l']).map lnD)), some (lnD l)] := fun c l' hc => by
    rw [mu_app (l := ls.map lnD) (d := lnD l') rfl (by rw [evL_cons, hc]; simp) (lim_lt (by simp; omega))]
    simp
  have same := mu (.var 3) l (by rw [ev_var]; rfl)
  have e1 : (1 : Int) + (r1 : Int) = ((1 + r1 : Nat) : Int) := by omega
  -- which of the three
  have plain : lnN l ≠ nEvery → (lnN l ≠ nCount ∨ r0 ≠ 0) → (fun d e => omO (asg [3] true d e) (evS P__law_wider sub FUEL lb__law_wider_1)) (lnD l) [x0, some rd, some (.lst (ls.map lnD)), x3] = .nx [x0, some rd, some (.lst ((ls ++ [l]).map lnD)), some (lnD l)] := fun hE hC => by
    have hE' : (lnN l == [101, 118, 101, 114, 121]) = false := by simpa using hE
    generalize lnD l = ld at *
    generalize D.lst (ls.map lnD) = dl at *
    generalize D.lst ((ls ++ [l]).map lnD) = dl2 at *
    show omO (asg [3] true ld _) _ = _
    by_cases hc : lnN l = nCount
    · have hr : r0 ≠ 0 := by
        rcases hC with z | z
        · exact absurd hc z
        · exact z
      have hc' : (lnN l == [99, 111, 117, 110, 116]) = true := by simpa using hc
      have hr' : ¬ (r0 : Int) = 0 := by omega
      simp [i0, hc', hE', g0, hr, same]
    · have hc' : (lnN l == [99, 111, 117, 110, 116]) = false := by simpa using hc
      simp [i0, hc', hE', same]
  cases l with
  | change a b t => exact ⟨_, o, plain (by simp [lnN]) (.inl (by simp [lnN]))⟩
  | swap a b t => exact ⟨_, o, plain (by simp [lnN]) (.inl (by simp [lnN]))⟩
  | first a b t u => exact ⟨_, o, plain (by simp [lnN]) (.inl (by simp [lnN]))⟩
  | leads a t u => exact ⟨_, o, plain (by simp [lnN]) (.inl (by simp [lnN]))⟩
  | every a b n t u =>
    refine ⟨.every a b (1 + r1) t u, ⟨o.1, o.2.1, by omega, by omega, o.2.2.2.2⟩, ?_⟩
    have s3 : dSlc (lnD (.every a b n t u)) .non (.int 3) = .ok (.tup [.str nEvery, .str [a], .str [b]]) := slcT_pre [.str nEvery, .str [a], .str [b], .int (n : Int), tgD t, tgD u] 3
    have s4 : dSlc (lnD (.every a b n t u)) (.int 4) .non = .ok (.tup [tgD t, tgD u]) := slcT_from [.str nEvery, .str [a], .str [b], .int (n : Int), tgD t, tgD u] 4
    have a1 : dAdd (.tup [.str nEvery, .str [a], .str [b]]) (.tup [.int ((1 + r1 : Nat) : Int)]) = .ok (.tup [.str nEvery, .str [a], .str [b], .int ((1 + r1 : Nat) : Int)]) := addT (by simp)
    have a2 : dAdd (.tup [.str nEvery, .str [a], .str [b], .int ((1 + r1 : Nat) : Int)]) (.tup [tgD t, tgD u]) = .ok (lnD (.every a b (1 + r1) t u)) := addT (by simp)
    have m2 := mu (.op .add (.op .add (.slc (.var 3) .nil (.int 3)) (.tup (.cons (.op .add (.int 1) (.idx (.var 1) (.int 1))) .nil))) (.slc (.var 3) (.int 4) .nil)) (.every a b (1 + r1) t u) (by
      generalize lnD (.every a b n t u) = ld at *
      generalize lnD (.every a b (1 + r1) t u) = ld2 at *
      generalize D.lst (ls.map lnD) = dl at *
      generalize ((1 + r1 : Nat) : Int) = q at *
      simp [s3, s4, g1, e1, a1, a2, prt, isPart, lim_le])
    have hE' : dIdx (lnD (.every a b n t u)) (.int 0) = .ok (.str [101, 118, 101, 114, 121]) := i0
    generalize lnD (.every a b n t u) = ld at *
    generalize D.lst (ls.map lnD) = dl at *
    generalize D.lst ((ls ++ [Ln.every a b (1 + r1) t u]).map lnD) = dl2 at *
    show omO (asg [3] true ld _) _ = _
    simp only [asg1, omO_some, List.set_cons_succ, List.set_cons_zero, evS_seq, evS_if, ev_and, ev_op, ev_idx, ev_var, ev_int, ev_str, ev_one, lookS, look0, bd_ok, hE', op2_eqs, truth_bl, evS_mu, evS_skip]
    rw [show (([101, 118, 101, 114, 121] : List Nat) == [99, 111, 117, 110, 116]) = false from rfl, show (([101, 118, 101, 114, 121] : List Nat) == [101, 118, 101, 114, 121]) = true from rfl, if_neg (by simp), bd_ok, truth_bl, out_ok, if_neg (by simp), out_ok, if_pos rfl, m2, bindO_nx, evS_skip, bindO_nx, evS_skip, bindO_nx, evS_skip]
  | count a ts =>
    by_cases hr : r0 = 0
    · subst hr
      have hlen : (((List.replicate 6 ts).flatten).take (1 + r1)).length = 1 + r1 := by
        have := o.2.1
        rw [List.length_take, List.length_flatten]
        simp
        omega
      refine ⟨.count a (((List.replicate 6 ts).flatten).take (1 + r1)), ⟨o.1, by omega, by omega, fun t ht => by
        have := List.mem_of_mem_take ht
        obtain ⟨l', h2, h3⟩ := List.mem_flatten.1 this
        rw [List.eq_of_mem_replicate h2] at h3
        exact o.2.2.2 t h3⟩, ?_⟩
      have i1 : dIdx (lnD (.count a ts)) (.int 1) = .ok (.str [a]) := idx_t [.str nCount, .str [a], .tup (ts.map tgD)] 1 _ rfl
      have i2 : dIdx (lnD (.count a ts)) (.int 2) = .ok (.tup (ts.map tgD)) := idx_t [.str nCount, .str [a], .tup (ts.map tgD)] 2 _ rfl
      have hmul : dMul (.tup (ts.map tgD)) (.int 6) = .ok (.tup (((List.replicate 6 ts).flatten).map tgD)) := by
        rw [← rep_map]
        have h1 := o.2.1
        have h2 := o.2.2.1
        exact if_pos ⟨by simp; omega, by omega, by omega, by simp; omega⟩
      have hsl : dSlc (.tup (((List.replicate 6 ts).flatten).map tgD)) .non (.int ((1 + r1 : Nat) : Int)) = .ok (.tup ((((List.replicate 6 ts).flatten).take (1 + r1)).map tgD)) := by
        rw [slcT_pre, List.map_take]
      have m2 := mu (.tup (.cons (.idx (.var 3) (.int 0)) (.cons (.idx (.var 3) (.int 1)) (.cons (.slc (.op .mul (.idx (.var 3) (.int 2)) (.int 6)) .nil (.op .add (.int 1) (.idx (.var 1) (.int 1)))) .nil)))) (.count a (((List.replicate 6 ts).flatten).take (1 + r1))) (by
        show _ = Res.ok (D.tup [.str nCount, .str [a], .tup ((((List.replicate 6 ts).flatten).take (1 + r1)).map tgD)])
        have i0' : dIdx (lnD (.count a ts)) (.int 0) = .ok (.str nCount) := i0
        generalize lnD (.count a ts) = ld at *
        generalize D.tup ((((List.replicate 6 ts).flatten).take (1 + r1)).map tgD) = dt1 at *
        generalize D.tup (((List.replicate 6 ts).flatten).map tgD) = dt2 at *
        generalize D.tup (ts.map tgD) = dt3 at *
        generalize D.lst (ls.map lnD) = dl at *
        generalize ((1 + r1 : Nat) : Int) = q at *
        simp [i0', i1, i2, g1, e1, hmul, hsl, prt, isPart, lim_le])
      have hE' : dIdx (lnD (.count a ts)) (.int 0) = .ok (.str [99, 111, 117, 110, 116]) := i0
      generalize lnD (.count a ts) = ld at *
      generalize D.lst (ls.map lnD) = dl at *
      generalize D.lst ((ls ++ [Ln.count a (((List.replicate 6 ts).flatten).take (1 + r1))]).map lnD) = dl2 at *
      show omO (asg [3] true ld _) _ = _
      have g0' : dIdx rd (.int 0) = .ok (.int 0) := g0
      simp only [asg1, omO_some, List.set_cons_succ, List.set_cons_zero, evS_seq, evS_if, ev_and, ev_op, ev_idx, ev_var, ev_int, ev_str, ev_one, lookS, look0, bd_ok, hE', g0', op2_eqs, op2_eqi, truth_bl, evS_mu, evS_skip]
      rw [show (([99, 111, 117, 110, 116] : List Nat) == [99, 111, 117, 110, 116]) = true from rfl, show ((0 : Int) == 0) = true from rfl, if_pos rfl, bd_ok, truth_bl, out_ok, if_pos rfl, m2, bindO_nx, evS_skip, bindO_nx, evS_skip]
    · exact ⟨_, o, plain (by simp [lnN]) (.inr hr)⟩
theorem wd_loop (chars : List Nat) (many : Nat) (x0 : Option D) (rd : D) (r0 r1 : Nat) (h1 : r1 < 6) (g0 : dIdx rd (.int 0) = .ok (.int (r0 : Int))) (g1 : dIdx rd (.int 1) = .ok (.int (r1 : Int))) : ∀ (ls acc : List Ln) (x3 : Option D), (∀ l ∈ ls, LnOk chars many l) → acc.length + ls.length ≤ 100 →
    ∃ (ls' : List Ln) (y3 : Option D), ls'.length = ls.length ∧ (∀ l ∈ ls', LnOk chars many l) ∧ forL (fun d e => omO (asg [3] true d e) (evS P__law_wider sub FUEL lb__law_wider_1)) (ls.map lnD) [x0, some rd, some (.lst (acc.map lnD)), x3] = .nx [x0, some rd, some (.lst ((acc ++ ls').map lnD)), y3]
  | [], acc, x3, _, _ => ⟨[], x3, rfl, by simp, by simp⟩
  | l :: ls, acc, x3, h, hl => by
    obtain ⟨l', o, e1⟩ := wd_step chars many x0 rd r0 r1 h1 g0 g1 l (h l List.mem_cons_self) acc (by simp at hl; omega) x3
    obtain ⟨ls', y3, q1, q2, e2⟩ := wd_loop chars many x0 rd r0 r1 h1 g0 g1 ls (acc ++ [l']) (some (lnD l)) (fun z hz => h z (List.mem_cons_of_mem _ hz)) (by simp at hl ⊢; omega)
    refine ⟨l' :: ls', y3, by simp [q1], fun z hz => ?_, ?_⟩
    · rcases List.mem_cons.1 hz with rfl | hz
      · exact o
      · exact q2 z hz
    · rw [List.map_cons, forL_nx e1, e2]
      simp
theorem wider_ok (L : List Nat) (m : Nat) (ls : List Ln) (hl : ls.length ≤ 50) (h : ∀ l ∈ ls, LnOk (chsOf L m) ls.length l) (rd : D) (r0 r1 r2 : Nat) (h1 : r1 < 6) (g0 : dIdx rd (.int 0) = .ok (.int (r0 : Int))) (g1 : dIdx rd (.int 1) = .ok (.int (r1 : Int))) (g2 : dIdx rd (.int 2) = .ok (.int (r2 : Int))) :
    ∃ (ls' : List Ln), ls'.length = ls.length ∧ (∀ l ∈ ls', LnOk (chsOf L (max m r2)) ls'.length l) ∧ F__law_wider [.lst [.str L, .int (m : Int), .lst (ls.map lnD)], rd] = .ok (.lst [.str L, .int ((max m r2 : Nat) : Int), .lst (ls'.map lnD)]) := by
  obtain ⟨ls', y3, q1, q2, e⟩ := wd_loop (chsOf L m) ls.length (some (.lst [.str L, .int (m : Int), .lst (ls.map lnD)])) rd r0 r1 h1 g0 g1 ls [] none h (by simp; omega)
  refine ⟨ls', q1, fun l hl' => ?_, ?_⟩
  · rw [q1]
    refine (q2 l hl').mono (fun c hc => ?_) (Nat.le_refl _)
    unfold chsOf at hc ⊢
    rcases List.mem_append.1 hc with z | z
    · exact List.mem_append_left _ z
    · refine List.mem_append_right _ ?_
      have hle : m ≤ max m r2 := Nat.le_max_left _ _
      exact (List.take_prefix_take_left (l := MK) hle).subset z
  · have i0 : dIdx (.lst [.str L, .int (m : Int), .lst (ls.map lnD)]) (.int 0) = .ok (.str L) := rfl
    have i1 : dIdx (.lst [.str L, .int (m : Int), .lst (ls.map lnD)]) (.int 1) = .ok (.int (m : Int)) := rfl
    have i2 : dIdx (.lst [.str L, .int (m : Int), .lst (ls.map lnD)]) (.int 2) = .ok (.lst (ls.map lnD)) := rfl
    have hf : evS P__law_wider sub FUEL fo__law_wider_1 [some (.lst [.str L, .int (m : Int), .lst (ls.map lnD)]), some rd, some (.lst []), none] = .nx [some (.lst [.str L, .int (m : Int), .lst (ls.map lnD)]), some rd, some (.lst (ls'.map lnD)), y3] := by
      rw [evS_for, ev_idx, ev_var, look0, bd_ok, ev_int, bd_ok, i2, out_ok, items_l, omO_some]
      exact e
    have em : (if (r2 : Int) > (m : Int) then (r2 : Int) else (m : Int)) = ((max m r2 : Nat) : Int) := by split <;> omega
    simp only [F__law_wider, run, b__law_wider]
    generalize fo__law_wider_1 = f1 at hf
    generalize D.lst (ls'.map lnD) = dl' at *
    generalize D.lst [.str L, .int (m : Int), .lst (ls.map lnD)] = told at *
    have em' : (if (m : Int) < (r2 : Int) then (r2 : Int) else (m : Int)) = ((max m r2 : Nat) : Int) := em
    generalize ((max m r2 : Nat) : Int) = mx at *
    simp [hf, i0, i1, g2, lim_le]
    split <;> simp_all <;> omega
/-! ### refusals -/
theorem Pir16 : P__law_is_refused 16 = F_parse_program := by unfold P__law_is_refused; rfl
theorem Pir17 : P__law_is_refused 17 = F__law_whole := by unfold P__law_is_refused; rfl
theorem lwhole (i : Int) : F__law_whole [.int i] = .ok (.bl true) := rfl
theorem sub20 : sub 2 0 = some true := rfl
theorem sub22 : sub 2 2 = some true := rfl
theorem refused_ok (s : List Nat) (i : Int) (h : F_parse_program [.str s] = .err 2 [.int i]) : F__law_is_refused [.str s, .int i] = .ok (.bl true) := by
  simp only [F__law_is_refused, run, b__law_is_refused]
  simp [h, Pir16, Pir17, lwhole, tryF, hdStep, sub20, sub22, efldF, eisiF]
/-- letters with an a behind them are no letters -/
theorem eqv_ints : ∀ a b : List Int, eqvL (a.map D.int) (b.map D.int) = (a == b)
  | [], [] => rfl
  | [], _ :: _ => rfl
  | _ :: _, [] => rfl
  | x :: a, y :: b => by
    rw [List.map_cons, List.map_cons, eqvL, eqv_ints a b, eqv]
    rfl
theorem bad_letters (u : List Nat) (hu : u ≠ []) (hz : ∀ c ∈ u, 97 ≤ c ∧ c < 123) (hl : u.length ≤ 100) : F_are_letters [.str (u ++ [97])] = .ok (.bl false) := by
  have hz2 : ∀ c ∈ u ++ [97], 97 ≤ c ∧ c < 123 := fun c hc => by
    rcases List.mem_append.1 hc with z | z
    · exact hz c z
    · rw [List.mem_singleton.1 z]; omega
  have hul : 1 ≤ u.length := by
    cases u with
    | nil => exact absurd rfl hu
    | cons _ _ => simp
  have p1 : ev P_are_letters sub fo_are_letters_1 [some (.str (u ++ [97])), none, none] = .ok (.lst (((u ++ [97]).map fun c => ((c - 97 : Nat) : Int)).map D.int)) := by
    rw [List.map_map]
    exact lcm_ok _ _ _ _ _ _ _ (.str (u ++ [97])) (u ++ [97]) (fun c => D.str [c]) _ (by simp) (by simp) (by simp; omega) fun c hc => ⟨_, rfl, by
      have := find_ok c (hz2 c hc)
      simp [isStr_s]
      exact this⟩
  have p6 := len_s' (s := u ++ [97]) (by simp; omega)
  have hlen : (u ++ [97]).length = u.length + 1 := by simp
  by_cases h3 : u.length + 1 ≤ 3
  · have is : intsD (((u ++ [97]).map fun c => ((c - 97 : Nat) : Int)).map D.int) = some ((u ++ [97]).map fun c => ((c - 97 : Nat) : Int)) := by
      have := ints_map (fun x : Int => x) ((u ++ [97]).map fun c => ((c - 97 : Nat) : Int))
      rw [List.map_id'] at this
      exact this
    have p3 : biF .sset [.lst (((u ++ [97]).map fun c => ((c - 97 : Nat) : Int)).map D.int)] = .ok (.lst ((sortI (dedup ((u ++ [97]).map fun c => ((c - 97 : Nat) : Int)))).map D.int)) := by
      show om (intsD _) (fun is => if is.length < 63 then Res.ok (D.lst ((sortI (dedup is)).map D.int)) else .bad) = _
      rw [is, om_some, if_pos (by rw [List.length_map, hlen]; omega)]
    have p4 : inD (.int (-1)) (.lst (((u ++ [97]).map fun c => ((c - 97 : Nat) : Int)).map D.int)) = .ok false := by
      rw [List.map_map]
      show (if flat (.int (-1)) ∧ _ then Res.ok _ else _) = _
      rw [if_pos ⟨rfl, flat_ints (u ++ [97]) (fun c => ((c - 97 : Nat) : Int))⟩]
      congr 1
      have := any_ints (u ++ [97]) (fun c => ((c - 97 : Nat) : Int)) (-1)
      refine Eq.trans this ?_
      rw [List.any_eq_false]
      intro c _
      simp
    have hne : ((u ++ [97]).map fun c => ((c - 97 : Nat) : Int)) ≠ sortI (dedup ((u ++ [97]).map fun c => ((c - 97 : Nat) : Int))) := fun e => by
      have hs := sortI_sorted (dedup ((u ++ [97]).map fun c => ((c - 97 : Nat) : Int)))
      have hn : (sortI (dedup ((u ++ [97]).map fun c => ((c - 97 : Nat) : Int)))).Nodup := (sortI_perm _).nodup_iff.2 (dedup_nodup _)
      rw [← e] at hs hn
      rw [List.map_append, List.pairwise_append] at hs
      rw [List.map_append, List.nodup_append] at hn
      obtain ⟨c, r, rfl⟩ := List.exists_cons_of_ne_nil hu
      have h1 := hs.2.2 ((c - 97 : Nat) : Int) (by simp) ((97 - 97 : Nat) : Int) (by simp)
      have h2 := hn.2.2 ((c - 97 : Nat) : Int) (by simp) ((97 - 97 : Nat) : Int) (by simp)
      omega
    have p5 : op2 .eq (.lst (((u ++ [97]).map fun c => ((c - 97 : Nat) : Int)).map D.int)) (.lst ((sortI (dedup ((u ++ [97]).map fun c => ((c - 97 : Nat) : Int)))).map D.int)) = .ok (.bl false) := by
      have q1 := plain_ints ((u ++ [97]).map fun c => ((c - 97 : Nat) : Int)) (fun i => i)
      have q2 := plain_ints (sortI (dedup ((u ++ [97]).map fun c => ((c - 97 : Nat) : Int)))) (fun i => i)
      show (if plain (.lst (((u ++ [97]).map fun c => ((c - 97 : Nat) : Int)).map D.int)) 60 = true ∧ plain (.lst ((sortI (dedup ((u ++ [97]).map fun c => ((c - 97 : Nat) : Int)))).map D.int)) 60 = true then Res.ok (D.bl (eqv (.lst (((u ++ [97]).map fun c => ((c - 97 : Nat) : Int)).map D.int)) (.lst ((sortI (dedup ((u ++ [97]).map fun c => ((c - 97 : Nat) : Int)))).map D.int)))) else .bad) = _
      rw [if_pos ⟨q1, q2⟩]
      congr 2
      show eqvL _ _ = false
      rw [eqv_ints]
      exact beq_eq_false_iff_ne.2 hne
    have p7 : (1 : Int) ≤ ((u ++ [97]).length : Int) := by rw [hlen]; omega
    have p8 : ((u ++ [97]).length : Int) ≤ 3 := by rw [hlen]; omega
    generalize D.lst ((sortI (dedup ((u ++ [97]).map fun c => ((c - 97 : Nat) : Int)))).map D.int) = ps at *
    generalize D.lst (((u ++ [97]).map fun c => ((c - 97 : Nat) : Int)).map D.int) = pl at *
    generalize ((u ++ [97]).length : Int) = nl at *
    generalize u ++ [97] = t at *
    simp only [F_are_letters, run, b_are_letters]
    generalize fo_are_letters_1 = f1 at *
    simp [p1, p3, p4, p5, p6, chnF, p7, p8]
  · have p7 : (1 : Int) ≤ ((u ++ [97]).length : Int) := by rw [hlen]; omega
    have p8 : ¬ ((u ++ [97]).length : Int) ≤ 3 := by rw [hlen]; omega
    generalize D.lst (((u ++ [97]).map fun c => ((c - 97 : Nat) : Int)).map D.int) = pl at *
    generalize ((u ++ [97]).length : Int) = nl at *
    generalize u ++ [97] = t at *
    simp only [F_are_letters, run, b_are_letters]
    generalize fo_are_letters_1 = f1 at *
    simp [p1, p6, chnF, p7, p8]
end Lw

set_option maxRecDepth 100000
set_option autoImplicit false
set_option linter.all false
namespace Lw
open E
/-! ### heads that are refused -/
def hdW (L : List Nat) : Nat → List (List Nat)
  | 0 => [wProg, L, [54]]
  | 1 => [wProg, L]
  | 2 => [wProg, [], L, [48]]
  | 3 => [[80, 114, 111, 103, 114, 97, 109], L, [48]]
  | 4 => [wProg, L.reverse ++ [97], [48]]
  | 5 => [wProg, L, [48, 48]]
  | 6 => [[]]
  | _ => [wProg, L, [49], []]
theorem L_w {L : List Nat} (hL : GoodL L) : WOk L := ⟨fun z => by have := hL.az _ z; omega, fun z => by have := hL.az _ z; omega, by have := hL.l3; omega⟩
theorem hd_ws {L : List Nat} (hL : GoodL L) (k : Nat) (hk : k < 8) : WsOk (hdW L k) := by
  have h1 := L_w hL
  have hl3 := hL.l3
  have h2 : WOk (L.reverse ++ [97]) := ⟨by simpa using h1.f32, by simpa using h1.f10, by simp; omega⟩
  have hp : WOk wProg := wok_lit _ (by decide)
  have hk : k = 0 ∨ k = 1 ∨ k = 2 ∨ k = 3 ∨ k = 4 ∨ k = 5 ∨ k = 6 ∨ k = 7 := by omega
  rcases hk with rfl | rfl | rfl | rfl | rfl | rfl | rfl | rfl <;>
    refine ⟨by simp [hdW], fun w hw => ?_, by simp [hdW]⟩ <;> simp only [hdW, List.mem_cons, List.not_mem_nil, or_false] at hw
  · rcases hw with rfl | rfl | rfl
    · exact hp
    · exact h1
    · exact wok_lit _ (by decide)
  · rcases hw with rfl | rfl
    · exact hp
    · exact h1
  · rcases hw with rfl | rfl | rfl | rfl
    · exact hp
    · exact wok_lit _ (by decide)
    · exact h1
    · exact wok_lit _ (by decide)
  · rcases hw with rfl | rfl | rfl
    · exact wok_lit _ (by decide)
    · exact h1
    · exact wok_lit _ (by decide)
  · rcases hw with rfl | rfl | rfl
    · exact hp
    · exact h2
    · exact wok_lit _ (by decide)
  · rcases hw with rfl | rfl | rfl
    · exact hp
    · exact h1
    · exact wok_lit _ (by decide)
  · rw [hw]; exact wok_lit _ (by decide)
  · rcases hw with rfl | rfl | rfl | rfl
    · exact hp
    · exact h1
    · exact wok_lit _ (by decide)
    · exact wok_lit _ (by decide)
theorem hd_bad {L : List Nat} (hL : GoodL L) (k : Nat) (hk : k < 8) : F_read_head [.str (joinT [32] (hdW L k))] = .ok .non := by
  have hws := hd_ws hL k hk
  have hlt := are_ok hL
  refine head_bad (hdW L k) hws.split ?_
  have hk : k = 0 ∨ k = 1 ∨ k = 2 ∨ k = 3 ∨ k = 4 ∨ k = 5 ∨ k = 6 ∨ k = 7 := by omega
  rcases hk with rfl | rfl | rfl | rfl | rfl | rfl | rfl | rfl
  · exact .inr ⟨_, _, _, rfl, .inr (.inr ⟨hlt, by decide⟩)⟩
  · exact .inl (by simp [hdW])
  · exact .inl (by simp [hdW])
  · exact .inr ⟨_, _, _, rfl, .inl (by decide)⟩
  · refine .inr ⟨_, _, _, rfl, .inr (.inl (bad_letters L.reverse ?_ (fun c hc => hL.az c (by simpa using hc)) (by have := hL.l3; simp; omega)))⟩
    intro z
    have h1 := hL.l1
    have := congrArg List.length z
    simp at this
    subst this
    simp at h1
  · exact .inr ⟨_, _, _, rfl, .inr (.inr ⟨hlt, by decide⟩)⟩
  · exact .inl (by simp [hdW])
  · exact .inl (by simp [hdW])
/-! ### plain data -/
theorem plain_tg (t : Tg) (k : Nat) : plain (tgD t) k = true := by cases t <;> cases k <;> rfl
theorem plain_s (a : Nat) (h : a < 1114112) (k : Nat) : plain (.str [a]) k = true := by
  cases k <;> simp [plain, h]
theorem plain_ln {chars : List Nat} {many : Nat} (hc : ∀ c ∈ chars, c < 1114112) {l : Ln} (h : LnOk chars many l) : plain (lnD l) 59 = true := by
  have hn : plain (.str (lnN l)) 58 = true := by cases l <;> rfl
  have tg := fun t => plain_tg t 58
  have ps := fun a ha => plain_s a (hc a ha) 58
  show plainL (.str (lnN l) :: lnI l) 58 = true
  rw [plainL_all]
  rw [List.all_eq_true]
  intro d hd
  rcases List.mem_cons.1 hd with rfl | hd
  · exact hn
  · cases l with
    | change a b t =>
      simp only [lnI, List.mem_cons, List.not_mem_nil, or_false] at hd
      rcases hd with rfl | rfl | rfl
      · exact ps _ h.1
      · exact ps _ h.2.1
      · exact tg _
    | swap a b t =>
      simp only [lnI, List.mem_cons, List.not_mem_nil, or_false] at hd
      rcases hd with rfl | rfl | rfl
      · exact ps _ h.1
      · exact ps _ h.2.1
      · exact tg _
    | first a b t u =>
      simp only [lnI, List.mem_cons, List.not_mem_nil, or_false] at hd
      rcases hd with rfl | rfl | rfl | rfl
      · exact ps _ h.1
      · exact ps _ h.2.1
      · exact tg _
      · exact tg _
    | every a b n t u =>
      simp only [lnI, List.mem_cons, List.not_mem_nil, or_false] at hd
      rcases hd with rfl | rfl | rfl | rfl | rfl
      · exact ps _ h.1
      · exact ps _ h.2.1
      · rfl
      · exact tg _
      · exact tg _
    | count a ts =>
      simp only [lnI, List.mem_cons, List.not_mem_nil, or_false] at hd
      rcases hd with rfl | rfl
      · exact ps _ h.1
      · show plainL (ts.map tgD) 57 = true
        rw [plainL_all, List.all_eq_true]
        intro d hd
        obtain ⟨t, _, rfl⟩ := List.mem_map.1 hd
        exact plain_tg t 57
    | leads a t u =>
      simp only [lnI, List.mem_cons, List.not_mem_nil, or_false] at hd
      rcases hd with rfl | rfl | rfl
      · exact ps _ h.1
      · exact tg _
      · exact tg _
theorem plain_lns {chars : List Nat} {many : Nat} (hc : ∀ c ∈ chars, c < 1114112) {ls : List Ln} (h : ∀ l ∈ ls, LnOk chars many l) : plain (.tup (ls.map lnD)) 60 = true := by
  show plainL (ls.map lnD) 59 = true
  rw [plainL_all, List.all_eq_true]
  intro d hd
  obtain ⟨l, hl, rfl⟩ := List.mem_map.1 hd
  exact plain_ln hc (h l hl)
theorem chs_lt {L : List Nat} (hL : GoodL L) (m : Nat) : ∀ c ∈ chsOf L m, c < 1114112 := fun c hc => by
  rcases List.mem_append.1 hc with z | z
  · have := hL.az c z; omega
  · have := List.mem_of_mem_take z
    simp at this
    omega
theorem chs_not {L : List Nat} (hL : GoodL L) {m : Nat} (hm : m ≤ 5) : 65 + m ∉ chsOf L m := fun hc => by
  rcases List.mem_append.1 hc with z | z
  · have := hL.az _ z; omega
  · have key : ∀ m ≤ 5, 65 + m ∉ MK.take m := by decide
    exact key m hm z
/-! ### notes -/
theorem notes_take : ∀ (ls : List Ln) (i p : Nat), (notesOf i ls).take p = notesOf i (ls.take p)
  | [], _, p => by simp [notesOf]
  | l :: ls, i, 0 => by simp [notesOf]
  | l :: ls, i, p + 1 => by
    show joinT [32] (lnW i l) :: (notesOf (i + 1) ls).take p = joinT [32] (lnW i l) :: notesOf (i + 1) (ls.take p)
    rw [notes_take ls (i + 1) p]
theorem notes_nth : ∀ (ls : List Ln) (i k : Nat) (l : Ln), ls[k]? = some l → (notesOf i ls)[k]? = some (joinT [32] (lnW (i + k) l))
  | [], _, _, _, h => by simp at h
  | x :: ls, i, 0, l, h => by
    simp at h
    subst h
    rfl
  | x :: ls, i, k + 1, l, h => by
    have := notes_nth ls (i + 1) k l (by simpa using h)
    rw [show i + (k + 1) = i + 1 + k by omega]
    simpa [notesOf] using this
theorem getD_range {α : Type} (l : List α) (d : α) : (List.range' 0 l.length).map (fun k => l.getD k d) = l := by
  apply List.ext_getElem
  · simp
  · intro i h1 h2
    simp [List.getElem_range', h2]
theorem Pl25 : P_law 25 = F__law_note := by unfold P_law; rfl
theorem notes_lc {chars : List Nat} {many : Nat} (hm : many ≤ 100) (hc : ChOk chars) (ls : List Ln) (hl : ls.length ≤ 50) (h : ∀ l ∈ ls, LnOk chars many l) (a b : D) (x0 x1 x3 x4 x5 x6 x7 x8 x9 x10 x11 : Option D) :
    ev P_law sub fo_law_1 [x0, x1, some (.lst [a, b, .lst (ls.map lnD)]), x3, x4, x5, x6, x7, x8, x9, x10, x11] = .ok (SD (notesOf 0 ls)) := by
  have i2 : dIdx (.lst [a, b, .lst (ls.map lnD)]) (.int 2) = .ok (.lst (ls.map lnD)) := idx_l [a, b, .lst (ls.map lnD)] 2 _ rfl
  have hln : biF .len [.lst (ls.map lnD)] = .ok (.int (ls.length : Int)) := by simp
  have hr := rng_n ls.length (by omega)
  have e : SD (notesOf 0 ls) = .lst ((List.range' 0 ls.length).map fun k => D.str ((notesOf 0 ls).getD k [])) := by
    refine congrArg D.lst ?_
    have h1 := getD_range (notesOf 0 ls) []
    rw [notes_len] at h1
    have h2 := congrArg (List.map D.str) h1
    rw [List.map_map] at h2
    exact h2.symm
  rw [e]
  refine lcm_ok P_law sub [11] true (.bi .rng1 (.cons (.bi .len (.cons (.idx (.var 2) (.int 2)) .nil)) .nil)) (.call 25 [95, 108, 97, 119, 95, 110, 111, 116, 101] (.cons (.var 11) (.cons (.idx (.idx (.var 2) (.int 2)) (.var 11)) .nil))) _ (.lst ((List.range' 0 ls.length).map fun (k : Nat) => D.int (k : Int))) (List.range' 0 ls.length) (fun (k : Nat) => D.int (k : Int)) (fun k => D.str ((notesOf 0 ls).getD k [])) ?_ rfl (by simp; omega) fun k hk => ⟨_, rfl, ?_⟩
  · generalize D.lst ((List.range' 0 ls.length).map fun (k : Nat) => D.int (k : Int)) = rr at *
    generalize D.lst (ls.map lnD) = dl at *
    generalize D.lst [a, b, dl] = told at *
    generalize (ls.length : Int) = n at *
    simp [i2, hln, hr]
  · have hk' : k < ls.length := by simpa using hk
    have g1 : ls[k]? = some ls[k] := List.getElem?_eq_getElem hk'
    have g2 := notes_nth ls 0 k ls[k] g1
    have hn := note_ok hm hc (h ls[k] (List.getElem_mem _)) (0 + k) (by omega)
    rw [Nat.zero_add] at g2 hn
    have hix : dIdx (.lst (ls.map lnD)) (.int (k : Int)) = .ok (lnD ls[k]) := idx_l _ _ _ (by rw [List.getElem?_map, g1]; rfl)
    have hgd : (notesOf 0 ls).getD k [] = joinT [32] (lnW k ls[k]) := by rw [List.getD_eq_getElem?_getD, g2]; rfl
    rw [hgd]
    generalize joinT [32] (lnW k ls[k]) = nt at *
    generalize lnD ls[k] = ld at *
    generalize D.lst (ls.map lnD) = dl at *
    show ev P_law sub _ [x0, x1, some (.lst [a, b, dl]), x3, x4, x5, x6, x7, x8, x9, x10, some (.int (k : Int))] = _
    generalize D.lst [a, b, dl] = told at *
    simp [i2, hix, Pl25, hn]
end Lw

set_option maxRecDepth 100000
set_option autoImplicit false
set_option linter.all false
namespace Lw
open E
theorem Pl11 : P_law 11 = F_format_program := by unfold P_law; rfl
theorem Pl16 : P_law 16 = F_parse_program := by unfold P_law; rfl
theorem Pl18 : P_law 18 = F__law_cell := by unfold P_law; rfl
theorem Pl19 : P_law 19 = F__law_digits := by unfold P_law; rfl
theorem Pl23 : P_law 23 = F__law_program := by unfold P_law; rfl
theorem Pl26 : P_law 26 = F__law_wider := by unfold P_law; rfl
theorem Pl27 : P_law 27 = F__law_spoilt := by unfold P_law; rfl
theorem Pl28 : P_law 28 = F__law_is_refused := by unfold P_law; rfl
theorem Pl1004 : P_law 1004 = F_Program := by unfold P_law; rfl
/-- what the law asks of the lines -/
theorem asked (L : List Nat) (hL : GoodL L) (m : Nat) (hm : m ≤ 5) (ls : List Ln) (h0 : ls ≠ []) (hl : ls.length ≤ 8) (h : ∀ l ∈ ls, LnOk (chsOf L m) ls.length l) (p : Nat) (hp : p < ls.length) (k3 : Nat) (hk3 : k3 < 16) (k5 : Nat) (hk5 : k5 < 8) :
    ∃ (l : Ln) (bad : List Nat), ls[p]? = some l ∧ F__law_spoilt [.int (p : Int), lnD l, .int (ls.length : Int), .int (m : Int), .int (k3 : Int)] = .ok (.str bad) ∧ bad.length ≤ 500 ∧
      F__law_is_refused [.str (joinT [10] ([headT L m] ++ (notesOf 0 ls).take p ++ [bad] ++ (notesOf 0 ls).drop (p + 1))), .int ((p : Int) + 2)] = .ok (.bl true) ∧
      F__law_is_refused [.str (joinT [10] ([joinT [32] (hdW L k5)] ++ notesOf 0 ls)), .int 1] = .ok (.bl true) ∧
      F__law_is_refused [.str (headT L m), .int 2] = .ok (.bl true) ∧
      F__law_is_refused [.str (joinT [10] (headT L m :: notesOf 0 ls) ++ [10]), .int ((ls.length : Int) + 2)] = .ok (.bl true) := by
  have hc := chs_ok hL m
  have g1 : ls[p]? = some ls[p] := List.getElem?_eq_getElem hp
  have hlp := h ls[p] (List.getElem_mem _)
  obtain ⟨a, w3, r, hX, ha, hr⟩ := lnX_hd hlp
  have hXw := (lnX_w (by omega) hc hlp).1
  rw [hX] at hXw
  have hW := spW_ok p (by omega) ls.length (by omega) m hm ls[p] a (hc a ha) w3 r hr (hXw w3 (by simp)) (fun w hw => hXw w (by simp [hw])) k3 hk3
  have hsp := spoilt_ok p (by omega) ls.length (by omega) m hm (chsOf L m) hc ls[p] hlp a w3 r hX k3 hk3 hW
  have hbad := spW_bad p (chsOf L m) (fun c hcc => by have := hc c hcc; omega) ls.length (by omega) m (chs_not hL hm) ls[p] a w3 r k3 hk3
  have hrd := read_ws hW p (by omega) (chsOf L m) ls.length
  rw [hbad] at hrd
  have hnl := notes_lines hL hm (many := ls.length) (by omega) ls (by omega) h
  refine ⟨ls[p], joinT [32] (spW p ls.length m (decI (p : Int)) (lnN ls[p]) [a] w3 r k3), g1, hsp, by have := hW.jlen; omega, ?_, ?_, ?_, ?_⟩
  · refine refused_ok _ _ ?_
    have hpl : (ls.take p).length = p := by simp; omega
    have := parse_bad_line L hL m hm (ls.take p) (joinT [32] (spW p ls.length m (decI (p : Int)) (lnN ls[p]) [a] w3 r k3)) ((notesOf 0 ls).drop (p + 1)) ls.length (by
      rw [List.length_append, notes_len, hpl, List.length_cons, List.length_drop, notes_len]; omega) (by omega) (fun l hl' => h l (List.mem_of_mem_take hl')) (by rw [hpl]; exact hrd) (fun t ht => by
      rcases List.mem_cons.1 ht with rfl | ht
      · exact ⟨hW.f10, by have := hW.jlen; omega⟩
      · exact hnl t (List.mem_of_mem_drop ht))
    rw [hpl] at this
    rw [notes_take]
    rw [show [headT L m] ++ notesOf 0 (ls.take p) ++ [joinT [32] (spW p ls.length m (decI (p : Int)) (lnN ls[p]) [a] w3 r k3)] ++ (notesOf 0 ls).drop (p + 1) = headT L m :: (notesOf 0 (ls.take p) ++ joinT [32] (spW p ls.length m (decI (p : Int)) (lnN ls[p]) [a] w3 r k3) :: (notesOf 0 ls).drop (p + 1)) by simp]
    exact this
  · refine refused_ok _ _ ?_
    have hw5 := hd_ws hL k5 hk5
    exact parse_head_bad _ _ ⟨fun t ht => by
      rcases List.mem_cons.1 ht with rfl | ht
      · exact ⟨hw5.f10, by have := hw5.jlen; omega⟩
      · exact hnl t ht, by simp [notes_len]; omega⟩ (hd_bad hL k5 hk5)
  · exact refused_ok _ _ (parse_short (headT L m) ⟨fun t ht => by rw [List.mem_singleton.1 ht]; exact head_line hL hm, by simp⟩ _ _ (head_good L hL m hm))
  · refine refused_ok _ _ ?_
    have hn1 : WsOk [[]] := ⟨by simp, fun w hw => by rw [List.mem_singleton.1 hw]; exact wok_lit _ (by decide), by simp⟩
    have hr0 := read_ws hn1 ls.length (by omega) (chsOf L m) (ls.length + 1)
    rw [bad_short _ _ _ _ (by simp)] at hr0
    have := parse_bad_line L hL m hm ls [] [] (ls.length + 1) (by simp [notes_len]) (by omega) (fun l hl' => (h l hl').mono (fun c hc => hc) (by omega)) hr0 (fun t ht => by rw [List.mem_singleton.1 ht]; simp)
    have e : joinT [10] (headT L m :: notesOf 0 ls) ++ [10] = joinT [10] (headT L m :: (notesOf 0 ls ++ [[]])) := by
      have := join_snoc [10] [] (headT L m :: notesOf 0 ls) (by simp)
      rw [List.append_nil] at this
      rw [← this]
      rfl
    rw [e]
    exact this
theorem law_true : ∀ ns : List Int, ns.length ≤ 63 → Lw.F_law [.scr ns] = .ok (.bl true) := by
  intro ns hns
  obtain ⟨v, _, cv⟩ := cell_ok ns hns 12 (by omega)
  obtain ⟨ds, b, hd⟩ := digits_ok v [2, 6, 6, 16, 60, 8, 2] (by simp) (by simp)
  match ds, b with
  | [a0, a1, a2, a3, a4, a5, a6], ⟨h0, h1, h2, h3, h4, h5, h6, _⟩ =>
  obtain ⟨r0, rfl⟩ := Int.eq_ofNat_of_zero_le h0.1
  obtain ⟨r1, rfl⟩ := Int.eq_ofNat_of_zero_le h1.1
  obtain ⟨r2, rfl⟩ := Int.eq_ofNat_of_zero_le h2.1
  obtain ⟨r3, rfl⟩ := Int.eq_ofNat_of_zero_le h3.1
  obtain ⟨r4, rfl⟩ := Int.eq_ofNat_of_zero_le h4.1
  obtain ⟨r5, rfl⟩ := Int.eq_ofNat_of_zero_le h5.1
  obtain ⟨r6, rfl⟩ := Int.eq_ofNat_of_zero_le h6.1
  obtain ⟨rd, hrd⟩ : ∃ rd, rd = D.lst [.int (r0 : Int), .int (r1 : Int), .int (r2 : Int), .int (r3 : Int), .int (r4 : Int), .int (r5 : Int), .int (r6 : Int)] := ⟨_, rfl⟩
  have g0 : dIdx rd (.int 0) = .ok (.int (r0 : Int)) := by rw [hrd]; rfl
  have g1 : dIdx rd (.int 1) = .ok (.int (r1 : Int)) := by rw [hrd]; rfl
  have g2 : dIdx rd (.int 2) = .ok (.int (r2 : Int)) := by rw [hrd]; rfl
  have g3 : dIdx rd (.int 3) = .ok (.int (r3 : Int)) := by rw [hrd]; rfl
  have g4 : dIdx rd (.int 4) = .ok (.int (r4 : Int)) := by rw [hrd]; rfl
  have g5 : dIdx rd (.int 5) = .ok (.int (r5 : Int)) := by rw [hrd]; rfl
  have g6 : dIdx rd (.int 6) = .ok (.int (r6 : Int)) := by rw [hrd]; rfl
  have hd' : F__law_digits [.int v, .lst [.int 2, .int 6, .int 6, .int 16, .int 60, .int 8, .int 2]] = .ok rd := by rw [hrd]; exact hd
  have cv' : F__law_cell [.scr ns, .int 12] = .ok (.int v) := cv
  obtain ⟨L, m0, ls0, hL, hm0, l01, l08, hls0, hprog⟩ := lprog_ok ns hns ((r6 : Int) == 0)
  obtain ⟨ls, hlen, hls, hwid⟩ := wider_ok L m0 ls0 (by omega) hls0 rd r0 r1 r2 (by omega) g0 g1 g2
  have hm : max m0 r2 ≤ 5 := by omega
  generalize max m0 r2 = m at *
  have hne : ls ≠ [] := fun z => by rw [z] at hlen; simp at hlen; omega
  have hl8 : ls.length ≤ 8 := by omega
  have hL1 := hL.l1
  have hL3 := hL.l3
  have hlp : 0 < ls.length := by omega
  obtain ⟨p, hp⟩ : ∃ p, p = r4 % ls.length := ⟨_, rfl⟩
  have hpl : p < ls.length := by rw [hp]; exact Nat.mod_lt _ hlp
  obtain ⟨l, bad, q1, q2, qb, q3, q4, q5, q6⟩ := asked L hL m hm ls hne hl8 hls p hpl r3 (by omega) r5 (by omega)
  have hc := chs_ok hL m
  have hpg := program_ok L hL m lnD ls hne (by omega) hls (fun l hl' => fz4_ln l fun a ts e => by
    have := hls l hl'
    subst e
    have := this.2.2.1
    omega)
  have hfm := format_ok (chars := chsOf L m) (L := L) (by omega) (m := m) (by omega) ls (by omega) hc hls
  have hps := parse_ok L hL m hm ls hne (by omega) hls
  have hnt := notes_lc (many := ls.length) (by omega) hc ls (by omega) hls (.str L) (.int (m : Int))
  have hnl := notes_lines hL hm (many := ls.length) (by omega) ls (by omega) hls
  have hLO : LinesOk (headT L m :: notesOf 0 ls) := ⟨fun t ht => by
    rcases List.mem_cons.1 ht with rfl | ht
    · exact head_line hL hm
    · exact hnl t ht, by simp [notes_len]; omega⟩
  -- the head
  have hht := headT_eq L m
  have hdl := (num_w m (by omega)).len
  have stm := str_num m (by omega)
  have a1 : dAdd (.str [112, 114, 111, 103, 114, 97, 109, 32]) (.str L) = .ok (.str ([112, 114, 111, 103, 114, 97, 109, 32] ++ L)) := addS (by simp; omega)
  have a2 : dAdd (.str ([112, 114, 111, 103, 114, 97, 109, 32] ++ L)) (.str [32]) = .ok (.str ([112, 114, 111, 103, 114, 97, 109, 32] ++ L ++ [32])) := addS (by simp; omega)
  have a3 : dAdd (.str ([112, 114, 111, 103, 114, 97, 109, 32] ++ L ++ [32])) (.str (decI (m : Int))) = .ok (.str (headT L m)) := by
    rw [hht]
    exact addS (by simp; omega)
  -- the string
  have a4 : dAdd (.lst [.str (headT L m)]) (SD (notesOf 0 ls)) = .ok (SD (headT L m :: notesOf 0 ls)) := SD_add [headT L m] (notesOf 0 ls) (by simp [notes_len]; omega)
  have j4 : meth .join (.str [10]) [SD (headT L m :: notesOf 0 ls)] = .ok (.str (joinT [10] (headT L m :: notesOf 0 ls))) := hLO.join
  -- the bad line
  have hn2 : (notesOf 0 ls).length = ls.length := notes_len ls 0
  have s1 : dSlc (SD (notesOf 0 ls)) .non (.int (p : Int)) = .ok (SD ((notesOf 0 ls).take p)) := SD_tk _ p
  have s2 : dSlc (SD (notesOf 0 ls)) (.int ((p + 1 : Nat) : Int)) .non = .ok (SD ((notesOf 0 ls).drop (p + 1))) := SD_dr _ (p + 1)
  have b1 : dAdd (.lst [.str (headT L m)]) (SD ((notesOf 0 ls).take p)) = .ok (SD ([headT L m] ++ (notesOf 0 ls).take p)) := SD_add [headT L m] _ (by simp; omega)
  have b2 : dAdd (SD ([headT L m] ++ (notesOf 0 ls).take p)) (.lst [.str bad]) = .ok (SD ([headT L m] ++ (notesOf 0 ls).take p ++ [bad])) := SD_add _ [bad] (by simp; omega)
  have b3 : dAdd (SD ([headT L m] ++ (notesOf 0 ls).take p ++ [bad])) (SD ((notesOf 0 ls).drop (p + 1))) = .ok (SD ([headT L m] ++ (notesOf 0 ls).take p ++ [bad] ++ (notesOf 0 ls).drop (p + 1))) := SD_add _ _ (by simp; omega)
  have j3 : meth .join (.str [10]) [SD ([headT L m] ++ (notesOf 0 ls).take p ++ [bad] ++ (notesOf 0 ls).drop (p + 1))] = .ok (.str (joinT [10] ([headT L m] ++ (notesOf 0 ls).take p ++ [bad] ++ (notesOf 0 ls).drop (p + 1)))) := joinS_ok [10] _ (by simp; omega) (by simp) fun w hw => by
    simp only [List.mem_append, List.mem_singleton] at hw
    rcases hw with ((rfl | hw) | rfl) | hw
    · have := (head_line hL hm).2; omega
    · have := (hnl w (List.mem_of_mem_take hw)).2; omega
    · omega
    · have := (hnl w (List.mem_of_mem_drop hw)).2; omega
  -- the bad heads
  have c0 : dAdd (.str ([112, 114, 111, 103, 114, 97, 109, 32] ++ L)) (.str [32, 54]) = .ok (.str (joinT [32] (hdW L 0))) := by
    refine (addS (by simp; omega)).trans ?_
    simp [hdW, joinT]
  have c1 : ([112, 114, 111, 103, 114, 97, 109, 32] ++ L) = joinT [32] (hdW L 1) := by simp [hdW, joinT]
  have c2a : dAdd (.str [112, 114, 111, 103, 114, 97, 109, 32, 32]) (.str L) = .ok (.str ([112, 114, 111, 103, 114, 97, 109, 32, 32] ++ L)) := addS (by simp; omega)
  have c2 : dAdd (.str ([112, 114, 111, 103, 114, 97, 109, 32, 32] ++ L)) (.str [32, 48]) = .ok (.str (joinT [32] (hdW L 2))) := by
    refine (addS (by simp; omega)).trans ?_
    simp [hdW, joinT]
  have c3a : dAdd (.str [80, 114, 111, 103, 114, 97, 109, 32]) (.str L) = .ok (.str ([80, 114, 111, 103, 114, 97, 109, 32] ++ L)) := addS (by simp; omega)
  have c3 : dAdd (.str ([80, 114, 111, 103, 114, 97, 109, 32] ++ L)) (.str [32, 48]) = .ok (.str (joinT [32] (hdW L 3))) := by
    refine (addS (by simp; omega)).trans ?_
    simp [hdW, joinT]
  have c4r : dRev (.str L) = .ok (.str L.reverse) := if_pos (lim_le (by omega))
  have c4a : dAdd (.str [112, 114, 111, 103, 114, 97, 109, 32]) (.str L.reverse) = .ok (.str ([112, 114, 111, 103, 114, 97, 109, 32] ++ L.reverse)) := addS (by simp; omega)
  have c4 : dAdd (.str ([112, 114, 111, 103, 114, 97, 109, 32] ++ L.reverse)) (.str [97, 32, 48]) = .ok (.str (joinT [32] (hdW L 4))) := by
    refine (addS (by simp; omega)).trans ?_
    simp [hdW, joinT]
  have c5 : dAdd (.str ([112, 114, 111, 103, 114, 97, 109, 32] ++ L)) (.str [32, 48, 48]) = .ok (.str (joinT [32] (hdW L 5))) := by
    refine (addS (by simp; omega)).trans ?_
    simp [hdW, joinT]
  have c7 : dAdd (.str ([112, 114, 111, 103, 114, 97, 109, 32] ++ L)) (.str [32, 49, 32]) = .ok (.str (joinT [32] (hdW L 7))) := by
    refine (addS (by simp; omega)).trans ?_
    simp [hdW, joinT]
  have ih : dIdx (.lst [.str (joinT [32] (hdW L 0)), .str (joinT [32] (hdW L 1)), .str (joinT [32] (hdW L 2)), .str (joinT [32] (hdW L 3)), .str (joinT [32] (hdW L 4)), .str (joinT [32] (hdW L 5)), .str [], .str (joinT [32] (hdW L 7))]) (.int (r5 : Int)) = .ok (.str (joinT [32] (hdW L r5))) := by
    have : r5 = 0 ∨ r5 = 1 ∨ r5 = 2 ∨ r5 = 3 ∨ r5 = 4 ∨ r5 = 5 ∨ r5 = 6 ∨ r5 = 7 := by omega
    rcases this with rfl | rfl | rfl | rfl | rfl | rfl | rfl | rfl <;> exact idx_l _ _ _ rfl
  have hw5 := hd_ws hL r5 (by omega)
  have d1 : dAdd (.lst [.str (joinT [32] (hdW L r5))]) (SD (notesOf 0 ls)) = .ok (SD ([joinT [32] (hdW L r5)] ++ notesOf 0 ls)) := SD_add [joinT [32] (hdW L r5)] _ (by simp; omega)
  have jd : meth .join (.str [10]) [SD ([joinT [32] (hdW L r5)] ++ notesOf 0 ls)] = .ok (.str (joinT [10] ([joinT [32] (hdW L r5)] ++ notesOf 0 ls))) := joinS_ok [10] _ (by simp; omega) (by simp) fun w hw => by
    simp only [List.mem_append, List.mem_singleton] at hw
    rcases hw with rfl | hw
    · have := hw5.jlen; omega
    · have := (hnl w hw).2; omega
  have hsl : (joinT [10] (headT L m :: notesOf 0 ls)).length ≤ 100000 := by
    have h1 := join_len [10] (headT L m :: notesOf 0 ls) 500 fun w hw => (hLO.f10 w hw).2
    have h2 := hLO.len
    have : (headT L m :: notesOf 0 ls).length * (500 + ([10] : List Nat).length) ≤ 40 * 501 := Nat.mul_le_mul_right _ h2
    omega
  have d2 : dAdd (.str (joinT [10] (headT L m :: notesOf 0 ls))) (.str [10]) = .ok (.str (joinT [10] (headT L m :: notesOf 0 ls) ++ [10])) := addS (by simp; omega)
  -- fields
  have t0 : dIdx (.lst [.str L, .int (m : Int), .lst (ls.map lnD)]) (.int 0) = .ok (.str L) := rfl
  have t1 : dIdx (.lst [.str L, .int (m : Int), .lst (ls.map lnD)]) (.int 1) = .ok (.int (m : Int)) := rfl
  have t2 : dIdx (.lst [.str L, .int (m : Int), .lst (ls.map lnD)]) (.int 2) = .ok (.lst (ls.map lnD)) := rfl
  have f0 : dFld 4 0 (PD L m ls) = .ok (.str L) := rfl
  have f1 : dFld 4 1 (PD L m ls) = .ok (.int (m : Int)) := rfl
  have f2 : dFld 4 2 (PD L m ls) = .ok (.tup (ls.map lnD)) := rfl
  have isc : dIsc 4 (PD L m ls) = .ok (.bl true) := rfl
  have htu : biF .tuple [.lst (ls.map lnD)] = .ok (.tup (ls.map lnD)) := rfl
  have hnr := ne_refl _ (plain_lns (chs_lt hL m) hls)
  have hix : dIdx (.lst (ls.map lnD)) (.int (p : Int)) = .ok (lnD l) := idx_l _ _ _ (by rw [List.getElem?_map, q1]; rfl)
  have hln : biF .len [SD (notesOf 0 ls)] = .ok (.int (ls.length : Int)) := by simp [hn2]
  have ep : (r4 : Int) % (ls.length : Int) = (p : Int) := by rw [hp]; omega
  have ep1 : (p : Int) + 1 = ((p + 1 : Nat) : Int) := by omega
  have hlpi : (0 : Int) < (ls.length : Int) := by omega
  have e6 : op2 .eq (.int (r6 : Int)) (.int 0) = .ok (.bl ((r6 : Int) == 0)) := op2_eqi _ _
  rw [← c1] at ih
  clear hht c1 hrd hd cv hls hls0 hL hLO hnl hpl hp hw5 hdl hsl hl8 hlp hne hlen
  show F_law [.scr ns] = _
  simp only [F_law, run, b_law]
  generalize fo_law_1 = fn at *
  generalize ((r6 : Int) == 0) = lp at *
  generalize D.int (r6 : Int) = d6 at *
  generalize joinT [10] (headT L m :: notesOf 0 ls) ++ [10] = str10 at *
  generalize joinT [10] (headT L m :: notesOf 0 ls) = str at *
  generalize joinT [10] ([headT L m] ++ (notesOf 0 ls).take p ++ [bad] ++ (notesOf 0 ls).drop (p + 1)) = strb at *
  generalize SD ([headT L m] ++ (notesOf 0 ls).take p ++ [bad] ++ (notesOf 0 ls).drop (p + 1)) = db3 at *
  generalize SD ([headT L m] ++ (notesOf 0 ls).take p ++ [bad]) = db2 at *
  generalize SD ([headT L m] ++ (notesOf 0 ls).take p) = db1 at *
  generalize SD ((notesOf 0 ls).take p) = dtk at *
  generalize SD ((notesOf 0 ls).drop (p + 1)) = ddr at *
  generalize joinT [10] ([joinT [32] (hdW L r5)] ++ notesOf 0 ls) = strh at *
  generalize SD ([joinT [32] (hdW L r5)] ++ notesOf 0 ls) = dhh at *
  generalize SD (headT L m :: notesOf 0 ls) = dhn at *
  generalize SD (notesOf 0 ls) = dn at *
  generalize hh5 : joinT [32] (hdW L r5) = w5 at *
  generalize joinT [32] (hdW L 0) = u0 at *
  generalize joinT [32] (hdW L 2) = u2 at *
  generalize joinT [32] (hdW L 3) = u3 at *
  generalize joinT [32] (hdW L 4) = u4 at *
  generalize joinT [32] (hdW L 5) = u5 at *
  generalize joinT [32] (hdW L 7) = u7 at *
  generalize [112, 114, 111, 103, 114, 97, 109, 32] ++ L ++ [32] = A1 at *
  generalize [112, 114, 111, 103, 114, 97, 109, 32] ++ L.reverse = A4 at *
  generalize [112, 114, 111, 103, 114, 97, 109, 32] ++ L = A0 at *
  generalize [112, 114, 111, 103, 114, 97, 109, 32, 32] ++ L = A2 at *
  generalize [80, 114, 111, 103, 114, 97, 109, 32] ++ L = A3 at *
  generalize L.reverse = Lr at *
  generalize PD L m ls = pd at *
  generalize D.tup (ls.map lnD) = dtl at *
  generalize D.lst (ls.map lnD) = dls at *
  generalize D.lst [.str L, .int (m : Int), dls] = told at *
  generalize D.lst [.str L, .int (m0 : Int), .lst (ls0.map lnD)] = told0 at *
  generalize headT L m = ht at *
  generalize decI (m : Int) = dm at *
  generalize (ls.length : Int) = n at *
  generalize lnD l = ld at *
  generalize ((p + 1 : Nat) : Int) = p1 at *
  simp [Pl11, Pl16, Pl18, Pl19, Pl23, Pl26, Pl27, Pl28, Pl1004, cv', hd', g3, g4, g5, g6, e6, hprog, hwid, t0, t1, t2, stm, a1, a2, a3, hnt, a4, j4, hpg, hfm, hps, isc, f0, f1, f2, htu, hnr, hln, hlpi, ep, hix, q2, isStr_s, s1, s2, ep1, b1, b2, b3, j3, q3, c0, c2a, c2, c3a, c3, c4r, c4a, c4, c5, c7, ih, d1, jd, q4, q5, d2, q6, prt, isPart, lim_le]
end Lw

open PySem PySem.W PyProof.Rows
set_option maxRecDepth 100000 in
set_option maxHeartbeats 0 in
theorem PySem.Challenge.cw_straightclock_k77_written_programs_holds : PySem.Challenge.rw_straightclock_k77_written_programs.Holds := by
  w_on; o_law; k_head; (case hw => w_witness2)
  k_fill
  refine L2.walk_of (l := PySem.Challenge.rw_straightclock_k77_written_programs) (n := 63) (k := 10) (x := "script") (CX := fun w => L2N.CX PySem.Challenge.rw_straightclock_k77_written_programs.prog w) (sp := fun w => E.spLaw _) rfl (by decide) rfl ⟨rfl, by decide, by decide⟩ (fun w h Y => PySem.W.kIn_of Y) ?F (fun _ _ a ns hl _ hS => ⟨a, ns, rfl, hS, hl, fun _ => rfl⟩) (fun _ _ _ _ _ ⟨_, _, _, _, _, _, _, _, _, _, _, _, h⟩ => h)
  case F =>
    intro w mg fa h KX G hmg
    refine' Lw.all_mk KX G hmg ?z_len ?z_int ?z_min ?z_max ?z_sum ?z_sorted ?z_str ?z_tuple ?z_list ?z_all ?z_any ?z_range ?z_enumerate ?z_zip ?z_reversed ?z_abs ?z_bool ?z_isinstance ?z_set ?z_dict ?a_ClockError ?a_BadLetters ?a_BadLine ?a_BadProgram ?a_Program ?x_BadLetters ?rv_BadLetters ?sa_BadLetters ?ga_BadLetters ?gg_BadLetters ?cc_BadLetters ?mo_BadLetters ?kc_BadLetters ?hd_BadLetters ?se_BadLetters ?ii_BadLetters ?ti_BadLetters ?li_BadLetters ?ci_BadLetters ?ki_BadLetters ?n_BadLetters_letters ?s_BadLetters_ClockError ?s_BadLetters_BadLine ?x_BadLine ?rv_BadLine ?sa_BadLine ?ga_BadLine ?gg_BadLine ?cc_BadLine ?mo_BadLine ?kc_BadLine ?hd_BadLine ?se_BadLine ?ii_BadLine ?ti_BadLine ?li_BadLine ?ci_BadLine ?ki_BadLine ?n_BadLine_line ?s_BadLine_ClockError ?x_BadProgram ?rv_BadProgram ?sa_BadProgram ?ga_BadProgram ?gg_BadProgram ?cc_BadProgram ?mo_BadProgram ?kc_BadProgram ?hd_BadProgram ?se_BadProgram ?ii_BadProgram ?ti_BadProgram ?li_BadProgram ?ci_BadProgram ?ki_BadProgram ?n_BadProgram_index ?s_BadProgram_ClockError ?s_BadProgram_BadLine ?be_ClockError ?ty_ClockError ?ic_ClockError ?be_BadLetters ?ty_BadLetters ?ic_BadLetters ?be_BadLine ?ty_BadLine ?ic_BadLine ?be_BadProgram ?ty_BadProgram ?ic_BadProgram ?sp_cls ?tk_cls ?a_SHAPES ?d_SHAPES ?e_SHAPES ?ha_Program ?hm_Program ?me_Program ?a_ALPHABET ?a_MARKS ?a_MOST_STEP ?a_MOST_TARGETS ?pg_Program ?hd_Program ?po_Program ?sa_Program ?mk_Program ?ii_Program ?fn_Program ?kc_Program ?li_Program ?ci_Program ?ki_Program ?n_Program_letters ?n_Program_marks ?n_Program_lines ?a_frozen ?l_frozen ?cd_frozen_ ?k_frozen ?a_is_whole ?l_is_whole ?cd_is_whole_ ?k_is_whole ?a_are_letters ?l_are_letters ?cd_are_letters_ ?k_are_letters ?a_check_letters ?l_check_letters ?cd_check_letters_ ?k_check_letters ?a_plain_number ?l_plain_number ?cd_plain_number_ ?k_plain_number ?a_is_target ?l_is_target ?cd_is_target_ ?k_is_target ?a_characters_of ?l_characters_of ?cd_characters_of_ ?k_characters_of ?a_is_item ?l_is_item ?cd_is_item_ ?k_is_item ?a_is_line ?l_is_line ?cd_is_line_ ?k_is_line ?a_target_note ?l_target_note ?cd_target_note_ ?k_target_note ?a_item_note ?l_item_note ?cd_item_note_ ?k_item_note ?a_format_program ?l_format_program ?cd_format_program_ ?k_format_program ?a_read_head ?l_read_head ?cd_read_head_ ?k_read_head ?a_read_target ?l_read_target ?cd_read_target_ ?k_read_target ?a_read_word ?l_read_word ?cd_read_word_ ?k_read_word ?a_read_line ?l_read_line ?cd_read_line_ ?k_read_line ?a_parse_program ?l_parse_program ?cd_parse_program_ ?k_parse_program ?a__law_whole ?l__law_whole ?cd__law_whole_ ?k__law_whole ?a__law_cell ?l__law_cell ?cd__law_cell_ ?k__law_cell ?a__law_digits ?l__law_digits ?cd__law_digits_ ?k__law_digits ?a__law_letters ?l__law_letters ?cd__law_letters_ ?k__law_letters ?a__law_target ?l__law_target ?cd__law_target_ ?k__law_target ?a__law_line ?l__law_line ?cd__law_line_ ?k__law_line ?a__law_program ?l__law_program ?cd__law_program_ ?k__law_program ?a__law_word ?l__law_word ?cd__law_word_ ?k__law_word ?a__law_note ?l__law_note ?cd__law_note_ ?k__law_note ?a__law_wider ?l__law_wider ?cd__law_wider_ ?k__law_wider ?a__law_spoilt ?l__law_spoilt ?cd__law_spoilt_ ?k__law_spoilt ?a__law_is_refused ?l__law_is_refused ?cd__law_is_refused_ ?k__law_is_refused ?a_law ?l_law ?cd_law_ ?k_law Lw.law_true
    (case z_len => first | k_is | rfl | decide +kernel)
    (case z_int => first | k_is | rfl | decide +kernel)
    (case z_min => first | k_is | rfl | decide +kernel)
    (case z_max => first | k_is | rfl | decide +kernel)
    (case z_sum => first | k_is | rfl | decide +kernel)
    (case z_sorted => first | k_is | rfl | decide +kernel)
    (case z_str => first | k_is | rfl | decide +kernel)
    (case z_tuple => first | k_is | rfl | decide +kernel)
    (case z_list => first | k_is | rfl | decide +kernel)
    (case z_all => first | k_is | rfl | decide +kernel)
    (case z_any => first | k_is | rfl | decide +kernel)
    (case z_range => first | k_is | rfl | decide +kernel)
    (case z_enumerate => first | k_is | rfl | decide +kernel)
    (case z_zip => first | k_is | rfl | decide +kernel)
    (case z_reversed => first | k_is | rfl | decide +kernel)
    (case z_abs => first | k_is | rfl | decide +kernel)
    (case z_bool => first | k_is | rfl | decide +kernel)
    (case z_isinstance => first | k_is | rfl | decide +kernel)
    (case z_set => first | k_is | rfl | decide +kernel)
    (case z_dict => first | k_is | rfl | decide +kernel)
    (case a_ClockError => first | k_is | rfl | decide +kernel)
    (case a_BadLetters => first | k_is | rfl | decide +kernel)
    (case a_BadLine => first | k_is | rfl | decide +kernel)
    (case a_BadProgram => first | k_is | rfl | decide +kernel)
    (case a_Program => first | k_is | rfl | decide +kernel)
    (case x_BadLetters => first | k_is | rfl | decide +kernel)
    (case rv_BadLetters => first | k_is | rfl | decide +kernel)
    (case sa_BadLetters => first | k_is | rfl | decide +kernel)
    (case ga_BadLetters => first | k_is | rfl | decide +kernel)
    (case gg_BadLetters => first | k_is | rfl | decide +kernel)
    (case cc_BadLetters => first | k_is | rfl | decide +kernel)
    (case mo_BadLetters => first | k_is | rfl | decide +kernel)
    (case kc_BadLetters => first | k_is | rfl | decide +kernel)
    (case hd_BadLetters => first | k_is | rfl | decide +kernel)
    (case se_BadLetters => first | k_is | rfl | decide +kernel)
    (case ii_BadLetters => first | k_is | rfl | decide +kernel)
    (case ti_BadLetters => first | k_is | rfl | decide +kernel)
    (case li_BadLetters => first | k_is | rfl | decide +kernel)
    (case ci_BadLetters => first | k_is | rfl | decide +kernel)
    (case ki_BadLetters => first | k_is | rfl | decide +kernel)
    (case n_BadLetters_letters => first | k_is | rfl | decide +kernel)
    (case s_BadLetters_ClockError => first | k_is | rfl | decide +kernel)
    (case s_BadLetters_BadLine => first | k_is | rfl | decide +kernel)
    (case x_BadLine => first | k_is | rfl | decide +kernel)
    (case rv_BadLine => first | k_is | rfl | decide +kernel)
    (case sa_BadLine => first | k_is | rfl | decide +kernel)
    (case ga_BadLine => first | k_is | rfl | decide +kernel)
    (case gg_BadLine => first | k_is | rfl | decide +kernel)
    (case cc_BadLine => first | k_is | rfl | decide +kernel)
    (case mo_BadLine => first | k_is | rfl | decide +kernel)
    (case kc_BadLine => first | k_is | rfl | decide +kernel)
    (case hd_BadLine => first | k_is | rfl | decide +kernel)
    (case se_BadLine => first | k_is | rfl | decide +kernel)
    (case ii_BadLine => first | k_is | rfl | decide +kernel)
    (case ti_BadLine => first | k_is | rfl | decide +kernel)
    (case li_BadLine => first | k_is | rfl | decide +kernel)
    (case ci_BadLine => first | k_is | rfl | decide +kernel)
    (case ki_BadLine => first | k_is | rfl | decide +kernel)
    (case n_BadLine_line => first | k_is | rfl | decide +kernel)
    (case s_BadLine_ClockError => first | k_is | rfl | decide +kernel)
    (case x_BadProgram => first | k_is | rfl | decide +kernel)
    (case rv_BadProgram => first | k_is | rfl | decide +kernel)
    (case sa_BadProgram => first | k_is | rfl | decide +kernel)
    (case ga_BadProgram => first | k_is | rfl | decide +kernel)
    (case gg_BadProgram => first | k_is | rfl | decide +kernel)
    (case cc_BadProgram => first | k_is | rfl | decide +kernel)
    (case mo_BadProgram => first | k_is | rfl | decide +kernel)
    (case kc_BadProgram => first | k_is | rfl | decide +kernel)
    (case hd_BadProgram => first | k_is | rfl | decide +kernel)
    (case se_BadProgram => first | k_is | rfl | decide +kernel)
    (case ii_BadProgram => first | k_is | rfl | decide +kernel)
    (case ti_BadProgram => first | k_is | rfl | decide +kernel)
    (case li_BadProgram => first | k_is | rfl | decide +kernel)
    (case ci_BadProgram => first | k_is | rfl | decide +kernel)
    (case ki_BadProgram => first | k_is | rfl | decide +kernel)
    (case n_BadProgram_index => first | k_is | rfl | decide +kernel)
    (case s_BadProgram_ClockError => first | k_is | rfl | decide +kernel)
    (case s_BadProgram_BadLine => first | k_is | rfl | decide +kernel)
    (case be_ClockError => first | k_is | rfl | decide +kernel)
    (case ty_ClockError => first | k_is | rfl | decide +kernel)
    (case ic_ClockError => first | k_is | rfl | decide +kernel)
    (case be_BadLetters => first | k_is | rfl | decide +kernel)
    (case ty_BadLetters => first | k_is | rfl | decide +kernel)
    (case ic_BadLetters => first | k_is | rfl | decide +kernel)
    (case be_BadLine => first | k_is | rfl | decide +kernel)
    (case ty_BadLine => first | k_is | rfl | decide +kernel)
    (case ic_BadLine => first | k_is | rfl | decide +kernel)
    (case be_BadProgram => first | k_is | rfl | decide +kernel)
    (case ty_BadProgram => first | k_is | rfl | decide +kernel)
    (case ic_BadProgram => first | k_is | rfl | decide +kernel)
    (case sp_cls => first | k_is | rfl | decide +kernel)
    (case tk_cls => first | k_is | rfl | decide +kernel)
    (case a_SHAPES => first | k_is | rfl | decide +kernel)
    (case d_SHAPES => first | k_is | rfl | decide +kernel)
    (case e_SHAPES => first | k_is | rfl | decide +kernel)
    (case ha_Program => first | k_is | rfl | decide +kernel)
    (case hm_Program => first | k_is | rfl | decide +kernel)
    (case me_Program => first | k_is | rfl | decide +kernel)
    (case a_ALPHABET => first | k_is | rfl | decide +kernel)
    (case a_MARKS => first | k_is | rfl | decide +kernel)
    (case a_MOST_STEP => first | k_is | rfl | decide +kernel)
    (case a_MOST_TARGETS => first | k_is | rfl | decide +kernel)
    (case pg_Program => first | k_is | rfl | decide +kernel)
    (case hd_Program => first | k_is | rfl | decide +kernel)
    (case po_Program => first | k_is | rfl | decide +kernel)
    (case sa_Program => first | k_is | rfl | decide +kernel)
    (case mk_Program => first | k_is | rfl | decide +kernel)
    (case ii_Program => first | k_is | rfl | decide +kernel)
    (case fn_Program => first | k_is | rfl | decide +kernel)
    (case kc_Program => first | k_is | rfl | decide +kernel)
    (case li_Program => first | k_is | rfl | decide +kernel)
    (case ci_Program => first | k_is | rfl | decide +kernel)
    (case ki_Program => first | k_is | rfl | decide +kernel)
    (case n_Program_letters => first | k_is | rfl | decide +kernel)
    (case n_Program_marks => first | k_is | rfl | decide +kernel)
    (case n_Program_lines => first | k_is | rfl | decide +kernel)
    (case a_frozen => first | k_is | rfl | decide +kernel)
    (case l_frozen => first | k_is | rfl | decide +kernel)
    (case cd_frozen_ => first | k_is | rfl | decide +kernel)
    (case k_frozen => first | k_is | rfl | decide +kernel)
    (case a_is_whole => first | k_is | rfl | decide +kernel)
    (case l_is_whole => first | k_is | rfl | decide +kernel)
    (case cd_is_whole_ => first | k_is | rfl | decide +kernel)
    (case k_is_whole => first | k_is | rfl | decide +kernel)
    (case a_are_letters => first | k_is | rfl | decide +kernel)
    (case l_are_letters => first | k_is | rfl | decide +kernel)
    (case cd_are_letters_ => first | k_is | rfl | decide +kernel)
    (case k_are_letters => first | k_is | rfl | decide +kernel)
    (case a_check_letters => first | k_is | rfl | decide +kernel)
    (case l_check_letters => first | k_is | rfl | decide +kernel)
    (case cd_check_letters_ => first | k_is | rfl | decide +kernel)
    (case k_check_letters => first | k_is | rfl | decide +kernel)
    (case a_plain_number => first | k_is | rfl | decide +kernel)
    (case l_plain_number => first | k_is | rfl | decide +kernel)
    (case cd_plain_number_ => first | k_is | rfl | decide +kernel)
    (case k_plain_number => first | k_is | rfl | decide +kernel)
    (case a_is_target => first | k_is | rfl | decide +kernel)
    (case l_is_target => first | k_is | rfl | decide +kernel)
    (case cd_is_target_ => first | k_is | rfl | decide +kernel)
    (case k_is_target => first | k_is | rfl | decide +kernel)
    (case a_characters_of => first | k_is | rfl | decide +kernel)
    (case l_characters_of => first | k_is | rfl | decide +kernel)
    (case cd_characters_of_ => first | k_is | rfl | decide +kernel)
    (case k_characters_of => first | k_is | rfl | decide +kernel)
    (case a_is_item => first | k_is | rfl | decide +kernel)
    (case l_is_item => first | k_is | rfl | decide +kernel)
    (case cd_is_item_ => first | k_is | rfl | decide +kernel)
    (case k_is_item => first | k_is | rfl | decide +kernel)
    (case a_is_line => first | k_is | rfl | decide +kernel)
    (case l_is_line => first | k_is | rfl | decide +kernel)
    (case cd_is_line_ => first | k_is | rfl | decide +kernel)
    (case k_is_line => first | k_is | rfl | decide +kernel)
    (case a_target_note => first | k_is | rfl | decide +kernel)
    (case l_target_note => first | k_is | rfl | decide +kernel)
    (case cd_target_note_ => first | k_is | rfl | decide +kernel)
    (case k_target_note => first | k_is | rfl | decide +kernel)
    (case a_item_note => first | k_is | rfl | decide +kernel)
    (case l_item_note => first | k_is | rfl | decide +kernel)
    (case cd_item_note_ => first | k_is | rfl | decide +kernel)
    (case k_item_note => first | k_is | rfl | decide +kernel)
    (case a_format_program => first | k_is | rfl | decide +kernel)
    (case l_format_program => first | k_is | rfl | decide +kernel)
    (case cd_format_program_ => first | k_is | rfl | decide +kernel)
    (case k_format_program => first | k_is | rfl | decide +kernel)
    (case a_read_head => first | k_is | rfl | decide +kernel)
    (case l_read_head => first | k_is | rfl | decide +kernel)
    (case cd_read_head_ => first | k_is | rfl | decide +kernel)
    (case k_read_head => first | k_is | rfl | decide +kernel)
    (case a_read_target => first | k_is | rfl | decide +kernel)
    (case l_read_target => first | k_is | rfl | decide +kernel)
    (case cd_read_target_ => first | k_is | rfl | decide +kernel)
    (case k_read_target => first | k_is | rfl | decide +kernel)
    (case a_read_word => first | k_is | rfl | decide +kernel)
    (case l_read_word => first | k_is | rfl | decide +kernel)
    (case cd_read_word_ => first | k_is | rfl | decide +kernel)
    (case k_read_word => first | k_is | rfl | decide +kernel)
    (case a_read_line => first | k_is | rfl | decide +kernel)
    (case l_read_line => first | k_is | rfl | decide +kernel)
    (case cd_read_line_ => first | k_is | rfl | decide +kernel)
    (case k_read_line => first | k_is | rfl | decide +kernel)
    (case a_parse_program => first | k_is | rfl | decide +kernel)
    (case l_parse_program => first | k_is | rfl | decide +kernel)
    (case cd_parse_program_ => first | k_is | rfl | decide +kernel)
    (case k_parse_program => first | k_is | rfl | decide +kernel)
    (case a__law_whole => first | k_is | rfl | decide +kernel)
    (case l__law_whole => first | k_is | rfl | decide +kernel)
    (case cd__law_whole_ => first | k_is | rfl | decide +kernel)
    (case k__law_whole => first | k_is | rfl | decide +kernel)
    (case a__law_cell => first | k_is | rfl | decide +kernel)
    (case l__law_cell => first | k_is | rfl | decide +kernel)
    (case cd__law_cell_ => first | k_is | rfl | decide +kernel)
    (case k__law_cell => first | k_is | rfl | decide +kernel)
    (case a__law_digits => first | k_is | rfl | decide +kernel)
    (case l__law_digits => first | k_is | rfl | decide +kernel)
    (case cd__law_digits_ => first | k_is | rfl | decide +kernel)
    (case k__law_digits => first | k_is | rfl | decide +kernel)
    (case a__law_letters => first | k_is | rfl | decide +kernel)
    (case l__law_letters => first | k_is | rfl | decide +kernel)
    (case cd__law_letters_ => first | k_is | rfl | decide +kernel)
    (case k__law_letters => first | k_is | rfl | decide +kernel)
    (case a__law_target => first | k_is | rfl | decide +kernel)
    (case l__law_target => first | k_is | rfl | decide +kernel)
    (case cd__law_target_ => first | k_is | rfl | decide +kernel)
    (case k__law_target => first | k_is | rfl | decide +kernel)
    (case a__law_line => first | k_is | rfl | decide +kernel)
    (case l__law_line => first | k_is | rfl | decide +kernel)
    (case cd__law_line_ => first | k_is | rfl | decide +kernel)
    (case k__law_line => first | k_is | rfl | decide +kernel)
    (case a__law_program => first | k_is | rfl | decide +kernel)
    (case l__law_program => first | k_is | rfl | decide +kernel)
    (case cd__law_program_ => first | k_is | rfl | decide +kernel)
    (case k__law_program => first | k_is | rfl | decide +kernel)
    (case a__law_word => first | k_is | rfl | decide +kernel)
    (case l__law_word => first | k_is | rfl | decide +kernel)
    (case cd__law_word_ => first | k_is | rfl | decide +kernel)
    (case k__law_word => first | k_is | rfl | decide +kernel)
    (case a__law_note => first | k_is | rfl | decide +kernel)
    (case l__law_note => first | k_is | rfl | decide +kernel)
    (case cd__law_note_ => first | k_is | rfl | decide +kernel)
    (case k__law_note => first | k_is | rfl | decide +kernel)
    (case a__law_wider => first | k_is | rfl | decide +kernel)
    (case l__law_wider => first | k_is | rfl | decide +kernel)
    (case cd__law_wider_ => first | k_is | rfl | decide +kernel)
    (case k__law_wider => first | k_is | rfl | decide +kernel)
    (case a__law_spoilt => first | k_is | rfl | decide +kernel)
    (case l__law_spoilt => first | k_is | rfl | decide +kernel)
    (case cd__law_spoilt_ => first | k_is | rfl | decide +kernel)
    (case k__law_spoilt => first | k_is | rfl | decide +kernel)
    (case a__law_is_refused => first | k_is | rfl | decide +kernel)
    (case l__law_is_refused => first | k_is | rfl | decide +kernel)
    (case cd__law_is_refused_ => first | k_is | rfl | decide +kernel)
    (case k__law_is_refused => first | k_is | rfl | decide +kernel)
    (case a_law => first | k_is | rfl | decide +kernel)
    (case l_law => first | k_is | rfl | decide +kernel)
    (case cd_law_ => first | k_is | rfl | decide +kernel)
    (case k_law => first | k_is | rfl | decide +kernel)

import PyProof.Rows.All
import Wide.All
import OpenK.AllK
import Wide.FinOn
import HandS.ForMost
import HandS.ForExc
import HandS.IsInst
import HandS.Walk
import HandS.Wide
import HandS.ExcInit
import HandS.ExcField
import HandS.ExcIs
import HandS.TryMany
import HandS.Flow
import HandS.Style
import HandS.TupAny
import HandS.Zip
import HandS.Rev
import HandS.Deep
import HandS.SortInts
import HandS.HotCalls
import HandS.Conv
import HandS.SetFor
import HandS.Set
import HandS.Strs
import HandS.Dict
import HandS.More
import KE.GoesMore
import HandS.NoneIn
import HandS.Small
import HandS.Words
import HandS.WordsExc
import HandS.ExcCtx
import HandS.ExcInitHot
import PySem.Challenge.RW_straightclock_k65_earliest

/-! E0: pure data, the small language (IR) of the defs, its evaluator. -/
set_option autoImplicit false
set_option linter.all false
namespace E

inductive D where
  | non | bl (b : Bool) | int (i : Int) | str (s : List Nat)
  | tup (l : List D) | lst (l : List D)
  | dic (ks vs : List D) | set (l : List D)
  | ins (c : Nat) (l : List D) | exc (c : Nat) (l : List D) | scr (l : List Int)
  deriving Inhabited

inductive Res (α : Type) where
  | ok (a : α) | err (c : Nat) (l : List D) | bad
abbrev Env := List (Option D)
inductive Out where
  | nx (e : Env) | rt (d : D) | bk (e : Env) | ct (e : Env) | ex (e : Env) (c : Nat) (l : List D) | bad

def Res.bd {α β : Type} (x : Res α) (f : α → Res β) : Res β := match x with | .ok a => f a | .err c l => .err c l | .bad => .bad
def om {α β : Type} (o : Option α) (f : α → Res β) : Res β := match o with | some a => f a | none => .bad
@[simp] theorem om_some {α β : Type} (a : α) (f : α → Res β) : om (some a) f = f a := id rfl
@[simp] theorem om_none {α β : Type} (f : α → Res β) : om (none : Option α) f = .bad := id rfl
def omO {α : Type} (o : Option α) (f : α → Out) : Out := match o with | some a => f a | none => .bad
@[simp] theorem omO_some {α : Type} (a : α) (f : α → Out) : omO (some a) f = f a := id rfl
@[simp] theorem omO_none {α : Type} (f : α → Out) : omO (none : Option α) f = .bad := id rfl
def Res.out {α : Type} (x : Res α) (e : Env) (f : α → Out) : Out := match x with | .ok a => f a | .err c l => .ex e c l | .bad => .bad
@[simp] theorem bd_ok {α β : Type} (a : α) (f : α → Res β) : (Res.ok a).bd f = f a := id rfl
@[simp] theorem bd_err {α β : Type} (c : Nat) (l : List D) (f : α → Res β) : (Res.err c l).bd f = .err c l := id rfl
@[simp] theorem bd_bad {α β : Type} (f : α → Res β) : (Res.bad).bd f = .bad := id rfl
@[simp] theorem out_ok {α : Type} (a : α) (e : Env) (f : α → Out) : (Res.ok a).out e f = f a := id rfl
@[simp] theorem out_err {α : Type} (c : Nat) (l : List D) (e : Env) (f : α → Out) : (Res.err c l).out e f = .ex e c l := id rfl
@[simp] theorem out_bad {α : Type} (e : Env) (f : α → Out) : (Res.bad).out e f = .bad := id rfl

/-! ### operations on data -/
def LIM : Nat := 16777216
def BIG : Nat := 2 ^ 4000
mutual
def eqv : D → D → Bool
  | .non, .non => true
  | .bl a, .bl b => a == b
  | .bl a, .int j => (if a then 1 else 0) == j
  | .int i, .bl b => i == (if b then 1 else 0)
  | .int i, .int j => i == j
  | .str x, .str y => x == y
  | .lst x, .lst y => eqvL x y
  | .tup x, .tup y => eqvL x y
  | _, _ => false
def eqvL : List D → List D → Bool
  | [], [] => true
  | x :: xs, y :: ys => eqv x y && eqvL xs ys
  | _, _ => false
end
mutual
/-- none, boolsD, intsD, texts, lists and tuples of these, k deep at most -/
def plain : D → Nat → Bool
  | .non, _ => true
  | .bl _, _ => true
  | .int _, _ => true
  | .str s, _ => s.all (· < 1114112)
  | .lst l, k => match k with | 0 => false | k + 1 => plainL l k
  | .tup l, k => match k with | 0 => false | k + 1 => plainL l k
  | _, _ => false
def plainL : List D → Nat → Bool
  | [], _ => true
  | x :: xs, k => plain x k && plainL xs k
end
def flat : D → Bool
  | .non => true | .bl _ => true | .int _ => true | .str _ => true | _ => false
def ixOf (n : Nat) (i : Int) : Option Nat := if 0 ≤ i then (if i < n then some i.toNat else none) else if -(n : Int) ≤ i then some (i + n).toNat else none
def at_ {α : Type} (l : List α) (i : Int) : Option α := (ixOf l.length i).bind fun j => l[j]?
def sx (n d : Nat) : D → Nat
  | .int v => if v < 0 then (v + (n : Int)).toNat else min v.toNat n
  | _ => d
def cut {α : Type} (l : List α) (lo hi : D) : List α := (l.drop (sx l.length 0 lo)).take (sx l.length l.length hi - sx l.length 0 lo)
def isPart : D → Bool
  | .int _ => true | .non => true | _ => false

inductive Op2 where
  | add | sub | mul | fdiv | mod | pow | eq | ne | lt | le | gt | ge | in_ | notIn
  deriving DecidableEq

def dAdd : D → D → Res D
  | .int a, .int b => .ok (.int (a + b))
  | .str a, .str b => if a.length + b.length ≤ LIM then .ok (.str (a ++ b)) else .bad
  | .lst a, .lst b => if a.length + b.length ≤ LIM then .ok (.lst (a ++ b)) else .bad
  | .tup a, .tup b => if a.length + b.length ≤ LIM then .ok (.tup (a ++ b)) else .bad
  | _, _ => .bad
def dMul : D → D → Res D
  | .int a, .int b => if a.natAbs < BIG ∧ b.natAbs < BIG then .ok (.int (a * b)) else .bad
  | .str a, .int n => if n < 4611686018427387904 ∧ -4611686018427387904 < n ∧ a.length * n.toNat ≤ LIM then .ok (.str (List.replicate n.toNat a).flatten) else .bad
  | .lst a, .int n => if n < 4611686018427387904 ∧ -4611686018427387904 < n ∧ a.length * n.toNat ≤ LIM then .ok (.lst (List.replicate n.toNat a).flatten) else .bad
  | _, _ => .bad
/-- keys of dicts: ints and texts -/
def isKey : D → Bool
  | .int _ => true
  | .str _ => true
  | _ => false
def keq : D → D → Bool
  | .int a, .int b => a == b
  | .str a, .str b => a == b
  | _, _ => false
def dHas (ks : List D) (k : D) : Bool := ks.any fun z => keq z k
def dGet : List D → List D → D → Option D
  | z :: ks, v :: vs, k => if keq z k = true then some v else dGet ks vs k
  | _, _, _ => none
def dPutV : List D → List D → D → D → List D
  | z :: ks, w :: vs, k, v => (if keq z k = true then v else w) :: dPutV ks vs k v
  | _, _, _, _ => []
def dPut (ks vs : List D) (k v : D) : D := if dHas ks k = true then .dic ks (dPutV ks vs k v) else .dic (ks ++ [k]) (vs ++ [v])
def inD (x : D) : D → Res Bool
  | .str s => match x with
    | .str [c] => .ok (s.contains c)
    | _ => .bad
  | .lst l => if flat x ∧ l.all flat then .ok (l.any fun y => eqv y x) else if plain x 60 ∧ plain (.lst l) 60 then .ok (l.any fun y => eqv y x) else .bad
  | .tup l => if flat x ∧ l.all flat then .ok (l.any fun y => eqv y x) else .bad
  | .dic ks _ => if isKey x = true then .ok (dHas ks x) else .bad
  | _ => .bad
def op2 : Op2 → D → D → Res D
  | .add, x, y => dAdd x y
  | .sub, .int a, .int b => .ok (.int (a - b))
  | .mul, x, y => dMul x y
  | .fdiv, .int a, .int b => if 0 < b ∧ b.natAbs < BIG then .ok (.int (a / b)) else .bad
  | .mod, .int a, .int b => if 0 < b then .ok (.int (a % b)) else .bad
  | .pow, .int a, .int b => if 0 ≤ b ∧ b ≤ 1000000 ∧ a.natAbs < 18446744073709551616 then .ok (.int (a ^ b.toNat)) else .bad
  | .eq, .str a, .str b => .ok (.bl (a == b))
  | .ne, .str a, .str b => .ok (.bl (!(a == b)))
  | .eq, x, y => if plain x 60 ∧ plain y 60 then .ok (.bl (eqv x y)) else .bad
  | .ne, x, y => if plain x 60 ∧ plain y 60 then .ok (.bl (!eqv x y)) else .bad
  | .lt, .int a, .int b => .ok (.bl (decide (a < b)))
  | .le, .int a, .int b => .ok (.bl (decide (a ≤ b)))
  | .gt, .int a, .int b => .ok (.bl (decide (b < a)))
  | .ge, .int a, .int b => .ok (.bl (decide (b ≤ a)))
  | .in_, x, y => (inD x y).bd fun b => .ok (.bl b)
  | .notIn, x, y => (inD x y).bd fun b => .ok (.bl (!b))
  | _, _, _ => .bad
def onlyL : D → Res D
  | .lst l => .ok (.lst l)
  | _ => .bad
def truth : D → Res Bool
  | .non => .ok false
  | .bl b => .ok b
  | .int i => .ok (i != 0)
  | .str s => if s.length ≤ LIM then .ok (s.length != 0) else .bad
  | .lst l => .ok (l.length != 0)
  | .tup l => .ok (l.length != 0)
  | _ => .bad

/-- built-in functions of written arguments -/
inductive BI where
  | len | int | min2 | max2 | sum | sorted | str | tuple | list | all | any | rng1 | rng2 | enum | zip | rev | abs | sset
  deriving DecidableEq
def intsD : List D → Option (List Int)
  | [] => some []
  | .int i :: r => (intsD r).map (i :: ·)
  | _ => none
def boolsD : List D → Option (List Bool)
  | [] => some []
  | .bl i :: r => (boolsD r).map (i :: ·)
  | _ => none
def strsD : List D → Option (List (List Nat))
  | [] => some []
  | .str i :: r => (strsD r).map (i :: ·)
  | _ => none
/-- what a for goes over -/
def items : D → Option (List D)
  | .lst l => some l
  | .tup l => some l
  | .str s => some (s.map fun c => .str [c])
  | .scr l => some (l.map D.int)
  | _ => none
def asList : D → Option (List D)
  | .lst l => some l
  | .tup l => some l
  | .str s => some (s.map fun c => .str [c])
  | _ => none
def rangeD (a b : Int) : List D := (List.range (b - a).toNat).map fun (i : Nat) => D.int (a + (i : Int))
def enumD : List D → Int → List D
  | [], _ => []
  | x :: r, i => .tup [.int i, x] :: enumD r (i + 1)
def zipD : List D → List D → List D
  | x :: r, y :: q => .tup [x, y] :: zipD r q
  | _, _ => []
def insertI (x : Int) : List Int → List Int
  | [] => [x]
  | y :: r => if x ≤ y then x :: y :: r else y :: insertI x r
def sortI : List Int → List Int
  | [] => []
  | x :: r => insertI x (sortI r)
def dedup : List Int → List Int
  | [] => []
  | x :: r => if (dedup r).contains x = true then dedup r else x :: dedup r
def biF : BI → List D → Res D
  | .len, [.str s] => if s.length ≤ LIM then .ok (.int s.length) else .bad
  | .len, [.lst l] => .ok (.int l.length)
  | .len, [.tup l] => .ok (.int l.length)
  | .len, [.scr l] => .ok (.int l.length)
  | .int, [.int i] => .ok (.int i)
  | .int, [.bl b] => .ok (.int (if b then 1 else 0))
  | .min2, [.int i, .int j] => .ok (.int (if j < i then j else i))
  | .max2, [.int i, .int j] => .ok (.int (if j > i then j else i))
  | .sum, [.lst l] => om (intsD l) fun is => .ok (.int is.sum)
  | .sorted, [.lst l] => om (intsD l) fun is => .ok (.lst ((sortI is).map D.int))
  | .sorted, [.dic ks _] => om (intsD ks) fun is => if is.length < 64 then .ok (.lst ((sortI is).map D.int)) else .bad
  | .sset, [.lst l] => om (intsD l) fun is => if is.length < 63 then .ok (.lst ((sortI (dedup is)).map D.int)) else .bad
  | .sset, [.tup l] => om (intsD l) fun is => if is.length < 63 then .ok (.lst ((sortI (dedup is)).map D.int)) else .bad
  | .tuple, [.lst l] => .ok (.tup l)
  | .tuple, [.tup l] => .ok (.tup l)
  | .list, [.lst l] => .ok (.lst l)
  | .list, [.tup l] => .ok (.lst l)
  | .all, [.lst l] => om (boolsD l) fun is => .ok (.bl (is.all id))
  | .any, [.lst l] => om (boolsD l) fun is => .ok (.bl (is.any id))
  | .rng1, [.int j] => if -4611686018427387904 ≤ j ∧ j < 4611686018427387904 then .ok (.lst (rangeD 0 j)) else .bad
  | .rng2, [.int i, .int j] => if -4611686018427387904 ≤ i ∧ i < 4611686018427387904 ∧ -4611686018427387904 ≤ j ∧ j < 4611686018427387904 then .ok (.lst (rangeD i j)) else .bad
  | .enum, [x] => om (asList x) fun l => .ok (.lst (enumD l 0))
  | .zip, [x, y] => om (asList x) fun l => om (asList y) fun m => .ok (.lst (zipD l m))
  | .abs, [.int i] => .ok (.int (if i < 0 then -i else i))
  | _, _ => .bad

/-- methods of built-in types, without a change of the object -/
inductive MT where
  | join | count | find | index
  deriving DecidableEq
def countC (c : Nat) : List Nat → Nat
  | [] => 0
  | x :: r => if x = c then countC c r + 1 else countC c r
def findC (c : Nat) : List Nat → Option Nat
  | [] => none
  | x :: r => if x = c then some 0 else (findC c r).map (· + 1)
def joinT (sep : List Nat) : List (List Nat) → List Nat
  | [] => []
  | [x] => x
  | x :: r => x ++ sep ++ joinT sep r
def meth : MT → D → List D → Res D
  | .join, .str s, [.lst l] => om (strsD l) fun ts => if (ts.map (·.length)).sum + ts.length * s.length ≤ LIM then .ok (.str (joinT s ts)) else .bad
  | .count, .str s, [.str [c]] => .ok (.int (countC c s))
  | .find, .str s, [.str [c]] => .ok (.int (match findC c s with
    | some i => ((i : Nat) : Int)
    | none => -1))
  | .index, .str s, [.str [c]] => om (findC c s) fun i => .ok (.int (i : Nat))
  | _, _, _ => .bad

mutual
/-- the same data, as written -/
def eqD : D → D → Bool
  | .non, .non => true
  | .bl a, .bl b => a == b
  | .int a, .int b => a == b
  | .str a, .str b => a == b
  | .tup a, .tup b => eqDL a b
  | .lst a, .lst b => eqDL a b
  | _, _ => false
def eqDL : List D → List D → Bool
  | [], [] => true
  | x :: xs, y :: ys => eqD x y && eqDL xs ys
  | _, _ => false
end
/-! ### the language -/
inductive Kd where
  | int | bool | str | tup | lst | cls (c : Nat)
  deriving DecidableEq
def isKd : D → Kd → Bool
  | .int _, .int => true
  | .bl _, .int => true
  | .bl _, .bool => true
  | .str _, .str => true
  | .tup _, .tup => true
  | .lst _, .lst => true
  | .ins c _, .cls k => c == k
  | _, _ => false
def kdOk : D → Bool
  | .dic _ _ => false | .set _ => false | .exc _ _ => false | .scr _ => false | .ins _ _ => false | _ => true
inductive C where
  | nil | cons (a r : C)
  | var (i : Nat)
  | non | bl (b : Bool) | int (i : Int) | str (s : List Nat)
  | glb (x : List Nat) (d : D)
  | op (o : Op2) (a b : C)
  | chn (o1 o2 : Op2) (a b c : C)
  | neg (a : C)
  | one (a : C) | and (a b : C) | or (a b : C) | not (a : C) | ite (c a b : C)
  | is_ (d : D) (neg : Bool) (a : C)
  | isi (a : C) (k : Kd) | isi2 (a : C) (k1 k2 : Kd)
  | call (k : Nat) (x : List Nat) (as : C)
  | bi (f : BI) (as : C)
  | mt (m : MT) (a as : C)
  | idx (a b : C) | slc (a lo hi : C) | rev (a : C)
  | tup (as : C) | lst (as : C)
  | lc (t : List Nat) (one : Bool) (it cnd elt : C)
  | fld (c j : Nat) (a : C)
  | efld (i c j : Nat) | eisi (i k : Nat)
  | mth (c k : Nat) (m : List Nat) (a as : C)
  deriving Inhabited

def setAll : List Nat → List D → Env → Option Env
  | [], [], e => some e
  | i :: is, d :: ds, e => setAll is ds (e.set i (some d))
  | _, _, _ => none
/-- a target: one name, or names of a tuple -/
def asg (t : List Nat) (one : Bool) (d : D) (e : Env) : Option Env :=
  if one then setAll t [d] e else match d with
    | .tup l => setAll t l e
    | .lst l => setAll t l e
    | _ => none
def nox {α : Type} : Res α → Res α
  | .ok a => .ok a
  | _ => .bad
def lcL (f : D → Res (Option D)) : List D → Res (List D)
  | [] => .ok []
  | x :: r => (nox (f x)).bd fun o => (lcL f r).bd fun l => match o with
    | some d => .ok (d :: l)
    | none => .ok l
def look (i : Nat) (e : Env) : Res D := match e[i]? with
  | some (some d) => .ok d
  | _ => .bad
def dIdx : D → D → Res D
  | .scr l, .int i => om (at_ l i) fun d => .ok (.int d)
  | .lst l, .int i => om (at_ l i) .ok
  | .tup l, .int i => om (at_ l i) .ok
  | .str s, .int i => if s.length ≤ LIM then om (at_ s i) fun c => .ok (.str [c]) else .bad
  | _, _ => .bad
def dSlc : D → D → D → Res D
  | .lst l, lo, hi => if isPart lo && isPart hi then .ok (.lst (cut l lo hi)) else .bad
  | .tup l, lo, hi => if isPart lo && isPart hi then .ok (.tup (cut l lo hi)) else .bad
  | .str l, lo, hi => if isPart lo && isPart hi && decide (l.length ≤ LIM) then .ok (.str (cut l lo hi)) else .bad
  | _, _, _ => .bad
def isStr : D → Bool
  | .str _ => true
  | _ => false
def prt (d : D) : Res D := if isPart d = true then .ok d else .bad
def dRev : D → Res D
  | .lst l => .ok (.lst l.reverse)
  | .str l => if l.length ≤ LIM then .ok (.str l.reverse) else .bad
  | _ => .bad
def dIs (d : D) (neg : Bool) (x : D) : Res D := match d, x with
  | _, .exc _ _ => .bad
  | .non, .non => .ok (.bl (!neg))
  | .bl a, .bl b => .ok (.bl ((a == b) != neg))
  | .non, _ => .ok (.bl neg)
  | .bl _, _ => .ok (.bl neg)
  | _, _ => .bad
def dFld (c j : Nat) : D → Res D
  | .ins c' l => if c' = c then om l[j]? .ok else .bad
  | _ => .bad

section
variable (Φ : Nat → List D → Res D) (sub : Nat → Nat → Option Bool)
mutual
def ev : C → Env → Res D
  | .var i, e => look i e
  | .non, _ => .ok .non
  | .bl b, _ => .ok (.bl b)
  | .int i, _ => .ok (.int i)
  | .str s, _ => .ok (.str s)
  | .glb _ d, _ => .ok d
  | .op o a b, e => (ev a e).bd fun x => (ev b e).bd fun y => op2 o x y
  | .chn o1 o2 a b c, e => (ev a e).bd fun x => (ev b e).bd fun y => (op2 o1 x y).bd fun z => match z with
    | .bl true => (ev c e).bd fun w => op2 o2 y w
    | .bl false => .ok (.bl false)
    | _ => .bad
  | .neg a, e => (ev a e).bd fun x => match x with
    | .int i => .ok (.int (-i))
    | _ => .bad
  | .one a, e => ev a e
  | .and a b, e => (ev a e).bd fun x => (truth x).bd fun k => if k = true then ev b e else .ok x
  | .or a b, e => (ev a e).bd fun x => (truth x).bd fun k => if k = true then .ok x else ev b e
  | .not a, e => (ev a e).bd fun x => (truth x).bd fun k => .ok (.bl (!k))
  | .ite c a b, e => (ev c e).bd fun x => (truth x).bd fun k => if k = true then ev a e else ev b e
  | .is_ d neg a, e => (ev a e).bd fun x => dIs d neg x
  | .isi a k, e => (ev a e).bd fun x => if kdOk x then .ok (.bl (isKd x k)) else .bad
  | .isi2 a k1 k2, e => (ev a e).bd fun x => if kdOk x then .ok (.bl (isKd x k1 || isKd x k2)) else .bad
  | .call k _ as, e => (evL as e).bd fun xs => Φ k xs
  | .bi f as, e => (evL as e).bd fun xs => biF f xs
  | .mt m a as, e => (ev a e).bd fun x => if isStr x = true then ((evL as e).bd fun xs => meth m x xs) else .bad
  | .idx a b, e => (ev a e).bd fun x => (ev b e).bd fun y => dIdx x y
  | .slc a lo hi, e => (ev a e).bd fun x => ((ev lo e).bd prt).bd fun l => ((ev hi e).bd prt).bd fun h => dSlc x l h
  | .rev a, e => (ev a e).bd fun x => dRev x
  | .tup as, e => (evL as e).bd fun xs => if xs.length ≤ LIM then .ok (.tup xs) else .bad
  | .lst as, e => (evL as e).bd fun xs => if xs.length ≤ LIM then .ok (.lst xs) else .bad
  | .lc t one it cnd elt, e => (ev it e).bd fun x => om (items x) fun l => if l.length < LIM then (lcL (fun d => om (asg t one d e) fun e' =>
        (ev cnd e').bd fun c => (truth c).bd fun k => if k = true then (ev elt e').bd fun y => .ok (some y) else .ok none) l).bd fun ys => .ok (.lst ys) else .bad
  | .efld i c j, e => match e[i]? with
    | some (some (.exc c' l)) => if c' = c then om l[j]? .ok else .bad
    | _ => .bad
  | .eisi i k, e => match e[i]? with
    | some (some (.exc c' _)) => om (sub c' k) fun b => .ok (.bl b)
    | _ => .bad
  | .fld c j a, e => (ev a e).bd fun x => dFld c j x
  | .mth c k _ a as, e => (ev a e).bd fun x => match x with
    | .ins c' _ => if c' = c then ((evL as e).bd fun xs => Φ k (x :: xs)) else .bad
    | _ => .bad
  | .nil, _ => .ok .non
  | .cons _ _, _ => .bad
def evL : C → Env → Res (List D)
  | .nil, _ => .ok []
  | .cons a r, e => (ev a e).bd fun x => (evL r e).bd fun xs => .ok (x :: xs)
  | _, _ => .bad
end
end

/-- statements -/
inductive Mu where
  | append | extend | reverse | pop
  deriving DecidableEq
inductive S where
  | skip
  | asg (t : List Nat) (one : Bool) (e : C)
  | own (i : Nat) (e : C)
  | mu (m : Mu) (i : Nat) (as : C)
  | put (i : Nat) (a b : C)
  | aug (o : Op2) (i : Nat) (e : C)
  | if_ (c : C) (a b : S)
  | while_ (L : List Nat) (c : C) (b : S)
  | for_ (L : List Nat) (t : List Nat) (one : Bool) (it : C) (b : S)
  | ret (e : C) | retN
  | expr (e : C)
  | raise (c : Nat) (x : List Nat) (as : C)
  | try_ (b h : S)
  | hnd (c : Nat) (x : List Nat) (i : Nat) (nm : List Nat) (b r : S)
  | brk | cont
  | seq (a b : S)
  | frz (i : Nat) (a : S)
  | dnew (i : Nat)
  | dnew1 (i : Nat) (k v : C)
  | fpop (L : List Nat) (t : List Nat) (one : Bool) (a : C) (i : Nat) (b : S)
  deriving Inhabited

def putL (l : List D) (i : Int) (d : D) : Option (List D) := (ixOf l.length i).map fun j => l.set j d
def muD : Mu → List D → List D → Res (List D)
  | .append, l, [x] => if l.length < LIM then .ok (l ++ [x]) else .bad
  | .extend, l, [.lst m] => if l.length + m.length ≤ LIM then .ok (l ++ m) else .bad
  | .reverse, l, [] => .ok l.reverse
  | _, _, _ => .bad
def forL (f : D → Env → Out) : List D → Env → Out
  | [], e => .nx e
  | x :: r, e => match f x e with
    | .nx e' => forL f r e'
    | .ct e' => forL f r e'
    | .bk e' => .nx e'
    | o => o
def whL (c : Env → Res Bool) (f : Env → Out) : Nat → Env → Out
  | 0, _ => .bad
  | n + 1, e => (c e).out e fun k => if k = true then match f e with
      | .nx e' => whL c f n e'
      | .ct e' => whL c f n e'
      | .bk e' => .nx e'
      | o => o
    else .nx e
section
variable (Φ : Nat → List D → Res D) (sub : Nat → Nat → Option Bool)
mutual
/-- sub c k: whether the class k is c or one of its bases -/
def evS (n : Nat) : S → Env → Out
  | .skip, e => .nx e
  | .asg t one c, e => (ev Φ sub c e).out e fun d => omO (asg t one d e) .nx
  | .own i c, e => ((ev Φ sub c e).bd onlyL).out e fun d => .nx (e.set i (some d))
  | .mu m i as, e => (look i e).out e fun x => match x with
    | .lst l => (evL Φ sub as e).out e fun xs => (muD m l xs).out e fun l' => .nx (e.set i (some (.lst l')))
    | _ => .bad
  | .put i a b, e => (ev Φ sub b e).out e fun y => (look i e).out e fun x => (ev Φ sub a e).out e fun k => match x, k with
    | .lst l, .int j => omO (putL l j y) fun l' => .nx (e.set i (some (.lst l')))
    | .dic ks vs, k => if isKey k = true ∧ ks.length < LIM then .nx (e.set i (some (dPut ks vs k y))) else .bad
    | _, _ => .bad
  | .aug o i c, e => (look i e).out e fun x => (ev Φ sub c e).out e fun y => (op2 o x y).out e fun z => .nx (e.set i (some z))
  | .if_ c a b, e => ((ev Φ sub c e).bd truth).out e fun k => if k = true then evS n a e else evS n b e
  | .while_ _ c b, e => whL (fun e => (ev Φ sub c e).bd truth) (evS n b) n e
  | .for_ _ t one it b, e => (ev Φ sub it e).out e fun x => omO (items x) fun l => forL (fun d e => omO (asg t one d e) (evS n b)) l e
  | .ret c, e => (ev Φ sub c e).out e fun d => .rt d
  | .retN, _ => .rt .non
  | .expr c, e => (ev Φ sub c e).out e fun _ => .nx e
  | .raise c _ as, e => (evL Φ sub as e).out e fun xs => .ex e c xs
  | .try_ b h, e => match evS n b e with
    | .ex e' c l => evH n c l h e'
    | o => o
  | .hnd _ _ _ _ _ _, _ => .bad
  | .brk, e => .bk e
  | .cont, e => .ct e
  | .seq a b, e => match evS n a e with
    | .nx e' => evS n b e'
    | o => o
  | .frz _ a, e => evS n a e
  | .dnew i, e => .nx (e.set i (some (.dic [] [])))
  | .dnew1 i k v, e => (ev Φ sub k e).out e fun x => (ev Φ sub v e).out e fun y => if isKey x = true then .nx (e.set i (some (.dic [x] [y]))) else .bad
  | .fpop _ t one a i b, e => (ev Φ sub a e).out e fun x => (look i e).out e fun z => match z with
    | .lst l => omO l.getLast? fun j => (dIdx x j).out e fun y => omO (items y) fun ys => forL (fun d e => omO (asg t one d e) (evS n b)) ys (e.set i (some (.lst l.dropLast)))
    | _ => .bad
/-- the handlers of a try -/
def evH (n : Nat) (c : Nat) (l : List D) : S → Env → Out
  | .hnd k _ i _ b r, e => omO (sub c k) fun z => if z = true then (if i < e.length then (match evS n b (e.set i (some (.exc c l))) with
      | .nx e' => .nx (e'.set i none)
      | .bk e' => .bk (e'.set i none)
      | .ct e' => .ct (e'.set i none)
      | .ex _ _ _ => .bad
      | o => o) else .bad)
    else evH n c l r e
  | _, e => .ex e c l
end
end
/-- turns of a while, at most -/
def FUEL : Nat := 1000000000000
def fin : Out → Res D
  | .nx _ => .ok .non
  | .rt d => .ok d
  | .ex _ c l => .err c l
  | _ => .bad
/-- a def: N slots, the body, what it hands back -/
def run (Φ : Nat → List D → Res D) (sub : Nat → Nat → Option Bool) (n N : Nat) (b : S) (xs : List D) : Res D := fin (evS Φ sub n b (xs.map some ++ List.replicate (N - xs.length) none))
/-- __init__ of a plain class: the slots (the object's own is empty), what goes ahead, the fields' values; what it hands back is the object -/
def runI (Φ : Nat → List D → Res D) (sub : Nat → Nat → Option Bool) (n N c : Nat) (b : S) (as : C) (xs : List D) : Res D := match evS Φ sub n b (none :: (xs.map some ++ List.replicate (N - (xs.length + 1)) none)) with
  | .nx e => (evL Φ sub as e).bd fun l => .ok (.ins c l)
  | .ex _ c l => .err c l
  | _ => .bad
end E

set_option autoImplicit false
set_option linter.all false
set_option Elab.async false
set_option maxRecDepth 100000
/-! E1: data in the heap. -/
namespace E
open PySem PySem.Spec PyProof.Rows L2

def txt (s : List Nat) : Str := ⟨s.toArray⟩
theorem txt_len (s : List Nat) : (txt s).length = s.length := by simp [txt, Str.length]
theorem LIM_eq : LIM = sizeLine := by rw [sizeLine_eq]; rfl
/-- a dict's key -/
def kOf : D → Option Key
  | .int i => some (.inl i)
  | .str s => some (.inr (txt s))
  | _ => none
/-- addresses of the classes, names of their fields -/
structure Tb where
  ca : Nat → Addr
  fl : Nat → List Str
  z : Hp → Prop
  zm : ∀ {G G' : Hp}, Same G G' → z G → z G'
  ze : E.Env → L2.St → Prop
  pr : List Nat
  zs : ∀ {e e' : E.Env} {σ σ' : L2.St}, (∀ j ∈ pr, e'[j]? = e[j]? ∧ σ'[j]? = σ[j]?) → ze e σ → ze e' σ'

section
variable (T : Tb) (K : PySem.W.Frag)
mutual
def Rep (G : Hp) : D → V → Prop
  | .non, v => v = .non
  | .bl b, v => v = .bl b
  | .int i, v => v = .int i
  | .str s, v => v = .str (txt s)
  | .tup l, v => ∃ a xs, v = .ref a ∧ SqT K G a xs ∧ RepL G l xs
  | .lst l, v => ∃ a xs, v = .ref a ∧ G a = some (.lst xs) ∧ RepL G l xs
  | .scr l, v => ∃ a, v = .ref a ∧ SqL K G a (l.map V.int)
  | .ins c l, v => ∃ a dx fs, v = .ref a ∧ G a = some (.ins (T.ca c) dx fs) ∧ fs.map (·.1) = T.fl c ∧ RepL G l (fs.map (·.2))
  | .dic ks vs, v => ∃ a kvs, v = .ref a ∧ G a = some (.dK kvs) ∧ ks.map kOf = kvs.map (fun p => some p.1) ∧ RepL G vs (kvs.map (·.2))
  | .set _, _ => False
  | .exc _ _, _ => True
def RepL (G : Hp) : List D → List V → Prop
  | [], v => v = []
  | d :: ds, v => ∃ x xs, v = x :: xs ∧ Rep G d x ∧ RepL G ds xs
end
/-- as Rep, but the object itself may be tracked in H alone -/
def RepR (H G : Hp) : D → V → Prop
  | .lst l, v => ∃ a xs, v = .ref a ∧ H a = some (.lst xs) ∧ RepL T K G l xs
  | .dic ks vs, v => ∃ a kvs, v = .ref a ∧ H a = some (.dK kvs) ∧ ks.map kOf = kvs.map (fun p => some p.1) ∧ RepL T K G vs (kvs.map (·.2))
  | d, v => Rep T K G d v
/-- what stands at an owned address -/
def OwnO (G : Hp) (o : HO) : D → Prop
  | .lst l => ∃ xs, o = .lst xs ∧ RepL T K G l xs
  | .dic ks vs => ∃ kvs, o = .dK kvs ∧ ks.map kOf = kvs.map (fun p => some p.1) ∧ RepL T K G vs (kvs.map (·.2))
  | _ => False
end

section
variable {T : Tb} {K : PySem.W.Frag} {G G' H H' H1 G1 : Hp}
theorem Same.sqt {a : Addr} {xs : List V} (e : Same H H') (h : SqT K H a xs) : SqT K H' a xs := by
  rcases h with (h | ⟨o, h⟩) | h
  · exact .inl (.inl (e _ _ h))
  · exact .inl (.inr ⟨o, e _ _ h⟩)
  · exact .inr h
mutual
theorem Rep.mono (e : Same G G') : ∀ (d : D) (v : V), Rep T K G d v → Rep T K G' d v
  | .non, _, h => by simpa only [Rep] using h
  | .bl _, _, h => by simpa only [Rep] using h
  | .int _, _, h => by simpa only [Rep] using h
  | .str _, _, h => by simpa only [Rep] using h
  | .tup l, v, h => by
    simp only [Rep] at h ⊢
    obtain ⟨a, xs, h1, h2, h3⟩ := h
    exact ⟨a, xs, h1, Same.sqt e h2, RepL.mono e l xs h3⟩
  | .lst l, v, h => by
    simp only [Rep] at h ⊢
    obtain ⟨a, xs, h1, h2, h3⟩ := h
    exact ⟨a, xs, h1, e _ _ h2, RepL.mono e l xs h3⟩
  | .scr l, v, h => by
    simp only [Rep] at h ⊢
    obtain ⟨a, h1, h2⟩ := h
    exact ⟨a, h1, Same.seq e h2⟩
  | .ins c l, v, h => by
    simp only [Rep] at h ⊢
    obtain ⟨a, dx, fs, h1, h2, h3, h4⟩ := h
    exact ⟨a, dx, fs, h1, e _ _ h2, h3, RepL.mono e l _ h4⟩
  | .dic ks vs, v, h => by
    simp only [Rep] at h ⊢
    obtain ⟨a, kvs, h1, h2, h3, h4⟩ := h
    exact ⟨a, kvs, h1, e _ _ h2, h3, RepL.mono e vs _ h4⟩
  | .set _, _, h => by simp only [Rep] at h
  | .exc _ _, _, h => by simp only [Rep]
theorem RepL.mono (e : Same G G') : ∀ (l : List D) (xs : List V), RepL T K G l xs → RepL T K G' l xs
  | [], _, h => by simpa only [RepL] using h
  | d :: ds, v, h => by
    simp only [RepL] at h ⊢
    obtain ⟨x, xs, h1, h2, h3⟩ := h
    exact ⟨x, xs, h1, Rep.mono e d x h2, RepL.mono e ds xs h3⟩
end
theorem RepL.nil : RepL T K G [] [] := by simp only [RepL]
theorem RepL.cons {d : D} {x : V} {ds : List D} {xs : List V} (h1 : Rep T K G d x) (h2 : RepL T K G ds xs) : RepL T K G (d :: ds) (x :: xs) := by
  simp only [RepL]
  exact ⟨x, xs, rfl, h1, h2⟩
theorem RepL.nil_inv {xs : List V} (h : RepL T K G [] xs) : xs = [] := by simpa only [RepL] using h
theorem RepL.cons_inv {d : D} {ds : List D} {xs : List V} (h : RepL T K G (d :: ds) xs) : ∃ x r, xs = x :: r ∧ Rep T K G d x ∧ RepL T K G ds r := by simpa only [RepL] using h
theorem RepL.length : ∀ {l : List D} {xs : List V}, RepL T K G l xs → l.length = xs.length
  | [], _, h => by rw [h.nil_inv]; rfl
  | d :: ds, _, h => by
    obtain ⟨x, r, rfl, _, h2⟩ := h.cons_inv
    simp [RepL.length h2]
theorem RepL.append : ∀ {l m : List D} {xs ys : List V}, RepL T K G l xs → RepL T K G m ys → RepL T K G (l ++ m) (xs ++ ys)
  | [], _, _, _, h, h2 => by rw [h.nil_inv]; exact h2
  | d :: ds, _, _, _, h, h2 => by
    obtain ⟨x, r, rfl, h3, h4⟩ := h.cons_inv
    exact .cons h3 (RepL.append h4 h2)
theorem RepL.get : ∀ {l : List D} {xs : List V} {i : Nat} {d : D}, RepL T K G l xs → l[i]? = some d → ∃ v, xs[i]? = some v ∧ Rep T K G d v
  | [], _, _, _, _, e => by simp at e
  | d :: ds, _, 0, d', h, e => by
    obtain ⟨x, r, rfl, h3, h4⟩ := h.cons_inv
    have e' : d = d' := by simpa using e
    subst e'
    exact ⟨x, rfl, h3⟩
  | d :: ds, _, i + 1, _, h, e => by
    obtain ⟨x, r, rfl, h3, h4⟩ := h.cons_inv
    obtain ⟨v, h5, h6⟩ := RepL.get (i := i) h4 (by simpa using e)
    exact ⟨v, by simpa using h5, h6⟩
theorem RepL.take : ∀ {l : List D} {xs : List V} (n : Nat), RepL T K G l xs → RepL T K G (l.take n) (xs.take n)
  | _, _, 0, _ => by simpa using RepL.nil
  | [], _, n + 1, h => by rw [h.nil_inv]; simpa using RepL.nil
  | d :: ds, _, n + 1, h => by
    obtain ⟨x, r, rfl, h3, h4⟩ := h.cons_inv
    simpa using RepL.cons h3 (RepL.take n h4)
theorem RepL.drop : ∀ {l : List D} {xs : List V} (n : Nat), RepL T K G l xs → RepL T K G (l.drop n) (xs.drop n)
  | _, _, 0, h => by simpa using h
  | [], _, n + 1, h => by rw [h.nil_inv]; simpa using RepL.nil
  | d :: ds, _, n + 1, h => by
    obtain ⟨x, r, rfl, h3, h4⟩ := h.cons_inv
    simpa using RepL.drop n h4
theorem RepL.set : ∀ {l : List D} {xs : List V} {d : D} {v : V} (i : Nat), RepL T K G l xs → Rep T K G d v → RepL T K G (l.set i d) (xs.set i v)
  | [], _, _, _, _, h, _ => by rw [h.nil_inv]; simpa using RepL.nil
  | d :: ds, _, _, _, 0, h, h2 => by
    obtain ⟨x, r, rfl, h3, h4⟩ := h.cons_inv
    exact .cons h2 h4
  | d :: ds, _, _, _, i + 1, h, h2 => by
    obtain ⟨x, r, rfl, h3, h4⟩ := h.cons_inv
    exact .cons h3 (RepL.set i h4 h2)
theorem RepL.reverse {l : List D} {xs : List V} (h : RepL T K G l xs) : RepL T K G l.reverse xs.reverse := by
  induction l generalizing xs with
  | nil => rw [h.nil_inv]; simpa using RepL.nil
  | cons d ds ih =>
    obtain ⟨x, r, rfl, h3, h4⟩ := h.cons_inv
    simpa using (ih h4).append (.cons h3 .nil)
theorem RepL.replicate {l : List D} {xs : List V} (n : Nat) (h : RepL T K G l xs) : RepL T K G (List.replicate n l).flatten (List.replicate n xs).flatten := by
  induction n with
  | zero => simpa using RepL.nil
  | succ n ih => simpa [List.replicate_succ] using h.append ih
theorem Rep.non {v : V} (h : Rep T K G .non v) : v = .non := by simpa only [Rep] using h
theorem Rep.bl {v : V} {b : Bool} (h : Rep T K G (.bl b) v) : v = .bl b := by simpa only [Rep] using h
theorem Rep.int {v : V} {b : Int} (h : Rep T K G (.int b) v) : v = .int b := by simpa only [Rep] using h
theorem Rep.str {v : V} {b : List Nat} (h : Rep T K G (.str b) v) : v = .str (txt b) := by simpa only [Rep] using h
theorem Rep.tup {v : V} {l : List D} (h : Rep T K G (.tup l) v) : ∃ a xs, v = .ref a ∧ SqT K G a xs ∧ RepL T K G l xs := by simpa only [Rep] using h
theorem Rep.scr {v : V} {l : List Int} (h : Rep T K G (.scr l) v) : ∃ a, v = .ref a ∧ SqL K G a (l.map V.int) := by simpa only [Rep] using h
theorem Rep.lst {v : V} {l : List D} (h : Rep T K G (.lst l) v) : ∃ a xs, v = .ref a ∧ G a = some (.lst xs) ∧ RepL T K G l xs := by simpa only [Rep] using h
theorem Rep.ins {v : V} {c : Nat} {l : List D} (h : Rep T K G (.ins c l) v) : ∃ a dx fs, v = .ref a ∧ G a = some (.ins (T.ca c) dx fs) ∧ fs.map (·.1) = T.fl c ∧ RepL T K G l (fs.map (·.2)) := by simpa only [Rep] using h
theorem Rep.dic {v : V} {ks vs : List D} (h : Rep T K G (.dic ks vs) v) : ∃ a kvs, v = .ref a ∧ G a = some (.dK kvs) ∧ ks.map kOf = kvs.map (fun p => some p.1) ∧ RepL T K G vs (kvs.map (·.2)) := by simpa only [Rep] using h
theorem OwnO.mono {o : HO} {d : D} (e : Same G G') (h : OwnO T K G o d) : OwnO T K G' o d := by
  cases d <;> try exact h
  · obtain ⟨xs, h1, h2⟩ := h
    exact ⟨xs, h1, h2.mono e⟩
  · obtain ⟨kvs, h1, h2, h3⟩ := h
    exact ⟨kvs, h1, h2, h3.mono e⟩
theorem OwnO.rep {o : HO} {d : D} {p : Addr} (h : OwnO T K G o d) (hp : G p = some o) : Rep T K G d (.ref p) := by
  cases d <;> try exact h.elim
  · obtain ⟨xs, h1, h2⟩ := h
    simp only [Rep]
    exact ⟨p, xs, rfl, by rw [hp, h1], h2⟩
  · obtain ⟨kvs, h1, h2, h3⟩ := h
    simp only [Rep]
    exact ⟨p, kvs, rfl, by rw [hp, h1], h2, h3⟩
theorem OwnO.repR {o : HO} {d : D} {p : Addr} (h : OwnO T K G o d) (hp : H p = some o) : RepR T K H G d (.ref p) := by
  cases d <;> try exact h.elim
  · obtain ⟨xs, h1, h2⟩ := h
    exact ⟨p, xs, rfl, by rw [hp, h1], h2⟩
  · obtain ⟨kvs, h1, h2, h3⟩ := h
    exact ⟨p, kvs, rfl, by rw [hp, h1], h2, h3⟩
theorem Rep.mk_tup {a : Addr} {xs : List V} {l : List D} (h : SqT K G a xs) (h2 : RepL T K G l xs) : Rep T K G (.tup l) (.ref a) := by simp only [Rep]; exact ⟨a, xs, rfl, h, h2⟩
theorem Rep.mk_lst {a : Addr} {xs : List V} {l : List D} (h : G a = some (.lst xs)) (h2 : RepL T K G l xs) : Rep T K G (.lst l) (.ref a) := by simp only [Rep]; exact ⟨a, xs, rfl, h, h2⟩
@[simp] theorem rep_non {v : V} : Rep T K G .non v ↔ v = .non := by simp only [Rep]
@[simp] theorem rep_bl {v : V} {b : Bool} : Rep T K G (.bl b) v ↔ v = .bl b := by simp only [Rep]
@[simp] theorem rep_int {v : V} {b : Int} : Rep T K G (.int b) v ↔ v = .int b := by simp only [Rep]
@[simp] theorem rep_str {v : V} {b : List Nat} : Rep T K G (.str b) v ↔ v = .str (txt b) := by simp only [Rep]
theorem RepL.ints {is : List Int} : RepL T K G (is.map D.int) (is.map V.int) := by
  induction is with
  | nil => exact .nil
  | cons i r ih => exact .cons (by simp) ih
theorem RepL.ints_inv : ∀ {is : List Int} {xs : List V}, RepL T K G (is.map D.int) xs → xs = is.map V.int
  | [], _, h => h.nil_inv
  | i :: r, _, h => by
    obtain ⟨x, q, rfl, h3, h4⟩ := h.cons_inv
    rw [Rep.int h3, RepL.ints_inv h4]; rfl
theorem RepL.bools_inv : ∀ {is : List Bool} {xs : List V}, RepL T K G (is.map D.bl) xs → xs = is.map V.bl
  | [], _, h => h.nil_inv
  | i :: r, _, h => by
    obtain ⟨x, q, rfl, h3, h4⟩ := h.cons_inv
    rw [Rep.bl h3, RepL.bools_inv h4]; rfl
theorem RepL.strs_inv : ∀ {is : List (List Nat)} {xs : List V}, RepL T K G (is.map D.str) xs → xs = (is.map txt).map V.str
  | [], _, h => h.nil_inv
  | i :: r, _, h => by
    obtain ⟨x, q, rfl, h3, h4⟩ := h.cons_inv
    rw [Rep.str h3, RepL.strs_inv h4]; rfl
theorem RepR.of {d : D} {v : V} (s : Same G H) (h : Rep T K G d v) : RepR T K H G d v := by
  cases d <;> try exact h
  · obtain ⟨a, xs, h1, h2, h3⟩ := h.lst
    exact ⟨a, xs, h1, s _ _ h2, h3⟩
  · obtain ⟨a, xs, h1, h2, h3, h4⟩ := h.dic
    exact ⟨a, xs, h1, s _ _ h2, h3, h4⟩
theorem RepR.mono {d : D} {v : V} (s : Same H H') (s2 : Same G G') (h : RepR T K H G d v) : RepR T K H' G' d v := by
  cases d <;> try exact Rep.mono s2 _ _ h
  · obtain ⟨a, xs, h1, h2, h3⟩ := h
    exact ⟨a, xs, h1, s _ _ h2, h3.mono s2⟩
  · obtain ⟨a, xs, h1, h2, h3, h4⟩ := h
    exact ⟨a, xs, h1, s _ _ h2, h3, h4.mono s2⟩

/-! ### how the heap grows: H is what is tracked, G what is given away for good -/
structure Ext (H G H' G' : Hp) : Prop where
  h : Same H H'
  g : Same G G'
  s : Same G' H'
  n : ∀ a, H a ≠ none → G a = none → G' a = none
theorem Ext.refl (s : Same G H) : Ext H G H G := ⟨Same.refl _, Same.refl _, s, fun _ _ h => h⟩
theorem Ext.trans {H2 G2 : Hp} (a : Ext H G H1 G1) (b : Ext H1 G1 H2 G2) : Ext H G H2 G2 :=
  ⟨a.h.trans b.h, a.g.trans b.g, b.s, fun x hx hn => b.n x (by
    cases q : H x with
    | none => exact absurd q hx
    | some o => rw [a.h _ _ q]; simp) (a.n x hx hn)⟩
theorem same_new {p : Addr} {o : HO} (h : H p = none) : Same H (upd H p o) := fun b u q => by rw [upd_ne (ne_of_none q h)]; exact q
theorem Same.none (e : Same G H) {p : Addr} (h : H p = none) : G p = none := e.free h
/-- a new object that is given away -/
theorem Ext.new {p : Addr} {o : HO} (s : Same G H) (h : H p = none) : Ext H G (upd H p o) (upd G p o) :=
  ⟨same_new h, same_new (Same.none s h), fun b u q => by
    by_cases hb : b = p
    · subst hb; rw [upd_same] at q ⊢; exact q
    · rw [upd_ne hb] at q ⊢; exact s _ _ q, fun a ha hn => by
    by_cases hb : a = p
    · subst hb; exact absurd h ha
    · rw [upd_ne hb]; exact hn⟩
/-- a new object that is kept -/
theorem Ext.mine {p : Addr} {o : HO} (s : Same G H) (h : H p = none) : Ext H G (upd H p o) G :=
  ⟨same_new h, Same.refl _, fun b u q => by rw [upd_ne (ne_of_none q (Same.none s h))]; exact s _ _ q, fun _ _ h => h⟩
/-- a kept object is given away -/
theorem Ext.give {p : Addr} {o : HO} (x : Ext H G H' G') (h : H p = none) (h' : H' p = some o) (hg : G' p = none) : Ext H G H' (upd G' p o) :=
  ⟨x.h, x.g.trans (same_new hg), fun b u q => by
    by_cases hb : b = p
    · subst hb; rw [upd_same] at q; rw [h']; exact q
    · rw [upd_ne hb] at q; exact x.s _ _ q, fun a ha hn => by
    by_cases hb : a = p
    · subst hb; exact absurd h ha
    · rw [upd_ne hb]; exact x.n a ha hn⟩
end
end E

set_option autoImplicit false
set_option linter.all false
set_option Elab.async false
set_option maxRecDepth 100000
/-! E2: judgements. -/
namespace E
open PySem PySem.Spec PyProof.Rows L2

section
variable (T : Tb) (K : PySem.W.Frag)
/-- an exception's own dict -/
def ExcAt (G : Hp) (c : Nat) (l : List D) (od : Option Addr) : Prop :=
  (T.fl c = [] ∧ l = [] ∧ od = none) ∨ ∃ dd fs, od = some dd ∧ G dd = some (.xd fs) ∧ l.length = (T.fl c).length ∧ ∀ (j : Nat) (nm : Str) (d : D), (T.fl c)[j]? = some nm → l[j]? = some d → ∃ v, fs.lookup nm = some v ∧ Rep T K G d v
/-- what follows a result -/
def PostG {α β : Type} (R : Hp → Hp → α → β → Prop) (W : WX) (σ : L2.St) (H G : Hp) : Res α → (β → Hp → Prop) → Prop
  | .ok a, Q => ∀ b H' G', Ext H G H' G' → R H' G' a b → Q b H'
  | .err c l, _ => ∀ od H' G', Ext H G H' G' → ExcAt T K G' c l od → W (.ref (T.ca c)) od σ H'
  | .bad, _ => False
abbrev RV : Hp → Hp → D → V → Prop := fun _ G d v => Rep T K G d v
abbrev RR : Hp → Hp → D → V → Prop := fun H G d v => RepR T K H G d v
abbrev RL : Hp → Hp → List D → List V → Prop := fun _ G d v => RepL T K G d v
abbrev RB : Hp → Hp → Bool → Bool → Prop := fun _ _ a b => b = a
/-- a list that nobody else has -/
def RF (H0 : Hp) : Hp → Hp → D → V → Prop := fun H G d v => ∃ l p xs, d = .lst l ∧ v = .ref p ∧ H p = some (.lst xs) ∧ G p = none ∧ H0 p = none ∧ RepL T K G l xs
/-- the frame's slots against the environment; O: the slots whose lists nobody else has -/
structure Rel (O : List Nat) (G0 H0 : Hp) (σ : L2.St) (H G : Hp) (e : Env) : Prop where
  x : Ext H0 G0 H G
  s0 : Same G0 H0
  z : T.z G
  ze : T.ze e σ
  po : ∀ i ∈ T.pr, i ∉ O
  len : σ.length = e.length
  val : ∀ i d, e[i]? = some (some d) → i ∉ O → ∃ v, σ[i]? = some (some v) ∧ Rep T K G d v
  own : ∀ i, i ∈ O → ∃ d p o, e[i]? = some (some d) ∧ σ[i]? = some (some (.ref p)) ∧ H p = some o ∧ G p = none ∧ H0 p = none ∧ OwnO T K G o d
  dis : ∀ i, i ∈ O → ∀ j, j ∈ O → i ≠ j → ∀ p q, σ[i]? = some (some (.ref p)) → σ[j]? = some (some (.ref q)) → p ≠ q
end

section
variable {T : Tb} {K : PySem.W.Frag} {O : List Nat} {G0 H0 : Hp} {σ : L2.St} {H G H' G' : Hp} {e : Env} {W : WX}
theorem Rel.sub (r : Rel T K O G0 H0 σ H G e) : Same G H := r.x.s
theorem Rel.ext (r : Rel T K O G0 H0 σ H G e) (x : Ext H G H' G') : Rel T K O G0 H0 σ H' G' e where
  x := r.x.trans x
  s0 := r.s0
  z := T.zm x.g r.z
  ze := r.ze
  po := r.po
  len := r.len
  val := fun i d h hi => by
    obtain ⟨v, h1, h2⟩ := r.val i d h hi
    exact ⟨v, h1, h2.mono x.g⟩
  own := fun i hi => by
    obtain ⟨l, p, xs, h1, h2, h3, h4, h5, h6⟩ := r.own i hi
    exact ⟨l, p, xs, h1, h2, x.h _ _ h3, x.n p (by rw [h3]; simp) h4, h5, h6.mono x.g⟩
  dis := r.dis
theorem ExcAt.mono {c : Nat} {l : List D} {od : Option Addr} (h : ExcAt T K G c l od) (s2 : Same G G') : ExcAt T K G' c l od := by
  rcases h with h | ⟨dd, fs, h1, h2, h3, h4⟩
  · exact .inl h
  · refine .inr ⟨dd, fs, h1, s2 _ _ h2, h3, fun j nm d q1 q2 => ?_⟩
    obtain ⟨v, h5, h6⟩ := h4 j nm d q1 q2
    exact ⟨v, h5, h6.mono s2⟩
theorem PostG.ext {α β : Type} {R : Hp → Hp → α → β → Prop} {x : Res α} {Q : β → Hp → Prop} (h : PostG T K R W σ H G x Q) (e : Ext H G H' G') : PostG T K R W σ H' G' x Q := by
  cases x with
  | ok a => exact fun b H2 G2 e2 r => h b H2 G2 (e.trans e2) r
  | err c l => exact fun od H2 G2 e2 r => h od H2 G2 (e.trans e2) r
  | bad => exact h
theorem PostG.bind {α β γ δ : Type} {R1 : Hp → Hp → α → β → Prop} {R2 : Hp → Hp → γ → δ → Prop} {x : Res α} {f : α → Res γ} {Q : δ → Hp → Prop} {P : β → Hp → Prop} (h : PostG T K R2 W σ H G (x.bd f) Q)
    (k : ∀ a b H' G', Ext H G H' G' → R1 H' G' a b → PostG T K R2 W σ H' G' (f a) Q → P b H') : PostG T K R1 W σ H G x P := by
  cases x with
  | ok a => exact fun b H2 G2 e2 r => k a b H2 G2 e2 r (PostG.ext (by simpa using h) e2)
  | err c l => exact h
  | bad => exact h
theorem PostG.ok {α β : Type} {R : Hp → Hp → α → β → Prop} {a : α} {b : β} {Q : β → Hp → Prop} (h : PostG T K R W σ H G (.ok a) Q) (s : Same G H) (r : R H G a b) : Q b H := h b H G (.refl s) r
/-- another relation -/
theorem PostG.conv {α β : Type} {R1 R2 : Hp → Hp → α → β → Prop} {x : Res α} {Q : β → Hp → Prop} (h : PostG T K R2 W σ H G x Q) (k : ∀ a b H' G', Ext H G H' G' → R1 H' G' a b → ∃ G2, Ext H G H' G2 ∧ R2 H' G2 a b) : PostG T K R1 W σ H G x Q := by
  cases x with
  | ok a => exact fun b H2 G2 e2 r => let ⟨G3, h1, h2⟩ := k a b H2 G2 e2 r; h b H2 G3 h1 h2
  | err c l => exact h
  | bad => exact h
theorem PostG.imp {α β : Type} {R : Hp → Hp → α → β → Prop} {x : Res α} {Q Q' : β → Hp → Prop} (h : PostG T K R W σ H G x Q) (k : ∀ b H, Q b H → Q' b H) : PostG T K R W σ H G x Q' := by
  cases x with
  | ok a => exact fun b H2 G2 e2 r => k _ _ (h b H2 G2 e2 r)
  | err c l => exact h
  | bad => exact h
theorem post_tup {l : List D} {xs : List V} {Q : VK} (h : PostG T K (RV T K) W σ H G (.ok (.tup l)) Q) (s : Same G H) (r : RepL T K G l xs) : ∀ p, H p = none → Q (.ref p) (upd H p (.tup xs)) := fun p hp =>
  h _ _ _ (Ext.new s hp) (Rep.mk_tup (SqT.of upd_same) (r.mono (same_new (Same.none s hp))))
theorem post_lst {l : List D} {xs : List V} {Q : VK} (h : PostG T K (RV T K) W σ H G (.ok (.lst l)) Q) (s : Same G H) (r : RepL T K G l xs) : ∀ p, H p = none → Q (.ref p) (upd H p (.lst xs)) := fun p hp =>
  h _ _ _ (Ext.new s hp) (Rep.mk_lst upd_same (r.mono (same_new (Same.none s hp))))
theorem postF_lst {HB : Hp} {l : List D} {xs : List V} {Q : VK} (h : PostG T K (RF T K HB) W σ H G (.ok (.lst l)) Q) (sb : Same HB H) (s : Same G H) (r : RepL T K G l xs) : ∀ p, H p = none → Q (.ref p) (upd H p (.lst xs)) := fun p hp =>
  h _ _ _ (Ext.mine s hp) ⟨l, p, xs, rfl, rfl, upd_same, Same.none s hp, Same.none sb hp, r⟩
end

/-! ### judgements: the expression's reading is its evaluation -/
section
variable (X : Cx) (T : Tb) (W : WX) (O : List Nat)
def cE {α β : Type} (R : Hp → Hp → Hp → α → β → Prop) (f : Env → Res α) : L2.St → Hp → (β → Hp → Prop) → Prop := fun σ H Q => ∃ G0 H0 G e, Rel T X.K O G0 H0 σ H G e ∧ PostG T X.K (R H) W σ H G (f e) Q
/-- a value that may be given away -/
def SE (x : Expr) (f : Env → Res D) : Prop := PE X x (cE X T W O (fun _ => RV T X.K) f)
/-- a value that is read now -/
def SR (x : Expr) (f : Env → Res D) : Prop := PE X x (cE X T W O (fun _ => RR T X.K) f)
/-- a new list -/
def SF (x : Expr) (f : Env → Res D) : Prop := PE X x (cE X T W O (RF T X.K) fun e => (f e).bd onlyL)
/-- a test -/
def SB (x : Expr) (f : Env → Res Bool) : Prop := PT X x (cE X T W O (fun _ => RB) f)
/-- arguments -/
def SA (xs : List Expr) (f : Env → Res (List D)) : Prop := PA X xs (cE X T W O (fun _ => RL T X.K) f)
end
section
variable {X : Cx} {T : Tb} {W : WX} {O : List Nat}
theorem PE.weak {x : Expr} {t t' : TE} (h : PE X x t) (k : ∀ σ H Q, t' σ H Q → t σ H Q) : PE X x t' := ⟨fun pins s σ H Q I q => h.run pins s σ H Q I (k σ H Q q)⟩
theorem PT.weak {x : Expr} {t t' : TT} (h : PT X x t) (k : ∀ σ H Q, t' σ H Q → t σ H Q) : PT X x t' := ⟨fun pins s σ H Q I q => h.run pins s σ H Q I (k σ H Q q)⟩
theorem PA.weak {x : List Expr} {t t' : TA} (h : PA X x t) (k : ∀ σ H Q, t' σ H Q → t σ H Q) : PA X x t' := ⟨fun pos pins s σ H Q I q => h.run pos pins s σ H Q I (k σ H Q q)⟩
theorem SE.sr {x : Expr} {f : Env → Res D} (h : SE X T W O x f) : SR X T W O x f := PE.weak h fun σ H Q ⟨G0, H0, G, e, r, p⟩ =>
  ⟨G0, H0, G, e, r, p.conv fun a b H' G' x q => ⟨G', x, RepR.of x.s q⟩⟩
theorem rv_rf {f : Env → Res D} (hl : ∀ e d, f e = .ok d → ∃ l, d = .lst l) {σ : L2.St} {H : Hp} {Q : VK} (q0 : cE X T W O (fun _ => RV T X.K) f σ H Q) : cE X T W O (RF T X.K) (fun e => (f e).bd onlyL) σ H Q := by
  obtain ⟨G0, H0, G, e, r, p⟩ := q0
  refine ⟨G0, H0, G, e, r, ?_⟩
  show PostG T X.K (RF T X.K H) W σ H G ((f e).bd onlyL) Q
  cases q : f e with
  | ok d =>
    obtain ⟨l, rfl⟩ := hl e d q
    rw [q] at p
    intro v H' G' x ⟨l', p', xs, h1, h2, h3, h4, h5, h6⟩
    cases h1
    subst h2
    exact p _ H' _ (x.give h5 h3 h4) (Rep.mk_lst upd_same (h6.mono (same_new h4)))
  | err c l => rw [q] at p; exact p
  | bad => rw [q] at p; exact p
theorem SF.se {x : Expr} {f : Env → Res D} (h : SF X T W O x f) (hl : ∀ e d, f e = .ok d → ∃ l, d = .lst l) : SE X T W O x f := PE.weak h fun σ H Q q => rv_rf hl q
/-- two operands, then an operation on values -/
theorem two {α β : Type} {R : Hp → Hp → Hp → α → β → Prop} {a b : TE} {fa fb : Env → Res D} {g : D → D → Res α} {σ : L2.St} {H : Hp} {Q : β → Hp → Prop} {P : V → V → Hp → Prop}
    (ha : a = cE X T W O (fun _ => RR T X.K) fa) (hb : b = cE X T W O (fun _ => RR T X.K) fb)
    (h : cE X T W O R (fun e => (fa e).bd fun x => (fb e).bd fun y => g x y) σ H Q)
    (k : ∀ G0 H0 G2 H2 e x y v w, Rel T X.K O G0 H0 σ H2 G2 e → Same H H2 → RepR T X.K H2 G2 x v → RepR T X.K H2 G2 y w → PostG T X.K (R H) W σ H2 G2 (g x y) Q → P v w H2) : a σ H fun v H1 => b σ H1 fun w H2 => P v w H2 := by
  subst ha hb
  obtain ⟨G0, H0, G, e, r, p⟩ := h
  refine ⟨G0, H0, G, e, r, p.bind fun x v H1 G1 x1 r1 p1 => ⟨G0, H0, G1, e, r.ext x1, p1.bind fun y w H2 G2 x2 r2 p2 => ?_⟩⟩
  exact k G0 H0 G2 H2 e x y v w ((r.ext x1).ext x2) (x1.h.trans x2.h) (RepR.mono x2.h x2.g r1) r2 p2
theorem one {α β : Type} {R : Hp → Hp → Hp → α → β → Prop} {a : TE} {fa : Env → Res D} {g : D → Res α} {σ : L2.St} {H : Hp} {Q : β → Hp → Prop} {P : V → Hp → Prop}
    (ha : a = cE X T W O (fun _ => RR T X.K) fa) (h : cE X T W O R (fun e => (fa e).bd g) σ H Q)
    (k : ∀ G0 H0 G1 H1 e x v, Rel T X.K O G0 H0 σ H1 G1 e → Same H H1 → RepR T X.K H1 G1 x v → PostG T X.K (R H) W σ H1 G1 (g x) Q → P v H1) : a σ H P := by
  subst ha
  obtain ⟨G0, H0, G, e, r, p⟩ := h
  exact ⟨G0, H0, G, e, r, p.bind fun x v H1 G1 x1 r1 p1 => k G0 H0 G1 H1 e x v (r.ext x1) x1.h r1 p1⟩
theorem args {α β : Type} {R : Hp → Hp → Hp → α → β → Prop} {a : TA} {fa : Env → Res (List D)} {g : List D → Res α} {σ : L2.St} {H : Hp} {Q : β → Hp → Prop} {P : List V → Hp → Prop}
    (ha : a = cE X T W O (fun _ => RL T X.K) fa) (h : cE X T W O R (fun e => (fa e).bd g) σ H Q)
    (k : ∀ G0 H0 G1 H1 e x v, Rel T X.K O G0 H0 σ H1 G1 e → Same H H1 → RepL T X.K G1 x v → PostG T X.K (R H) W σ H1 G1 (g x) Q → P v H1) : a σ H P := by
  subst ha
  obtain ⟨G0, H0, G, e, r, p⟩ := h
  exact ⟨G0, H0, G, e, r, p.bind fun x v H1 G1 x1 r1 p1 => k G0 H0 G1 H1 e x v (r.ext x1) x1.h r1 p1⟩
/-! ### names, constants -/
theorem se_var {i : Nat} {x : Str} {pos : Pos} (hN : X.N[i]? = some x) (hv : Vis X.env.scope x) (hd : (x == ("__debug__" : Str)) = false) (hcd : (x == ("__classdict__" : Str)) = false) (hi : i ∉ O) : SE X T W O (.Name x pos) (look i) :=
  PE.weak (pe_var hN hv hd hcd) fun σ H Q ⟨G0, H0, G, e, r, p⟩ => by
    unfold look at p
    split at p
    · rename_i d q
      obtain ⟨v, h1, h2⟩ := r.val i d q hi
      exact ⟨v, h1, p.ok r.sub h2⟩
    · exact p.elim
theorem sr_own {i : Nat} {x : Str} {pos : Pos} (hN : X.N[i]? = some x) (hv : Vis X.env.scope x) (hd : (x == ("__debug__" : Str)) = false) (hcd : (x == ("__classdict__" : Str)) = false) : SR X T W O (.Name x pos) (look i) := by
  by_cases hi : i ∈ O
  · refine PE.weak (pe_var hN hv hd hcd) fun σ H Q ⟨G0, H0, G, e, r, p⟩ => ?_
    obtain ⟨l, q, xs, h1, h2, h3, h4, h5, h6⟩ := r.own i hi
    unfold look at p
    rw [h1] at p
    exact ⟨_, h2, p.ok r.sub (h6.repR h3)⟩
  · exact (se_var hN hv hd hcd hi).sr
theorem se_c {x : Expr} {d : D} {v : V} (h : PE X x (tC v)) (r : ∀ G, Rep T X.K G d v) : SE X T W O x (fun _ => .ok d) := PE.weak h fun σ H Q ⟨G0, H0, G, e, q, p⟩ => p.ok q.sub (r G)
end
end E

set_option autoImplicit false
set_option linter.all false
set_option Elab.async false
set_option maxRecDepth 100000
/-! E3: operations on values. -/
namespace E
open PySem PySem.Spec PyProof.Rows L2

section
variable {T : Tb} {K : PySem.W.Frag} {W : WX} {σ : L2.St} {H G : Hp}
abbrev Pv (T : Tb) (K : PySem.W.Frag) (W : WX) (σ : L2.St) (H G : Hp) (r : Res D) (Q : VK) : Prop := PostG T K (RV T K) W σ H G r Q
theorem pif {α β : Type} {R : Hp → Hp → α → β → Prop} {c : Prop} [Decidable c] {r : Res α} {Q : β → Hp → Prop} (p : PostG T K R W σ H G (if c then r else .bad) Q) : c ∧ PostG T K R W σ H G r Q := by
  split at p
  · exact ⟨by assumption, p⟩
  · exact False.elim p
theorem pifb {α β γ : Type} {R : Hp → Hp → α → β → Prop} {c : Prop} [Decidable c] {r : Res γ} {f : γ → Res α} {Q : β → Hp → Prop} (p : PostG T K R W σ H G ((if c then r else .bad).bd f) Q) : c ∧ PostG T K R W σ H G (r.bd f) Q := by
  split at p
  · exact ⟨by assumption, p⟩
  · exact False.elim p
theorem RepR.lst {l : List D} {v : V} (h : RepR T K H G (.lst l) v) : ∃ a xs, v = .ref a ∧ H a = some (.lst xs) ∧ RepL T K G l xs := h
theorem RepR.int {i : Int} {v : V} (h : RepR T K H G (.int i) v) : v = .int i := Rep.int (T := T) (K := K) (G := G) h
theorem RepR.bl {i : Bool} {v : V} (h : RepR T K H G (.bl i) v) : v = .bl i := Rep.bl (T := T) (K := K) (G := G) h
theorem RepR.non {v : V} (h : RepR T K H G .non v) : v = .non := Rep.non (T := T) (K := K) (G := G) h
theorem RepR.str {i : List Nat} {v : V} (h : RepR T K H G (.str i) v) : v = .str (txt i) := Rep.str (T := T) (K := K) (G := G) h
theorem RepR.tup {l : List D} {v : V} (s : Same G H) (h : RepR T K H G (.tup l) v) : ∃ a xs, v = .ref a ∧ SqT K H a xs ∧ RepL T K G l xs := by
  obtain ⟨a, xs, h1, h2, h3⟩ := Rep.tup (T := T) (K := K) (G := G) h
  exact ⟨a, xs, h1, Same.sqt s h2, h3⟩
theorem RepR.scr {l : List Int} {v : V} (s : Same G H) (h : RepR T K H G (.scr l) v) : ∃ a, v = .ref a ∧ SqL K H a (l.map V.int) := by
  obtain ⟨a, h1, h2⟩ := Rep.scr (T := T) (K := K) (G := G) h
  exact ⟨a, h1, Same.seq s h2⟩
theorem pv_int {i : Int} {Q : VK} (p : Pv T K W σ H G (.ok (.int i)) Q) (s : Same G H) : Q (.int i) H := PostG.ok p s (by simp)
theorem pv_bl {i : Bool} {Q : VK} (p : Pv T K W σ H G (.ok (.bl i)) Q) (s : Same G H) : Q (.bl i) H := PostG.ok p s (by simp)
theorem pv_non {Q : VK} (p : Pv T K W σ H G (.ok .non) Q) (s : Same G H) : Q .non H := PostG.ok p s (by simp)
theorem pv_str {i : List Nat} {Q : VK} (p : Pv T K W σ H G (.ok (.str i)) Q) (s : Same G H) : Q (.str (txt i)) H := PostG.ok p s (by simp)
theorem txt_app (a b : List Nat) : txt a ++ txt b = txt (a ++ b) := by
  show Str.append _ _ = _
  simp [Str.append, txt]
theorem txt_inj {a b : List Nat} (h : txt a = txt b) : a = b := by
  unfold txt at h
  injection h with h
  simpa using h
theorem txt_list (a : List Nat) : (txt a).cps.toList = a := by simp [txt]
end

section
variable {X : Cx} {T : Tb} {W : WX} {σ : L2.St} {H G : Hp} {x y : D} {v w : V} {Q : VK}
/-! ### str * int -/
theorem foldl_app (n : Nat) (a : Array Nat) : (List.replicate n a).foldl (· ++ ·) #[] = (List.replicate n a.toList).flatten.toArray := by
  have key : ∀ (n : Nat) (b : Array Nat), (List.replicate n a).foldl (· ++ ·) b = b ++ (List.replicate n a.toList).flatten.toArray := by
    intro n
    induction n with
    | zero => intro b; simp
    | succ n ih => intro b; rw [List.replicate_succ, List.foldl_cons, ih]; apply Array.ext'; simp [List.replicate_succ]
  rw [key]; simp
def rMulS : R2 := fun x y H Q => ∃ a n, x = .str (txt a) ∧ y = .int n ∧ n < 4611686018427387904 ∧ -4611686018427387904 < n ∧ a.length * n.toNat ≤ sizeLine ∧ Q (.str (txt (List.replicate n.toNat a).flatten)) H
theorem op_mulS : OpR X (binaryOp .Mult) rMulS := by
  intro pins s σ H x y v u Q I rx ry h
  obtain ⟨a, n, rfl, rfl, h1, h2, h3, q⟩ := h
  obtain ⟨t, rfl⟩ := rx
  obtain ⟨t', rfl⟩ := ry
  have hs : sizeLine = 16777216 := sizeLine_eq
  have ha : (txt a).length = a.length := txt_len a
  refine PySem.P.mul_str ?_ ?_ ?_ ?_
  · have e1 : ¬ n < -(2 ^ 63 : Int) := by omega
    have e2 : ¬ n ≥ 2 ^ 63 := by omega
    simp only [decide_eq_false e1, decide_eq_false e2, Bool.or_self]
  · intro hn _
    rw [ha]
    have hn1 : 1 ≤ n := by omega
    have key : (a.length : Int) * n ≤ 16777216 := by
      have : ((a.length * n.toNat : Nat) : Int) ≤ 16777216 := by omega
      rw [Int.natCast_mul, Int.toNat_of_nonneg (by omega)] at this
      exact this
    have : (a.length : Int) ≤ (2 ^ 63 - 1) / n := by
      rw [Int.le_ediv_iff_mul_le (by omega)]
      omega
    omega
  · intro hn _
    rw [ha]
    exact decide_eq_false (by omega)
  · by_cases hn : n < 1
    · rw [if_pos hn]
      refine ⟨by decide, .str (txt (List.replicate n.toNat a).flatten), H, I.tok _, ⟨s.toks, ?_⟩, q⟩
      have e0 : n.toNat = 0 := by omega
      rw [e0]; rfl
    · rw [if_neg hn]
      by_cases hk : (n == 1 || (txt a).length == 0) = true
      · rw [if_pos hk]
        refine ⟨.str (txt (List.replicate n.toNat a).flatten), H, I, ⟨t, ?_⟩, q⟩
        rw [Bool.or_eq_true, beq_iff_eq, beq_iff_eq, ha] at hk
        rcases hk with hk | hk
        · subst hk; simp [txt]
        · have : a = [] := List.length_eq_zero_iff.mp hk
          subst this; simp [txt]
      · rw [if_neg hk]
        refine ⟨?_, .str (txt (List.replicate n.toNat a).flatten), H, I.tok _, ⟨s.toks, ?_⟩, q⟩
        · show (⟨(List.replicate n.toNat (txt a).cps).foldl (· ++ ·) #[]⟩ : Str).length ≤ _
          rw [foldl_app]
          simp [txt, Str.length]
          rw [Nat.mul_comm]
          omega
        · rw [foldl_app]; simp [txt]
end

section
variable {X : Cx} {T : Tb} {W : WX} {σ : L2.St} {H G : Hp} {x y : D} {v w : V} {Q : VK}
/-! ### + - * // % ** -/
def rAddT (K : PySem.W.Frag) : R2 := fun x y H Q => (∃ i j, x = .int i ∧ y = .int j ∧ Q (.int (i + j)) H) ∨ (∃ i j, x = .str i ∧ y = .str j ∧ i.length + j.length ≤ sizeLine ∧ Q (.str (i ++ j)) H) ∨ rCat x y H Q ∨ rCatA K x y H Q
theorem op_addT : OpR X (binaryOp .Add) (rAddT X.K) := OpR.or op_add (OpR.or op_add_str (OpR.or op_cat op_catA))
theorem add_ok (s : Same G H) (rx : RepR T X.K H G x v) (ry : RepR T X.K H G y w) (p : Pv T X.K W σ H G (dAdd x y) Q) : rAddT X.K v w H Q := by
  cases x <;> cases y <;> try exact False.elim p
  · rw [rx.int, ry.int]
    exact .inl ⟨_, _, rfl, rfl, pv_int p s⟩
  · rename_i a b
    rw [rx.str, ry.str]
    obtain ⟨hl, p⟩ := pif p
    rw [LIM_eq] at hl
    exact .inr (.inl ⟨_, _, rfl, rfl, by rw [txt_len, txt_len]; exact hl, by rw [txt_app]; exact pv_str p s⟩)
  · rename_i a b
    obtain ⟨p1, xs, rfl, h1, r1⟩ := rx.tup s
    obtain ⟨p2, ys, rfl, h2, r2⟩ := ry.tup s
    obtain ⟨hl, p⟩ := pif p
    rw [LIM_eq, r1.length, r2.length] at hl
    refine .inr (.inr (.inr ⟨p1, p2, xs, ys, rfl, rfl, h1, h2, hl, fun e => ?_, fun _ e => ?_, fun _ _ q hq => ?_⟩))
    · subst e
      have : a = [] := List.length_eq_zero_iff.mp (by rw [r1.length]; rfl)
      subst this
      exact p _ _ _ (.refl s) ry
    · subst e
      have : b = [] := List.length_eq_zero_iff.mp (by rw [r2.length]; rfl)
      subst this
      rw [List.append_nil] at p
      exact p _ _ _ (.refl s) rx
    · exact post_tup p s (r1.append r2) q hq
  · rename_i a b
    obtain ⟨p1, xs, rfl, h1, r1⟩ := rx.lst
    obtain ⟨p2, ys, rfl, h2, r2⟩ := ry.lst
    obtain ⟨hl, p⟩ := pif p
    rw [LIM_eq, r1.length, r2.length] at hl
    exact .inr (.inr (.inl ⟨p1, p2, xs, ys, rfl, rfl, h1, h2, hl, post_lst p s (r1.append r2)⟩))
theorem addF_ok {HB : Hp} (sb : Same HB H) (s : Same G H) (rx : RepR T X.K H G x v) (ry : RepR T X.K H G y w) (p : PostG T X.K (RF T X.K HB) W σ H G ((dAdd x y).bd onlyL) Q) : rCat v w H Q := by
  cases x <;> cases y <;> try exact False.elim p
  all_goals
    rename_i a b
    first
      | (obtain ⟨hl, p⟩ := pifb p)
      | skip
    try exact False.elim p
  obtain ⟨p1, xs, rfl, h1, r1⟩ := rx.lst
  obtain ⟨p2, ys, rfl, h2, r2⟩ := ry.lst
  rw [LIM_eq, r1.length, r2.length] at hl
  exact ⟨p1, p2, xs, ys, rfl, rfl, h1, h2, hl, postF_lst p sb s (r1.append r2)⟩
theorem op_subT : OpR X (binaryOp .Sub) (rI0 fun i j => .int (i - j)) := op_sub
def rMulT (K : PySem.W.Frag) : R2 := fun x y H Q => rI CMulW (fun i j => .int (i * j)) x y H Q ∨ rMulS x y H Q ∨ rRep x y H Q
theorem op_mulT : OpR X (binaryOp .Mult) (rMulT X.K) := OpR.or op_mulW (OpR.or op_mulS op_rep)
theorem mul_ok (s : Same G H) (rx : RepR T X.K H G x v) (ry : RepR T X.K H G y w) (p : Pv T X.K W σ H G (dMul x y) Q) : rMulT X.K v w H Q := by
  cases x <;> cases y <;> try exact False.elim p
  all_goals
    rename_i a b
    obtain ⟨hl, p⟩ := pif p
  · rw [rx.int, ry.int]
    exact .inl ⟨_, _, rfl, rfl, wide_mul (a := 4000) (b := 4000) hl.1 hl.2 (by decide) (by decide) (by decide), pv_int p s⟩
  · rw [rx.str, ry.int]
    rw [LIM_eq] at hl
    exact .inr (.inl ⟨a, b, rfl, rfl, hl.1, hl.2.1, hl.2.2, pv_str p s⟩)
  · obtain ⟨p1, xs, rfl, h1, r1⟩ := rx.lst
    rw [ry.int]
    rw [LIM_eq, r1.length] at hl
    exact .inr (.inr ⟨p1, b, xs, rfl, rfl, h1, by omega, by omega, hl.2.2, post_lst p s (r1.replicate _)⟩)
theorem mulF_ok {HB : Hp} (sb : Same HB H) (s : Same G H) (rx : RepR T X.K H G x v) (ry : RepR T X.K H G y w) (p : PostG T X.K (RF T X.K HB) W σ H G ((dMul x y).bd onlyL) Q) : rRep v w H Q := by
  cases x <;> cases y <;> try exact False.elim p
  all_goals
    rename_i a b
    obtain ⟨hl, p⟩ := pifb p
    try exact False.elim p
  obtain ⟨p1, xs, rfl, h1, r1⟩ := rx.lst
  rw [ry.int]
  rw [LIM_eq, r1.length] at hl
  exact ⟨p1, b, xs, rfl, rfl, h1, by omega, by omega, hl.2.2, postF_lst p sb s (r1.replicate _)⟩
theorem BIG_eq : BIG = 2 ^ 4000 := rfl
def op2A : Op2 → D → D → Res D := op2
theorem sub_ok (s : Same G H) (rx : RepR T X.K H G x v) (ry : RepR T X.K H G y w) (p : Pv T X.K W σ H G (op2 .sub x y) Q) : rI0 (fun i j => .int (i - j)) v w H Q := by
  cases x <;> cases y <;> try exact False.elim p
  rw [rx.int, ry.int]
  exact ⟨_, _, rfl, rfl, pv_int p s⟩
theorem fdiv_ok (s : Same G H) (rx : RepR T X.K H G x v) (ry : RepR T X.K H G y w) (p : Pv T X.K W σ H G (op2 .fdiv x y) Q) : rI CDivW (fun i j => .int (i / j)) v w H Q := by
  cases x <;> cases y <;> try exact False.elim p
  obtain ⟨hl, p⟩ := pif p
  rw [rx.int, ry.int]
  exact ⟨_, _, rfl, rfl, wide_div (b := 4000) hl.1 hl.2 (by decide) (by decide), pv_int p s⟩
theorem mod_ok (s : Same G H) (rx : RepR T X.K H G x v) (ry : RepR T X.K H G y w) (p : Pv T X.K W σ H G (op2 .mod x y) Q) : rI (fun _ j => 0 < j) (fun i j => .int (i % j)) v w H Q := by
  cases x <;> cases y <;> try exact False.elim p
  obtain ⟨hl, p⟩ := pif p
  rw [rx.int, ry.int]
  exact ⟨_, _, rfl, rfl, hl, pv_int p s⟩
theorem pow_ok (s : Same G H) (rx : RepR T X.K H G x v) (ry : RepR T X.K H G y w) (p : Pv T X.K W σ H G (op2 .pow x y) Q) : rI CPow (fun i j => .int (i ^ j.toNat)) v w H Q := by
  cases x <;> cases y <;> try exact False.elim p
  obtain ⟨hl, p⟩ := pif p
  rw [rx.int, ry.int]
  exact ⟨_, _, rfl, rfl, ⟨hl.1, hl.2.1, hl.2.2⟩, pv_int p s⟩
/-! ### < <= > >= of ints -/
theorem lt_ok (s : Same G H) (rx : RepR T X.K H G x v) (ry : RepR T X.K H G y w) (p : Pv T X.K W σ H G (op2 .lt x y) Q) : rI0 (fun i j => .bl (decide (i < j))) v w H Q := by
  cases x <;> cases y <;> try exact False.elim p
  rw [rx.int, ry.int]
  exact ⟨_, _, rfl, rfl, pv_bl p s⟩
theorem le_ok (s : Same G H) (rx : RepR T X.K H G x v) (ry : RepR T X.K H G y w) (p : Pv T X.K W σ H G (op2 .le x y) Q) : rI0 (fun i j => .bl (decide (i ≤ j))) v w H Q := by
  cases x <;> cases y <;> try exact False.elim p
  rw [rx.int, ry.int]
  exact ⟨_, _, rfl, rfl, pv_bl p s⟩
theorem gt_ok (s : Same G H) (rx : RepR T X.K H G x v) (ry : RepR T X.K H G y w) (p : Pv T X.K W σ H G (op2 .gt x y) Q) : rI0 (fun i j => .bl (decide (j < i))) v w H Q := by
  cases x <;> cases y <;> try exact False.elim p
  rw [rx.int, ry.int]
  exact ⟨_, _, rfl, rfl, pv_bl p s⟩
theorem ge_ok (s : Same G H) (rx : RepR T X.K H G x v) (ry : RepR T X.K H G y w) (p : Pv T X.K W σ H G (op2 .ge x y) Q) : rI0 (fun i j => .bl (decide (j ≤ i))) v w H Q := by
  cases x <;> cases y <;> try exact False.elim p
  rw [rx.int, ry.int]
  exact ⟨_, _, rfl, rfl, pv_bl p s⟩
end
/-! ### == of data -/
mutual
def toPy : D → PyData
  | .non => .none
  | .bl b => .bool b
  | .int i => .int i
  | .str s => .str (txt s)
  | .lst l => .list (toPyL l)
  | .tup l => .tuple (toPyL l)
  | _ => .none
def toPyL : List D → List PyData
  | [] => []
  | x :: r => toPy x :: toPyL r
end
section
variable {T : Tb} {K : PySem.W.Frag} {H G : Hp}
mutual
theorem dp_of (s : Same G H) : ∀ (d : D) (k : Nat) (v : V), plain d k = true → Rep T K G d v → Dp K H v (toPy d)
  | .non, _, _, _, r => by rw [r.non]; exact .non
  | .bl b, _, _, _, r => by rw [r.bl]; exact .bl b
  | .int b, _, _, _, r => by rw [r.int]; exact .int b
  | .str b, _, _, _, r => by rw [r.str]; exact .str _
  | .lst l, 0, _, h, _ => by simp [plain] at h
  | .lst l, k + 1, _, h, r => by
    obtain ⟨a, xs, rfl, h1, h2⟩ := r.lst
    exact .lst (SqL.of (s _ _ h1)) (dpL_of s l k xs (by simpa [plain] using h) h2)
  | .tup l, 0, _, h, _ => by simp [plain] at h
  | .tup l, k + 1, _, h, r => by
    obtain ⟨a, xs, rfl, h1, h2⟩ := r.tup
    exact .tup (Same.sqt s h1) (dpL_of s l k xs (by simpa [plain] using h) h2)
  | .dic _ _, _, _, h, _ => by simp [plain] at h
  | .set _, _, _, h, _ => by simp [plain] at h
  | .ins _ _, _, _, h, _ => by simp [plain] at h
  | .exc _ _, _, _, h, _ => by simp [plain] at h
  | .scr _, _, _, h, _ => by simp [plain] at h
theorem dpL_of (s : Same G H) : ∀ (l : List D) (k : Nat) (xs : List V), plainL l k = true → RepL T K G l xs → DpAll K H xs (toPyL l)
  | [], _, _, _, r => by rw [r.nil_inv]; exact .nil
  | d :: ds, k, _, h, r => by
    obtain ⟨x, q, rfl, h1, h2⟩ := r.cons_inv
    simp only [plainL, Bool.and_eq_true] at h
    exact .cons (dp_of s d k x h.1 h1) (dpL_of s ds k q h.2 h2)
end
theorem dp_ofR (s : Same G H) {d : D} {k : Nat} {v : V} (h : plain d k = true) (r : RepR T K H G d v) : Dp K H v (toPy d) := by
  by_cases q : ∃ l, d = .lst l
  · obtain ⟨l, rfl⟩ := q
    obtain ⟨a, xs, rfl, h1, h2⟩ := RepR.lst r
    cases k with
    | zero => simp [plain] at h
    | succ k => exact .lst (SqL.of h1) (dpL_of s _ k xs (by simpa [plain] using h) h2)
  · cases d <;> first | exact absurd ⟨_, rfl⟩ q | exact dp_of (T := T) s _ k _ h r | (exact absurd h (by cases k <;> simp [plain]))
mutual
theorem canLay : ∀ (d : D) (k : Nat), plain d k = true → (toPy d).canLay0 = true
  | .non, _, _ => by simp [toPy, PyData.canLay0]
  | .bl b, _, _ => by simp [toPy, PyData.canLay0]
  | .int b, _, _ => by simp [toPy, PyData.canLay0]
  | .str b, _, h => by simpa [toPy, PyData.canLay0, PyData.strOk, txt, plain] using h
  | .lst l, 0, h => by simp [plain] at h
  | .lst l, k + 1, h => by simpa [toPy, PyData.canLay0] using canLayL l k (by simpa [plain] using h)
  | .tup l, 0, h => by simp [plain] at h
  | .tup l, k + 1, h => by simpa [toPy, PyData.canLay0] using canLayL l k (by simpa [plain] using h)
  | .dic _ _, _, h => by simp [plain] at h
  | .set _, _, h => by simp [plain] at h
  | .ins _ _, _, h => by simp [plain] at h
  | .exc _ _, _, h => by simp [plain] at h
  | .scr _, _, h => by simp [plain] at h
theorem canLayL : ∀ (l : List D) (k : Nat), plainL l k = true → PyData.canLayAll0 (toPyL l) = true
  | [], _, _ => by simp [toPyL, PyData.canLayAll0]
  | d :: ds, k, h => by
    simp only [plainL, Bool.and_eq_true] at h
    simp [toPyL, PyData.canLayAll0, canLay d k h.1, canLayL ds k h.2]
end
mutual
theorem dep : ∀ (d : D) (k : Nat), plain d k = true → (toPy d).depth ≤ k
  | .non, _, _ => by simp [toPy, PyData.depth]
  | .bl b, _, _ => by simp [toPy, PyData.depth]
  | .int b, _, _ => by simp [toPy, PyData.depth]
  | .str b, _, _ => by simp [toPy, PyData.depth]
  | .lst l, 0, h => by simp [plain] at h
  | .lst l, k + 1, h => by
    have := depL l k (by simpa [plain] using h)
    simp only [toPy, PyData.depth]; omega
  | .tup l, 0, h => by simp [plain] at h
  | .tup l, k + 1, h => by
    have := depL l k (by simpa [plain] using h)
    simp only [toPy, PyData.depth]; omega
  | .dic _ _, _, h => by simp [plain] at h
  | .set _, _, h => by simp [plain] at h
  | .ins _ _, _, h => by simp [plain] at h
  | .exc _ _, _, h => by simp [plain] at h
  | .scr _, _, h => by simp [plain] at h
theorem depL : ∀ (l : List D) (k : Nat), plainL l k = true → PyData.depthAll (toPyL l) ≤ k
  | [], _, _ => by simp [toPyL, PyData.depthAll]
  | d :: ds, k, h => by
    simp only [plainL, Bool.and_eq_true] at h
    have h1 := dep d k h.1
    have h2 := depL ds k h.2
    simp only [toPyL, PyData.depthAll]; omega
end
theorem shaped_of {d : D} (h : plain d 60 = true) : SeqAt.shaped (toPy d) = true := by
  unfold SeqAt.shaped
  rw [canLay d 60 h, Bool.true_and]
  exact decide_eq_true (Nat.le_trans (dep d 60 h) (by decide))
theorem txt_beq (a b : List Nat) : (txt a == txt b) = (a == b) := by
  by_cases h : a = b
  · subst h; simp
  · have h2 : ¬ txt a = txt b := fun e => h (txt_inj e)
    rw [beq_eq_false_iff_ne.mpr h, beq_eq_false_iff_ne.mpr h2]
mutual
theorem eqv_py : ∀ (a b : D) (k j : Nat), plain a k = true → plain b j = true → PyData.eqv (toPy a) (toPy b) = eqv a b
  | .non, b, _, j, _, hb => by cases b <;> simp [toPy, PyData.eqv, eqv, plain] at hb ⊢
  | .bl a, b, _, j, _, hb => by cases b <;> simp [toPy, PyData.eqv, eqv, plain] at hb ⊢
  | .int a, b, _, j, _, hb => by cases b <;> simp [toPy, PyData.eqv, eqv, plain] at hb ⊢
  | .str a, b, _, j, _, hb => by cases b <;> simp [toPy, PyData.eqv, eqv, plain, txt_beq] at hb ⊢
  | .lst a, .lst b, 0, _, ha, _ => by simp [plain] at ha
  | .lst a, .lst b, _, 0, _, hb => by simp [plain] at hb
  | .lst a, .lst b, k + 1, j + 1, ha, hb => by simpa [toPy, PyData.eqv, eqv] using eqvL_py a b k j (by simpa [plain] using ha) (by simpa [plain] using hb)
  | .tup a, .tup b, 0, _, ha, _ => by simp [plain] at ha
  | .tup a, .tup b, _, 0, _, hb => by simp [plain] at hb
  | .tup a, .tup b, k + 1, j + 1, ha, hb => by simpa [toPy, PyData.eqv, eqv] using eqvL_py a b k j (by simpa [plain] using ha) (by simpa [plain] using hb)
  | .lst a, .non, _, _, _, _ => by simp [toPy, PyData.eqv, eqv]
  | .lst a, .bl _, _, _, _, _ => by simp [toPy, PyData.eqv, eqv]
  | .lst a, .int _, _, _, _, _ => by simp [toPy, PyData.eqv, eqv]
  | .lst a, .str _, _, _, _, _ => by simp [toPy, PyData.eqv, eqv]
  | .lst a, .tup _, _, _, _, _ => by simp [toPy, PyData.eqv, eqv]
  | .tup a, .non, _, _, _, _ => by simp [toPy, PyData.eqv, eqv]
  | .tup a, .bl _, _, _, _, _ => by simp [toPy, PyData.eqv, eqv]
  | .tup a, .int _, _, _, _, _ => by simp [toPy, PyData.eqv, eqv]
  | .tup a, .str _, _, _, _, _ => by simp [toPy, PyData.eqv, eqv]
  | .tup a, .lst _, _, _, _, _ => by simp [toPy, PyData.eqv, eqv]
  | .lst _, .dic _ _, _, _, _, h => by simp [plain] at h
  | .lst _, .set _, _, _, _, h => by simp [plain] at h
  | .lst _, .ins _ _, _, _, _, h => by simp [plain] at h
  | .lst _, .exc _ _, _, _, _, h => by simp [plain] at h
  | .lst _, .scr _, _, _, _, h => by simp [plain] at h
  | .tup _, .dic _ _, _, _, _, h => by simp [plain] at h
  | .tup _, .set _, _, _, _, h => by simp [plain] at h
  | .tup _, .ins _ _, _, _, _, h => by simp [plain] at h
  | .tup _, .exc _ _, _, _, _, h => by simp [plain] at h
  | .tup _, .scr _, _, _, _, h => by simp [plain] at h
  | .dic _ _, _, _, _, h, _ => by simp [plain] at h
  | .set _, _, _, _, h, _ => by simp [plain] at h
  | .ins _ _, _, _, _, h, _ => by simp [plain] at h
  | .exc _ _, _, _, _, h, _ => by simp [plain] at h
  | .scr _, _, _, _, h, _ => by simp [plain] at h
theorem eqvL_py : ∀ (a b : List D) (k j : Nat), plainL a k = true → plainL b j = true → PyData.eqvAll (toPyL a) (toPyL b) = eqvL a b
  | [], [], _, _, _, _ => by simp [toPyL, PyData.eqvAll, eqvL]
  | [], _ :: _, _, _, _, _ => by simp [toPyL, PyData.eqvAll, eqvL]
  | _ :: _, [], _, _, _, _ => by simp [toPyL, PyData.eqvAll, eqvL]
  | x :: xs, y :: ys, k, j, ha, hb => by
    simp only [plainL, Bool.and_eq_true] at ha hb
    simp [toPyL, PyData.eqvAll, eqvL, eqv_py x y k j ha.1 hb.1, eqvL_py xs ys k j ha.2 hb.2]
end
end
section
variable {X : Cx} {T : Tb} {W : WX} {σ : L2.St} {H G : Hp} {x y : D} {v w : V} {Q : VK}
def rEqT (K : PySem.W.Frag) : R2 := fun x y H Q => rEq x y H Q ∨ rEqD K x y H Q
def rNeT (K : PySem.W.Frag) : R2 := fun x y H Q => rNe x y H Q ∨ rNeD K x y H Q
theorem op_eqT (hu : X.A.units + 64 < cLine) : OpR X (compareOp .Eq) (rEqT X.K) := OpR.or op_eq (op_eqD hu)
theorem op_neT (hu : X.A.units + 64 < cLine) : OpR X (compareOp .NotEq) (rNeT X.K) := OpR.or op_ne (op_neD hu)
theorem dec_txt (a b : List Nat) : decide (V.str (txt a) = V.str (txt b)) = (a == b) := by
  by_cases h : a = b
  · subst h; simp
  · have h2 : ¬ V.str (txt a) = V.str (txt b) := fun e => h (txt_inj (V.str.inj e))
    rw [decide_eq_false h2, beq_eq_false_iff_ne.mpr h]
theorem eq_ok (s : Same G H) (rx : RepR T X.K H G x v) (ry : RepR T X.K H G y w) (p : Pv T X.K W σ H G (op2 .eq x y) Q) : rEqT X.K v w H Q := by
  by_cases e : ∃ a b, x = .str a ∧ y = .str b
  · obtain ⟨a, b, rfl, rfl⟩ := e
    rw [rx.str, ry.str]
    exact .inl ⟨rfl, by rw [dec_txt]; exact pv_bl p s⟩
  rw [show op2 .eq x y = if plain x 60 ∧ plain y 60 then .ok (.bl (eqv x y)) else .bad by cases x <;> cases y <;> first | rfl | exact absurd ⟨_, _, rfl, rfl⟩ e] at p
  right
  obtain ⟨h, p⟩ := pif p
  exact ⟨toPy x, toPy y, dp_ofR s h.1 rx, dp_ofR s h.2 ry, shaped_of h.1, shaped_of h.2, by rw [eqv_py x y 60 60 h.1 h.2]; exact pv_bl p s⟩
theorem ne_ok (s : Same G H) (rx : RepR T X.K H G x v) (ry : RepR T X.K H G y w) (p : Pv T X.K W σ H G (op2 .ne x y) Q) : rNeT X.K v w H Q := by
  by_cases e : ∃ a b, x = .str a ∧ y = .str b
  · obtain ⟨a, b, rfl, rfl⟩ := e
    rw [rx.str, ry.str]
    exact .inl ⟨rfl, by rw [dec_txt]; exact pv_bl p s⟩
  rw [show op2 .ne x y = if plain x 60 ∧ plain y 60 then .ok (.bl (!eqv x y)) else .bad by cases x <;> cases y <;> first | rfl | exact absurd ⟨_, _, rfl, rfl⟩ e] at p
  right
  obtain ⟨h, p⟩ := pif p
  exact ⟨toPy x, toPy y, dp_ofR s h.1 rx, dp_ofR s h.2 ry, shaped_of h.1, shaped_of h.2, by rw [eqv_py x y 60 60 h.1 h.2]; exact pv_bl p s⟩
/-! ### dicts -/
theorem keq_dec {a b : D} {j k : Key} (h1 : kOf a = some j) (h2 : kOf b = some k) : keq a b = decide (j = k) := by
  cases a <;> first | (cases h1; done) | skip
  all_goals cases b <;> first | (cases h2; done) | skip
  all_goals
    cases h1
    cases h2
  · rename_i x y
    by_cases h : x = y
    · subst h; simp [keq]
    · simp [keq, h]
  · simp [keq]
  · simp [keq]
  · rename_i x y
    by_cases h : x = y
    · subst h; simp [keq]
    · have : ¬ txt x = txt y := fun e => h (txt_inj e)
      simp [keq, h, this]
theorem isKey_k {x : D} (h : isKey x = true) : ∃ k, kOf x = some k := by
  cases x <;> first | exact ⟨_, rfl⟩ | cases h
theorem kOf_v {x : D} {k : Key} (h : kOf x = some k) (r : RepR T X.K H G x v) : v = kV k := by
  cases x <;> first | (cases h; done) | skip
  · cases h; exact r.int
  · cases h; exact r.str
theorem key_rep {x : D} (h : isKey x = true) (r : RepR T X.K H G x v) : Rep T X.K G x v := by
  cases x <;> first | exact r | cases h
theorem dHas_ok {x : D} {k : Key} (hk : kOf x = some k) : ∀ {ks : List D} {kvs : List (Key × V)}, ks.map kOf = kvs.map (fun p => some p.1) → dHas ks x = (valV kvs k).isSome
  | [], [], _ => rfl
  | [], _ :: _, h => by simp at h
  | _ :: _, [], h => by simp at h
  | z :: ks, p :: kvs, h => by
    simp only [List.map_cons, List.cons.injEq] at h
    have ih := dHas_ok hk h.2
    unfold dHas at ih ⊢
    rw [List.any_cons, keq_dec h.1 hk]
    by_cases e : p.1 = k
    · rw [valV_pos e]; simp [e]
    · rw [valV_neg e, ← ih]; simp [e]
theorem dPutV_ok {x d : D} {k : Key} {u : V} (hk : kOf x = some k) (rd : Rep T X.K G d u) : ∀ {ks vs : List D} {kvs : List (Key × V)}, ks.map kOf = kvs.map (fun p => some p.1) → RepL T X.K G vs (kvs.map (·.2)) →
    RepL T X.K G (dPutV ks vs x d) ((kvs.map fun kv => if kv.1 = k then (kv.1, u) else kv).map (·.2))
  | [], vs, [], _, r => by
    rw [show dPutV [] vs x d = [] by cases vs <;> rfl]
    exact .nil
  | [], _, _ :: _, h, _ => by simp at h
  | _ :: _, _, [], h, _ => by simp at h
  | z :: ks, [], p :: kvs, h, r => by have := r.nil_inv; simp at this
  | z :: ks, w :: vs, p :: kvs, h, r => by
    simp only [List.map_cons, List.cons.injEq] at h
    obtain ⟨y, q, e, h1, h2⟩ := r.cons_inv
    simp only [List.map_cons, List.cons.injEq] at e
    obtain ⟨e1, e2⟩ := e
    subst e1 e2
    simp only [dPutV, List.map_cons]
    refine .cons ?_ (dPutV_ok hk rd h.2 h2)
    rw [keq_dec h.1 hk]
    by_cases e : p.1 = k
    · simp [e]; exact rd
    · simp [e]; exact h1
theorem dPut_ok {x d : D} {k : Key} {u : V} (hk : kOf x = some k) (rd : Rep T X.K G d u) {ks vs : List D} {kvs : List (Key × V)} (h : ks.map kOf = kvs.map (fun p => some p.1)) (r : RepL T X.K G vs (kvs.map (·.2))) : OwnO T X.K G (.dK (putK kvs k u)) (dPut ks vs x d) := by
  have hh := dHas_ok hk h
  have ha := valV_any k kvs
  unfold dPut putK
  rw [ha, ← hh]
  by_cases q : dHas ks x = true
  · rw [if_pos q, if_pos q]
    refine ⟨_, rfl, ?_, dPutV_ok hk rd h r⟩
    rw [h, List.map_map]
    apply List.map_congr_left
    intro p _
    by_cases e : p.1 = k <;> simp [e]
  · rw [if_neg q, if_neg q]
    refine ⟨_, rfl, ?_, ?_⟩
    · simp [h, hk]
    · rw [List.map_append]
      exact r.append (.cons rd .nil)
/-! ### in -/
theorem flatL_v : ∀ {l : List D} {xs : List V}, RepL T X.K G l xs → l.all flat = true → xs.all flatV = true
  | [], _, r, _ => by rw [r.nil_inv]; rfl
  | d :: ds, _, r, h => by
    obtain ⟨x, q, rfl, h1, h2⟩ := r.cons_inv
    rw [List.all_cons, Bool.and_eq_true] at h ⊢
    refine ⟨?_, flatL_v h2 h.2⟩
    cases d <;> first | (rw [h1.non]; rfl) | (rw [h1.bl]; rfl) | (rw [h1.int]; rfl) | (rw [h1.str]; rfl) | (exact absurd h.1 (by simp [flat]))
theorem flat_v {d : D} {v : V} (r : Rep T X.K G d v) (h : flat d = true) : flatV v = true := by
  cases d <;> first | (rw [r.non]; rfl) | (rw [r.bl]; rfl) | (rw [r.int]; rfl) | (rw [r.str]; rfl) | (exact absurd h (by simp [flat]))
theorem eqv_v {a b : D} {v w : V} (r : Rep T X.K G a v) (r2 : Rep T X.K G b w) (h : flat a = true) (h2 : flat b = true) : eqV v w = eqv a b := by
  cases a <;> first | (exact Bool.noConfusion (show false = true from h)) | skip
  all_goals cases b <;> first | (exact Bool.noConfusion (show false = true from h2)) | skip
  all_goals
    simp only [rep_non, rep_bl, rep_int, rep_str] at r r2
    subst r r2
    simp [eqV, eqv, txt_beq]
theorem inv_v {x : D} {v : V} (r : Rep T X.K G x v) (h : flat x = true) : ∀ {l : List D} {xs : List V}, RepL T X.K G l xs → l.all flat = true → inV v xs = l.any fun y => eqv y x
  | [], _, r2, _ => by rw [r2.nil_inv]; rfl
  | d :: ds, _, r2, h3 => by
    obtain ⟨z, q, rfl, h1, h2⟩ := r2.cons_inv
    rw [List.all_cons, Bool.and_eq_true] at h3
    have ih := inv_v r h h2 h3.2
    show ((eqV z v) || q.any fun y => eqV y v) = _
    rw [List.any_cons, eqv_v h1 r h3.1 h, ← ih]
    rfl
def rInT (K : PySem.W.Frag) (neg : Bool) : R2 := fun x y H Q => (∃ (c : Nat) (z : Str), x = .str ⟨#[c]⟩ ∧ y = .str z ∧ Q (.bl (if neg then !decide (c ∈ z.cps.toList) else decide (c ∈ z.cps.toList))) H) ∨ rIn K neg x y H Q ∨
  (∃ d ds, Dp K H x d ∧ Dp K H y (.list ds) ∧ SeqAt.shaped d = true ∧ SeqAt.shaped (.list ds) = true ∧ Q (.bl (if neg then !ds.any fun z => PyData.eqv z d else ds.any fun z => PyData.eqv z d)) H) ∨
  ∃ a o, y = .ref a ∧ DGet H a x o ∧ Q (.bl (if neg then !o.isSome else o.isSome)) H
theorem op_inDk (hu : X.A.units + 65 < cLine) : OpR X (compareOp .In) (fun x y H Q => ∃ a o, y = .ref a ∧ DGet H a x o ∧ Q (.bl (if false = true then !o.isSome else o.isSome)) H) := by
  intro pins s σ H x y v u Q I rx ry ⟨a, o, ey, g, q⟩
  subst ey
  obtain rfl : u = Value.ref a := ry
  exact d_in (by omega) I g rx fun s' I' => ⟨.bl o.isSome, H, I', rfl, q⟩
theorem op_notInDk (hu : X.A.units + 65 < cLine) : OpR X (compareOp .NotIn) (fun x y H Q => ∃ a o, y = .ref a ∧ DGet H a x o ∧ Q (.bl (if true = true then !o.isSome else o.isSome)) H) := by
  intro pins s σ H x y v u Q I rx ry ⟨a, o, ey, g, q⟩
  subst ey
  obtain rfl : u = Value.ref a := ry
  exact d_notIn (by omega) I g rx fun s' I' => ⟨.bl (!o.isSome), H, I', rfl, q⟩
theorem op_inT (hu : X.A.units + 65 < cLine) : OpR X (compareOp .In) (rInT X.K false) := OpR.or op_in_sign (OpR.or op_in_seq (OpR.or (op_inD hu) (op_inDk hu)))
theorem op_notInT (hu : X.A.units + 65 < cLine) : OpR X (compareOp .NotIn) (rInT X.K true) := OpR.or op_notIn_sign (OpR.or op_notIn_seq (OpR.or (op_notInD hu) (op_notInDk hu)))
theorem anyPy {x : D} (hx : plain x 60 = true) : ∀ (l : List D) (k : Nat), plainL l k = true → ((toPyL l).any fun z => PyData.eqv z (toPy x)) = l.any fun y => eqv y x
  | [], _, _ => rfl
  | d :: ds, k, h => by
    simp only [plainL, Bool.and_eq_true] at h
    simp only [toPyL, List.any_cons, eqv_py d x k 60 h.1 hx, anyPy hx ds k h.2]
theorem in_ok {neg : Bool} (s : Same G H) (rx : RepR T X.K H G x v) (ry : RepR T X.K H G y w) (p : Pv T X.K W σ H G ((inD x y).bd fun b => .ok (.bl (if neg then !b else b))) Q) : rInT X.K neg v w H Q := by
  cases y <;> try exact False.elim p
  · rename_i b
    cases x <;> try exact False.elim p
    rename_i a
    rcases a with _ | ⟨c, _ | ⟨c2, a⟩⟩ <;> try exact False.elim p
    rw [rx.str, ry.str]
    refine .inl ⟨c, txt b, rfl, rfl, ?_⟩
    rw [txt_list]
    have q := pv_bl (T := T) (K := X.K) p s
    have e : b.contains c = decide (c ∈ b) := by simp
    rw [e] at q
    exact q
  · rename_i l
    obtain ⟨h, p⟩ := pifb p
    obtain ⟨a, xs, rfl, h1, r1⟩ := ry.tup s
    have rx' : Rep T X.K G x v := by cases x <;> first | exact rx | exact absurd h.1 (by simp [flat])
    refine .inr (.inl ⟨a, xs, rfl, .inr h1, flat_v rx' h.1, flatL_v r1 h.2, ?_⟩)
    rw [inv_v rx' h.1 r1 h.2]
    exact pv_bl p s
  · rename_i l
    obtain ⟨a, xs, rfl, h1, r1⟩ := ry.lst
    have p' : Pv T X.K W σ H G ((if flat x ∧ l.all flat then Res.ok (l.any fun y => eqv y x) else if plain x 60 ∧ plain (.lst l) 60 then Res.ok (l.any fun y => eqv y x) else Res.bad).bd fun b => Res.ok (D.bl (if neg then !b else b))) Q := p
    clear p
    have p := p'
    clear p'
    split at p
    · rename_i h
      have rx' : Rep T X.K G x v := by cases x <;> first | exact rx | exact absurd h.1 (by simp [flat])
      refine .inr (.inl ⟨a, xs, rfl, .inl (SqL.of h1), flat_v rx' h.1, flatL_v r1 h.2, ?_⟩)
      rw [inv_v rx' h.1 r1 h.2]
      exact pv_bl p s
    · obtain ⟨h, p⟩ := pifb p
      have h2 : plainL l 59 = true := by have := h.2; simpa [plain] using this
      refine .inr (.inr (.inl ⟨toPy x, toPyL l, dp_ofR s h.1 rx, by simpa [toPy] using dp_ofR s h.2 ry, shaped_of h.1, by simpa [toPy] using shaped_of h.2, ?_⟩))
      rw [anyPy h.1 l 59 h2]
      exact pv_bl p s
  · rename_i ks vs
    have p' : Pv T X.K W σ H G ((if isKey x = true then Res.ok (dHas ks x) else Res.bad).bd fun b => Res.ok (D.bl (if neg then !b else b))) Q := p
    obtain ⟨h, p2⟩ := pifb p'
    obtain ⟨k, hk⟩ := isKey_k h
    obtain ⟨a, kvs, rfl, h1, h2, h3⟩ := (show ∃ a kvs, w = .ref a ∧ H a = some (.dK kvs) ∧ ks.map kOf = kvs.map (fun p => some p.1) ∧ RepL T X.K G vs (kvs.map (·.2)) from ry)
    have e := kOf_v hk rx
    subst e
    refine .inr (.inr (.inr ⟨a, _, rfl, DGet.k h1, ?_⟩))
    rw [← dHas_ok hk h2]
    exact pv_bl p2 s
end
end E

set_option autoImplicit false
set_option linter.all false
set_option Elab.async false
set_option maxRecDepth 100000
/-! E4: rules of expressions. -/
namespace E
open PySem PySem.Spec PyProof.Rows L2

/-! ### operators -/
def binO : Op2 → Option Operator
  | .add => some .Add | .sub => some .Sub | .mul => some .Mult | .fdiv => some .FloorDiv | .mod => some .Mod | .pow => some .Pow | _ => none
def cmpO : Op2 → Option CmpOp
  | .eq => some .Eq | .ne => some .NotEq | .lt => some .Lt | .le => some .LtE | .gt => some .Gt | .ge => some .GtE | .in_ => some .In | .notIn => some .NotIn | _ => none
structure OpI (X : Cx) (T : Tb) (o : Op2) (f : Value → Value → Sem Value) : Prop where
  ex : ∃ r : R2, OpR X f r ∧ ∀ (W : WX) (σ : L2.St) (H G : Hp) (x y : D) (v w : V) (Q : VK), Same G H → RepR T X.K H G x v → RepR T X.K H G y w → Pv T X.K W σ H G (op2 o x y) Q → r v w H Q
section
variable {X : Cx} {T : Tb} {W : WX} {O : List Nat} {σ : L2.St} {H G : Hp}
theorem binI {o : Op2} {op : Operator} (h : binO o = some op) : OpI X T o (binaryOp op) := by
  cases o <;> cases h
  · exact ⟨_, op_addT, fun W σ H G x y v w Q s a b p => add_ok s a b p⟩
  · exact ⟨_, op_subT, fun W σ H G x y v w Q s a b p => sub_ok s a b p⟩
  · exact ⟨_, op_mulT, fun W σ H G x y v w Q s a b p => mul_ok s a b p⟩
  · exact ⟨_, op_fdivW, fun W σ H G x y v w Q s a b p => fdiv_ok s a b p⟩
  · exact ⟨_, op_mod, fun W σ H G x y v w Q s a b p => mod_ok s a b p⟩
  · exact ⟨_, op_pow, fun W σ H G x y v w Q s a b p => pow_ok s a b p⟩
theorem cmpI {o : Op2} {op : CmpOp} (hu : X.A.units + 65 < cLine) (h : cmpO o = some op) : OpI X T o (compareOp op) := by
  cases o <;> cases h
  · exact ⟨_, op_eqT (by omega), fun W σ H G x y v w Q s a b p => eq_ok s a b p⟩
  · exact ⟨_, op_neT (by omega), fun W σ H G x y v w Q s a b p => ne_ok s a b p⟩
  · exact ⟨_, op_lt, fun W σ H G x y v w Q s a b p => lt_ok s a b p⟩
  · exact ⟨_, op_le, fun W σ H G x y v w Q s a b p => le_ok s a b p⟩
  · exact ⟨_, op_gt, fun W σ H G x y v w Q s a b p => gt_ok s a b p⟩
  · exact ⟨_, op_ge, fun W σ H G x y v w Q s a b p => ge_ok s a b p⟩
  · exact ⟨_, op_inT hu, fun W σ H G x y v w Q s a b p => in_ok (neg := false) s a b p⟩
  · exact ⟨_, op_notInT hu, fun W σ H G x y v w Q s a b p => in_ok (neg := true) s a b p⟩
theorem cmp_bl {o : Op2} {op : CmpOp} (h : cmpO o = some op) {x y z : D} (e : op2 o x y = .ok z) : ∃ b, z = .bl b := by
  cases o <;> cases h
  case eq =>
    by_cases q : ∃ a b, x = .str a ∧ y = .str b
    · obtain ⟨a, b, rfl, rfl⟩ := q
      cases e; exact ⟨_, rfl⟩
    · rw [show op2 .eq x y = if plain x 60 ∧ plain y 60 then .ok (.bl (eqv x y)) else .bad by cases x <;> cases y <;> first | rfl | exact absurd ⟨_, _, rfl, rfl⟩ q] at e
      split at e <;> cases e; exact ⟨_, rfl⟩
  case ne =>
    by_cases q : ∃ a b, x = .str a ∧ y = .str b
    · obtain ⟨a, b, rfl, rfl⟩ := q
      cases e; exact ⟨_, rfl⟩
    · rw [show op2 .ne x y = if plain x 60 ∧ plain y 60 then .ok (.bl (!eqv x y)) else .bad by cases x <;> cases y <;> first | rfl | exact absurd ⟨_, _, rfl, rfl⟩ q] at e
      split at e <;> cases e; exact ⟨_, rfl⟩
  case in_ =>
    change (inD x y).bd _ = _ at e
    cases q : inD x y <;> rw [q] at e <;> cases e
    exact ⟨_, rfl⟩
  case notIn =>
    change (inD x y).bd _ = _ at e
    cases q : inD x y <;> rw [q] at e <;> cases e
    exact ⟨_, rfl⟩
  all_goals
    cases x <;> cases y <;> cases e <;> exact ⟨_, rfl⟩
theorem se_op {o : Op2} {op : Operator} {a b : Expr} {fa fb : Env → Res D} {pos : Pos} (h : binO o = some op) (ha : SR X T W O a fa) (hb : SR X T W O b fb) : SE X T W O (.BinOp a op b pos) (fun e => (fa e).bd fun x => (fb e).bd fun y => op2 o x y) := by
  obtain ⟨r, hr, ok⟩ := (binI (X := X) (T := T) h).ex
  exact PE.weak (pe_op hr ha hb) fun σ H Q q => two rfl rfl q fun G0 H0 G2 H2 e x y v w rl s rx ry p => ok W σ H2 G2 x y v w Q rl.sub rx ry p
theorem se_cmp {o : Op2} {op : CmpOp} {a b : Expr} {fa fb : Env → Res D} {pos : Pos} (hu : X.A.units + 65 < cLine) (h : cmpO o = some op) (hm : behindInMarks op b = false) (ha : SR X T W O a fa) (hb : SR X T W O b fb) :
    SE X T W O (.Compare a [op] [b] pos) (fun e => (fa e).bd fun x => (fb e).bd fun y => op2 o x y) := by
  obtain ⟨r, hr, ok⟩ := (cmpI (X := X) (T := T) hu h).ex
  exact PE.weak (pe_cmpR hr ha hb hm) fun σ H Q q => two rfl rfl q fun G0 H0 G2 H2 e x y v w rl s rx ry p => ok W σ H2 G2 x y v w Q rl.sub rx ry p
/-- a truth value read as a test -/
theorem post_test {r : Res D} {Q : Bool → Hp → Prop} (p : PostG T X.K RB W σ H G (r.bd truth) Q) (h : ∀ z, r = .ok z → ∃ b, z = .bl b) : Pv T X.K W σ H G r (fun x H' => ∃ k, x = .bl k ∧ Q k H') := by
  cases r with
  | ok a =>
    obtain ⟨b, rfl⟩ := h a rfl
    intro v H' G' x rv
    exact ⟨b, Rep.bl rv, p b H' G' x rfl⟩
  | err c l => exact p
  | bad => exact p
theorem sb_cmp {o : Op2} {op : CmpOp} {a b : Expr} {fa fb : Env → Res D} {pos : Pos} (hu : X.A.units + 65 < cLine) (h : cmpO o = some op) (hm : behindInMarks op b = false) (ha : SR X T W O a fa) (hb : SR X T W O b fb) :
    SB X T W O (.Compare a [op] [b] pos) (fun e => ((fa e).bd fun x => (fb e).bd fun y => op2 o x y).bd truth) := by
  obtain ⟨r, hr, ok⟩ := (cmpI (X := X) (T := T) hu h).ex
  refine PT.weak (pt_cmpR hr ha hb hm) fun σ H Q q => two (R := fun _ => RB) (g := fun x y => (op2 o x y).bd truth) rfl rfl ?_ fun G0 H0 G2 H2 e x y v w rl s rx ry p => ok W σ H2 G2 x y v w _ rl.sub rx ry (post_test p fun z e => cmp_bl h e)
  obtain ⟨G0, H0, G, e, rl, p⟩ := q
  refine ⟨G0, H0, G, e, rl, ?_⟩
  cases q1 : fa e <;> simp only [q1, bd_ok, bd_err, bd_bad] at p ⊢ <;> try exact p
  cases q2 : fb e <;> simp only [q2, bd_ok, bd_err, bd_bad] at p ⊢ <;> exact p
def chnF (o1 o2 : Op2) (fa fb fc : Env → Res D) : Env → Res D := fun e => (fa e).bd fun x => (fb e).bd fun y => (op2 o1 x y).bd fun z => match z with
    | .bl true => (fc e).bd fun w => op2 o2 y w
    | .bl false => .ok (.bl false)
    | _ => .bad
theorem chain_ok {o1 o2 : Op2} {op op' : CmpOp} {fa fb fc : Env → Res D} {r r' : R2} {Q : VK}
    (h1 : cmpO o1 = some op) (ok1 : ∀ (W : WX) (σ : L2.St) (H G : Hp) (x y : D) (v w : V) (Q : VK), Same G H → RepR T X.K H G x v → RepR T X.K H G y w → Pv T X.K W σ H G (op2 o1 x y) Q → r v w H Q)
    (ok2 : ∀ (W : WX) (σ : L2.St) (H G : Hp) (x y : D) (v w : V) (Q : VK), Same G H → RepR T X.K H G x v → RepR T X.K H G y w → Pv T X.K W σ H G (op2 o2 x y) Q → r' v w H Q)
    (q : cE X T W O (fun _ => RV T X.K) (chnF o1 o2 fa fb fc) σ H Q) :
    tChain r r' (cE X T W O (fun _ => RR T X.K) fa) (cE X T W O (fun _ => RR T X.K) fb) (cE X T W O (fun _ => RR T X.K) fc) σ H Q := by
  obtain ⟨G0, H0, G, e, rl, p⟩ := q
  unfold chnF at p
  refine ⟨G0, H0, G, e, rl, p.bind fun x v H1 G1 x1 rx p1 => ⟨G0, H0, G1, e, rl.ext x1, p1.bind fun y w H2 G2 x2 ry p2 => ?_⟩⟩
  have rl := (rl.ext x1).ext x2
  refine ok1 W σ H2 G2 x y v w _ rl.sub (rx.mono x2.h x2.g) ry (p2.bind fun z zv H3 G3 x3 rz p3 => ?_)
  cases z <;> try exact False.elim p3
  rename_i k
  refine ⟨k, Rep.bl rz, ?_⟩
  cases k with
  | false => exact pv_bl p3 (rl.ext x3).sub
  | true =>
    rw [if_pos rfl]
    exact ⟨G0, H0, G3, e, rl.ext x3, p3.bind fun w2 wv H4 G4 x4 rw p4 => ok2 W σ H4 G4 y w2 _ _ _ ((rl.ext x3).ext x4).sub ((ry.mono x3.h x3.g).mono x4.h x4.g) rw p4⟩
theorem se_chn {o1 o2 : Op2} {op op' : CmpOp} {a b c : Expr} {fa fb fc : Env → Res D} {pos : Pos} (hu : X.A.units + 65 < cLine) (h : cmpO o1 = some op) (h' : cmpO o2 = some op') (hm : lastMarks [op, op'] [b, c] = false)
    (ha : SR X T W O a fa) (hb : SR X T W O b fb) (hc : SR X T W O c fc) : SE X T W O (.Compare a [op, op'] [b, c] pos) (chnF o1 o2 fa fb fc) := by
  obtain ⟨r, hr, ok⟩ := (cmpI (X := X) (T := T) hu h).ex
  obtain ⟨r', hr', ok'⟩ := (cmpI (X := X) (T := T) hu h').ex
  exact PE.weak (pe_chain hr hr' ha hb hc hm) fun σ H Q q => chain_ok (op' := op') h ok ok' q
theorem sb_chn {o1 o2 : Op2} {op op' : CmpOp} {a b c : Expr} {fa fb fc : Env → Res D} {pos : Pos} (hu : X.A.units + 65 < cLine) (h : cmpO o1 = some op) (h' : cmpO o2 = some op') (hm : lastMarks [op, op'] [b, c] = false)
    (ha : SR X T W O a fa) (hb : SR X T W O b fb) (hc : SR X T W O c fc) : SB X T W O (.Compare a [op, op'] [b, c] pos) (fun e => (chnF o1 o2 fa fb fc e).bd truth) := by
  obtain ⟨r, hr, ok⟩ := (cmpI (X := X) (T := T) hu h).ex
  obtain ⟨r', hr', ok'⟩ := (cmpI (X := X) (T := T) hu h').ex
  refine PT.weak (pt_chain hr hr' ha hb hc hm) fun σ H Q ⟨G0, H0, G, e, rl, p⟩ => chain_ok (op' := op') h ok ok' ⟨G0, H0, G, e, rl, post_test p ?_⟩
  intro z q
  unfold chnF at q
  cases q1 : fa e <;> rw [q1] at q <;> try cases q
  cases q2 : fb e <;> simp only [q2, bd_ok, bd_err, bd_bad] at q <;> try cases q
  rename_i x y
  cases q3 : op2 o1 x y <;> simp only [q3, bd_ok, bd_err, bd_bad] at q <;> try cases q
  obtain ⟨k, rfl⟩ := cmp_bl h q3
  cases k with
  | false => cases q; exact ⟨_, rfl⟩
  | true =>
    cases q4 : fc e <;> simp only [q4, bd_ok, bd_err, bd_bad] at q <;> try cases q
    exact cmp_bl h' q
/-! ### truth -/
theorem tru_of {x : D} {v : V} {k : Bool} (s : Same G H) (r : RepR T X.K H G x v) (h : truth x = .ok k) : TruV X.K v H k := by
  cases x <;> simp only [truth] at h <;> try cases h
  · rw [r.non]; rfl
  · rw [r.bl]; rfl
  · rw [r.int]; rfl
  · rename_i a
    rw [r.str]
    split at h <;> cases h
    rename_i hl
    rw [LIM_eq] at hl
    refine ⟨by rw [txt_len]; exact hl, ?_⟩
    rw [txt_len]
    cases a <;> simp
    omega
  · obtain ⟨a, xs, rfl, h1, r1⟩ := r.tup s
    exact .inr (.inl ⟨xs, h1, by rw [r1.length]; cases xs <;> simp⟩)
  · obtain ⟨a, xs, rfl, h1, r1⟩ := r.lst
    exact .inl ⟨xs, SqL.of h1, by rw [r1.length]; cases xs <;> simp⟩
theorem truth_ne (x : D) {c : Nat} {l : List D} : ¬ truth x = .err c l := by
  cases x <;> simp only [truth] <;> first | (split <;> simp) | simp
theorem truth_ok {x : D} {α : Type} {R : Hp → Hp → α → α → Prop} {v : V} {f : Bool → Res α} {Q : α → Hp → Prop} (s : Same G H) (r : RepR T X.K H G x v) (p : PostG T X.K R W σ H G ((truth x).bd f) Q) : ∃ k, TruV X.K v H k ∧ PostG T X.K R W σ H G (f k) Q := by
  cases q : truth x with
  | ok k => rw [q] at p; exact ⟨k, tru_of s r q, p⟩
  | err c l => exact absurd q (truth_ne x)
  | bad => rw [q] at p; exact p.elim
theorem truth_okv {x : D} {v : V} {f : Bool → Res D} {Q : VK} (s : Same G H) (r : RepR T X.K H G x v) (p : Pv T X.K W σ H G ((truth x).bd f) Q) : ∃ k, TruV X.K v H k ∧ Pv T X.K W σ H G (f k) Q := by
  cases q : truth x with
  | ok k => rw [q] at p; exact ⟨k, tru_of s r q, p⟩
  | err c l => exact absurd q (truth_ne x)
  | bad => rw [q] at p; exact p.elim
theorem truth_okr {x : D} {v : V} {f : Bool → Res D} {Q : VK} (s : Same G H) (r : RepR T X.K H G x v) (p : PostG T X.K (RR T X.K) W σ H G ((truth x).bd f) Q) : ∃ k, TruV X.K v H k ∧ PostG T X.K (RR T X.K) W σ H G (f k) Q := by
  cases q : truth x with
  | ok k => rw [q] at p; exact ⟨k, tru_of s r q, p⟩
  | err c l => exact absurd q (truth_ne x)
  | bad => rw [q] at p; exact p.elim
/-- expressions whose test is their value's truth -/
def truE : Expr → Bool
  | .UnaryOp op _ _ => (match op with | .Not => false | _ => true)
  | .BoolOp _ _ _ => false
  | .IfExp _ _ _ _ => false
  | .Compare _ _ _ _ => false
  | _ => true
theorem sb_truth {a : Expr} {f : Env → Res D} (ha : SR X T W O a f) (h : truE a = true) : SB X T W O a (fun e => (f e).bd truth) := by
  refine PT.weak (pt_truth ha (by cases a <;> first | (intro whole; rfl) | (exact Bool.noConfusion (show false = true from h)) | (rename_i op _ _; cases op <;> first | (intro whole; rfl) | (exact Bool.noConfusion (show false = true from h))))) fun σ H Q q => one (R := fun _ => RB) (g := truth) rfl q fun G0 H0 G1 H1 e x v rl s rx p => ?_
  have p' : PostG T X.K RB W σ H1 G1 ((truth x).bd fun k => .ok k) Q := by
    cases q : truth x <;> rw [q] at p <;> exact p
  obtain ⟨k, h1, p2⟩ := truth_ok rl.sub rx p'
  exact ⟨k, h1, p2.ok rl.sub rfl⟩
theorem se_and {a b : Expr} {rest : List Expr} {fa fb : Env → Res D} {pos : Pos} (ha : SE X T W O a fa) (hb : SE X T W O (.BoolOp .And (b :: rest) pos) fb) :
    SE X T W O (.BoolOp .And (a :: b :: rest) pos) (fun e => (fa e).bd fun x => (truth x).bd fun k => if k = true then fb e else .ok x) := by
  refine PE.weak (pe_andT ha hb) fun σ H Q ⟨G0, H0, G, e, rl, p⟩ => ⟨G0, H0, G, e, rl, p.bind fun x v H1 G1 x1 r1 p1 => ?_⟩
  obtain ⟨k, h1, p2⟩ := truth_okv (rl.ext x1).sub (RepR.of x1.s r1) p1
  refine ⟨k, h1, ?_⟩
  split
  · exact ⟨G0, H0, G1, e, rl.ext x1, by rw [if_pos (by assumption)] at p2; exact p2⟩
  · rw [if_neg (by assumption)] at p2
    exact p2.ok (rl.ext x1).sub r1
theorem sr_and {a b : Expr} {rest : List Expr} {fa fb : Env → Res D} {pos : Pos} (ha : SR X T W O a fa) (hb : SR X T W O (.BoolOp .And (b :: rest) pos) fb) :
    SR X T W O (.BoolOp .And (a :: b :: rest) pos) (fun e => (fa e).bd fun x => (truth x).bd fun k => if k = true then fb e else .ok x) := by
  refine PE.weak (pe_andT ha hb) fun σ H Q ⟨G0, H0, G, e, rl, p⟩ => ⟨G0, H0, G, e, rl, p.bind fun x v H1 G1 x1 r1 p1 => ?_⟩
  obtain ⟨k, h1, p2⟩ := truth_okr (rl.ext x1).sub r1 p1
  refine ⟨k, h1, ?_⟩
  split
  · exact ⟨G0, H0, G1, e, rl.ext x1, by rw [if_pos (by assumption)] at p2; exact p2⟩
  · rw [if_neg (by assumption)] at p2
    exact p2.ok (rl.ext x1).sub r1
theorem sr_or {a b : Expr} {rest : List Expr} {fa fb : Env → Res D} {pos : Pos} (ha : SR X T W O a fa) (hb : SR X T W O (.BoolOp .Or (b :: rest) pos) fb) :
    SR X T W O (.BoolOp .Or (a :: b :: rest) pos) (fun e => (fa e).bd fun x => (truth x).bd fun k => if k = true then .ok x else fb e) := by
  refine PE.weak (pe_orT ha hb) fun σ H Q ⟨G0, H0, G, e, rl, p⟩ => ⟨G0, H0, G, e, rl, p.bind fun x v H1 G1 x1 r1 p1 => ?_⟩
  obtain ⟨k, h1, p2⟩ := truth_okr (rl.ext x1).sub r1 p1
  refine ⟨k, h1, ?_⟩
  split
  · rw [if_pos (by assumption)] at p2
    exact p2.ok (rl.ext x1).sub r1
  · exact ⟨G0, H0, G1, e, rl.ext x1, by rw [if_neg (by assumption)] at p2; exact p2⟩
theorem se_or {a b : Expr} {rest : List Expr} {fa fb : Env → Res D} {pos : Pos} (ha : SE X T W O a fa) (hb : SE X T W O (.BoolOp .Or (b :: rest) pos) fb) :
    SE X T W O (.BoolOp .Or (a :: b :: rest) pos) (fun e => (fa e).bd fun x => (truth x).bd fun k => if k = true then .ok x else fb e) := by
  refine PE.weak (pe_orT ha hb) fun σ H Q ⟨G0, H0, G, e, rl, p⟩ => ⟨G0, H0, G, e, rl, p.bind fun x v H1 G1 x1 r1 p1 => ?_⟩
  obtain ⟨k, h1, p2⟩ := truth_okv (rl.ext x1).sub (RepR.of x1.s r1) p1
  refine ⟨k, h1, ?_⟩
  split
  · rw [if_pos (by assumption)] at p2
    exact p2.ok (rl.ext x1).sub r1
  · exact ⟨G0, H0, G1, e, rl.ext x1, by rw [if_neg (by assumption)] at p2; exact p2⟩
theorem se_bool1 {op : BoolOp} {a : Expr} {f : Env → Res D} {pos : Pos} (ha : SE X T W O a f) : SE X T W O (.BoolOp op [a] pos) f := ⟨fun pins s σ H Q I h => by
  have := ha.run pins s σ H Q I h
  rw [show eval (.BoolOp op [a] pos) X.env = eval a X.env by rw [eval]; rfl]
  exact this⟩
theorem se_not {a : Expr} {f : Env → Res D} {pos : Pos} (ha : SR X T W O a f) : SE X T W O (.UnaryOp .Not a pos) (fun e => (f e).bd fun x => (truth x).bd fun k => .ok (.bl (!k))) := by
  refine PE.weak (pe_notT ha) fun σ H Q q => one (a := cE X T W O (fun _ => RR T X.K) f) rfl q fun G0 H0 G1 H1 e x v rl s rx p => ?_
  obtain ⟨k, h1, p2⟩ := truth_okv rl.sub rx p
  exact ⟨k, h1, pv_bl p2 rl.sub⟩
theorem se_neg {a : Expr} {f : Env → Res D} {pos : Pos} (ha : SR X T W O a f) : SE X T W O (.UnaryOp .USub a pos) (fun e => (f e).bd fun x => match x with
    | .int i => .ok (.int (-i))
    | _ => .bad) := by
  refine PE.weak (pe_un un_neg ha) fun σ H Q q => one (a := cE X T W O (fun _ => RR T X.K) f) rfl q fun G0 H0 G1 H1 e x v rl s rx p => ?_
  cases x <;> try exact False.elim p
  exact ⟨_, rx.int, pv_int p rl.sub⟩
theorem se_ite {c a b : Expr} {fc : Env → Res Bool} {fa fb : Env → Res D} {pos : Pos} (hc : SB X T W O c fc) (ha : SE X T W O a fa) (hb : SE X T W O b fb) :
    SE X T W O (.IfExp c a b pos) (fun e => (fc e).bd fun k => if k = true then fa e else fb e) := by
  refine PE.weak (pe_ifExp hc ha hb) fun σ H Q ⟨G0, H0, G, e, rl, p⟩ => ⟨G0, H0, G, e, rl, p.bind fun k v H1 G1 x1 r1 p1 => ?_⟩
  have r1 : v = k := r1
  subst r1
  split
  · exact ⟨G0, H0, G1, e, rl.ext x1, by rw [if_pos (by assumption)] at p1; exact p1⟩
  · exact ⟨G0, H0, G1, e, rl.ext x1, by rw [if_neg (by assumption)] at p1; exact p1⟩
/-! tests of and, or, not -/
def SW (X : Cx) (T : Tb) (W : WX) (O : List Nat) (x : Expr) (f : Env → Res Bool) : Prop := PW X x (cE X T W O (fun _ => RB) f)
theorem SW.sb {x : Expr} {f : Env → Res Bool} (h : SW X T W O x f) : SB X T W O x f := ⟨fun pins s σ H Q I q => h.run _ pins s σ H Q I q⟩
theorem PW.weak {x : Expr} {t t' : TT} (h : PW X x t) (k : ∀ σ H Q, t' σ H Q → t σ H Q) : PW X x t' := ⟨fun whole pins s σ H Q I q => h.run whole pins s σ H Q I (k σ H Q q)⟩
theorem sw_and {a b : Expr} {rest : List Expr} {fa fb : Env → Res Bool} {pos : Pos} (ha : SB X T W O a fa) (hb : SW X T W O (.BoolOp .And (b :: rest) pos) fb) :
    SW X T W O (.BoolOp .And (a :: b :: rest) pos) (fun e => (fa e).bd fun k => if k = true then fb e else .ok k) := by
  refine PW.weak (pw_and ha hb) fun σ H Q ⟨G0, H0, G, e, rl, p⟩ => ⟨G0, H0, G, e, rl, p.bind fun k v H1 G1 x1 r1 p1 => ?_⟩
  have r1 : v = k := r1
  subst r1
  cases v with
  | true => exact ⟨G0, H0, G1, e, rl.ext x1, p1⟩
  | false => exact p1.ok (rl.ext x1).sub rfl
theorem sw_or {a b : Expr} {rest : List Expr} {fa fb : Env → Res Bool} {pos : Pos} (ha : SB X T W O a fa) (hb : SW X T W O (.BoolOp .Or (b :: rest) pos) fb) :
    SW X T W O (.BoolOp .Or (a :: b :: rest) pos) (fun e => (fa e).bd fun k => if k = true then .ok k else fb e) := by
  refine PW.weak (pw_or ha hb) fun σ H Q ⟨G0, H0, G, e, rl, p⟩ => ⟨G0, H0, G, e, rl, p.bind fun k v H1 G1 x1 r1 p1 => ?_⟩
  have r1 : v = k := r1
  subst r1
  cases v with
  | false => exact ⟨G0, H0, G1, e, rl.ext x1, p1⟩
  | true => exact p1.ok (rl.ext x1).sub rfl
theorem sw_and1 {a : Expr} {fa : Env → Res Bool} {pos : Pos} (ha : SB X T W O a fa) : SW X T W O (.BoolOp .And [a] pos) fa := pw_and1 ha
theorem sw_or1 {a : Expr} {fa : Env → Res Bool} {pos : Pos} (ha : SB X T W O a fa) : SW X T W O (.BoolOp .Or [a] pos) fa := pw_or1 ha
theorem sb_not {a : Expr} {fa : Env → Res Bool} {pos : Pos} (ha : SB X T W O a fa) : SB X T W O (.UnaryOp .Not a pos) (fun e => (fa e).bd fun k => .ok (!k)) := by
  refine PT.weak (pt_not ha) fun σ H Q ⟨G0, H0, G, e, rl, p⟩ => ⟨G0, H0, G, e, rl, p.bind fun k v H1 G1 x1 r1 p1 => ?_⟩
  have r1 : v = k := r1
  subst r1
  exact p1.ok (rl.ext x1).sub rfl
theorem bd_and (r s : Res D) : (r.bd fun x => (truth x).bd fun k => if k = true then s else .ok x).bd truth = (r.bd truth).bd fun k => if k = true then s.bd truth else .ok k := by
  cases r with
  | ok x =>
    simp only [bd_ok]
    cases q : truth x with
    | ok k => cases k <;> simp [q]
    | err c l => rfl
    | bad => rfl
  | err c l => rfl
  | bad => rfl
theorem bd_or (r s : Res D) : (r.bd fun x => (truth x).bd fun k => if k = true then .ok x else s).bd truth = (r.bd truth).bd fun k => if k = true then .ok k else s.bd truth := by
  cases r with
  | ok x =>
    simp only [bd_ok]
    cases q : truth x with
    | ok k => cases k <;> simp [q]
    | err c l => rfl
    | bad => rfl
  | err c l => rfl
  | bad => rfl
theorem bd_not (r : Res D) : (r.bd fun x => (truth x).bd fun k => .ok (.bl (!k))).bd truth = (r.bd truth).bd fun k => .ok (!k) := by
  cases r with
  | ok x =>
    simp only [bd_ok]
    cases q : truth x with
    | ok k => rfl
    | err c l => rfl
    | bad => rfl
  | err c l => rfl
  | bad => rfl
theorem bd_bd {α β γ : Type} (r : Res α) (f : α → Res β) (g : β → Res γ) : (r.bd f).bd g = r.bd fun x => (f x).bd g := by cases r <;> rfl
end
end E

set_option autoImplicit false
set_option linter.all false
set_option Elab.async false
set_option maxRecDepth 100000
/-! E5: more rules of expressions. -/
namespace E
open PySem PySem.Spec PyProof.Rows L2

section
variable {X : Cx} {T : Tb} {W : WX} {O : List Nat} {σ : L2.St} {H G : Hp}
/-! ### constants -/
theorem se_non {j pos} : SE X T W O (.Constant .none j pos) (fun _ => .ok .non) := se_c (v := .non) ⟨fun _ _ _ H _ I h => Constant_none ⟨.non, H, I, rfl, h⟩⟩ fun G => by simp
theorem se_bl {b j pos} : SE X T W O (.Constant (.bool b) j pos) (fun _ => .ok (.bl b)) := se_c pe_bl fun G => by simp
theorem se_int {i j pos} : SE X T W O (.Constant (.int i) j pos) (fun _ => .ok (.int i)) := se_c pe_int fun G => by simp
theorem se_str {s : List Nat} {x : Str} {j pos} (h : x.cps.toList = s) : SE X T W O (.Constant (.str x) j pos) (fun _ => .ok (.str s)) := se_c pe_str fun G => by
  subst h
  simp [txt]
/-! ### is -/
def nb : V → Bool
  | .non => true | .bl _ => true | .int _ => true | .str _ => true | .ref _ => true | _ => false
def isO (neg : Bool) : CmpOp := if neg then .IsNot else .Is
def rIsB (d : D) (neg : Bool) : R2 := fun x y H Q => nb x = true ∧ ((d = .non ∧ y = .non ∧ Q (.bl (decide (x = .non) != neg)) H) ∨ ∃ b, d = .bl b ∧ y = .bl b ∧ Q (.bl (decide (x = .bl b) != neg)) H)
theorem op_isD (d : D) (neg : Bool) : OpR X (compareOp (isO neg)) (rIsB d neg) := by
  intro pins s σ H x y v u Q I rx ry h
  obtain ⟨hn, ⟨rfl, rfl, q⟩ | ⟨b, rfl, rfl, q⟩⟩ := h
  · cases ry
    cases neg
    · refine is_none_gen (fin_bl I q ?_)
      cases x <;> first
        | (cases rx; rfl)
        | (obtain ⟨t, rfl⟩ := rx; rfl)
    · refine isnot_none_gen (fin_bl I q ?_)
      cases x <;> first
        | (cases rx; rfl)
        | (obtain ⟨t, rfl⟩ := rx; rfl)
  · obtain rfl : u = Value.bool b := ry
    cases neg
    · have key : wpAny (model X.prog X.w) X.A (compareOp .Is v (.bool b)) (EP X pins σ Q) X.xe s := by
        cases x <;> first | (exact Bool.noConfusion (show false = true from hn)) | skip
        · cases rx; exact wpAny_pure (fin_bl I q (by simp))
        · rename_i c
          obtain rfl : v = Value.bool c := rx
          exact wpAny_pure (fin_bl I q (by cases b <;> cases c <;> rfl))
        · obtain ⟨t, rfl⟩ := rx; exact wpAny_pure (fin_bl I q (by simp))
        · obtain ⟨t, rfl⟩ := rx; exact wpAny_pure (fin_bl I q (by simp))
        · cases rx; exact wpAny_pure (fin_bl I q (by simp))
      exact key
    · have key : wpAny (model X.prog X.w) X.A (compareOp .IsNot v (.bool b)) (EP X pins σ Q) X.xe s := by
        cases x <;> first | (exact Bool.noConfusion (show false = true from hn)) | skip
        · cases rx; exact wpAny_pure (fin_bl I q (by simp))
        · rename_i c
          obtain rfl : v = Value.bool c := rx
          exact wpAny_pure (fin_bl I q (by cases b <;> cases c <;> rfl))
        · obtain ⟨t, rfl⟩ := rx; exact wpAny_pure (fin_bl I q (by simp))
        · obtain ⟨t, rfl⟩ := rx; exact wpAny_pure (fin_bl I q (by simp))
        · cases rx; exact wpAny_pure (fin_bl I q (by simp))
      exact key
theorem nb_of {x : D} {v : V} (hx : ∀ c l, x ≠ .exc c l) (s : Same G H) (r : RepR T X.K H G x v) : nb v = true := by
  cases x <;> first
    | (exact absurd rfl (hx _ _))
    | (rw [r.non]; rfl)
    | (rw [r.bl]; rfl)
    | (rw [r.int]; rfl)
    | (rw [r.str]; rfl)
    | (obtain ⟨a, xs, rfl, _⟩ := r.lst; rfl)
    | (obtain ⟨a, xs, rfl, _⟩ := r.tup s; rfl)
    | (obtain ⟨a, rfl, _⟩ := r.scr s; rfl)
    | (obtain ⟨a, dx, fs, rfl, _⟩ := Rep.ins r; rfl)
    | (obtain ⟨a, kvs, rfl, _⟩ := r; rfl)
    | (exact (show False by simpa only [RepR, Rep] using r).elim)
/-- a constant of is -/
def isK (d : D) : Expr → Bool
  | .Constant .none _ _ => match d with | .non => true | _ => false
  | .Constant (.bool b) _ _ => match d with | .bl c => b == c | _ => false
  | _ => false
def dNon : D → Bool
  | .non => true
  | _ => false
def dBl (b : Bool) : D → Bool
  | .bl c => b == c
  | _ => false
theorem rep_isnt {x : D} {v : V} (hx : ∀ c l, x ≠ .exc c l) (s : Same G H) (r : RepR T X.K H G x v) : decide (v = .non) = dNon x ∧ ∀ b, decide (v = .bl b) = dBl b x := by
  cases x
  · rw [r.non]; exact ⟨rfl, fun b => by simp [dBl]⟩
  · rename_i c; rw [r.bl]; exact ⟨by simp [dNon], fun b => by cases b <;> cases c <;> rfl⟩
  · rw [r.int]; exact ⟨by simp [dNon], fun b => by simp [dBl]⟩
  · rw [r.str]; exact ⟨by simp [dNon], fun b => by simp [dBl]⟩
  · obtain ⟨a, xs, rfl, _⟩ := r.tup s; exact ⟨by simp [dNon], fun b => by simp [dBl]⟩
  · obtain ⟨a, xs, rfl, _⟩ := r.lst; exact ⟨by simp [dNon], fun b => by simp [dBl]⟩
  · obtain ⟨a, kvs, rfl, _⟩ := r; exact ⟨by simp [dNon], fun b => by simp [dBl]⟩
  · exact (show False by simpa only [RepR, Rep] using r).elim
  · obtain ⟨a, dx, fs, rfl, _⟩ := Rep.ins r; exact ⟨by simp [dNon], fun b => by simp [dBl]⟩
  · exact absurd rfl (hx _ _)
  · obtain ⟨a, rfl, _⟩ := r.scr s; exact ⟨by simp [dNon], fun b => by simp [dBl]⟩
theorem isD_ok {d : D} {neg : Bool} {x : D} {v w : V} {Q : VK} (hd : (d = .non ∧ w = .non) ∨ ∃ b, d = .bl b ∧ w = .bl b) (s : Same G H) (r : RepR T X.K H G x v) (p : Pv T X.K W σ H G (dIs d neg x) Q) : rIsB d neg v w H Q := by
  have hx : ∀ c l, x ≠ .exc c l := by
    intro c l z
    subst z
    have p2 : Pv T X.K W σ H G .bad Q := by cases d <;> exact p
    exact p2
  refine ⟨nb_of hx s r, ?_⟩
  obtain ⟨i1, i2⟩ := rep_isnt hx s r
  rcases hd with ⟨rfl, rfl⟩ | ⟨b, rfl, rfl⟩
  · refine .inl ⟨rfl, rfl, ?_⟩
    rw [i1]
    cases x <;> first | (exact absurd rfl (hx _ _)) | (simp only [dIs] at p; cases neg <;> exact pv_bl p s)
  · refine .inr ⟨b, rfl, rfl, ?_⟩
    rw [i2]
    cases x <;> first | (exact absurd rfl (hx _ _)) | (simp only [dIs] at p; cases neg <;> exact pv_bl p s)
theorem se_is {d : D} {neg : Bool} {a k : Expr} {fa : Env → Res D} {pos : Pos} (hk : isK d k = true) (ha : SR X T W O a fa) :
    SE X T W O (.Compare a [isO neg] [k] pos) (fun e => (fa e).bd fun x => dIs d neg x) ∧ SB X T W O (.Compare a [isO neg] [k] pos) (fun e => ((fa e).bd fun x => dIs d neg x).bd truth) := by
  have hm : behindInMarks (isO neg) k = false := by
    cases k <;> first | rfl | (exact Bool.noConfusion (show false = true from hk))
  obtain ⟨w, hw, hd⟩ : ∃ w, PE X k (tC w) ∧ ((d = .non ∧ w = .non) ∨ ∃ b, d = .bl b ∧ w = .bl b) := by
    cases k <;> first | (exact Bool.noConfusion (show false = true from hk)) | skip
    rename_i c j p
    cases c <;> first | (exact Bool.noConfusion (show false = true from hk)) | skip
    · cases d <;> first | (exact Bool.noConfusion (show false = true from hk)) | skip
      exact ⟨.non, ⟨fun _ _ _ H _ I h => Constant_none ⟨.non, H, I, rfl, h⟩⟩, .inl ⟨rfl, rfl⟩⟩
    · cases d <;> first | (exact Bool.noConfusion (show false = true from hk)) | skip
      rename_i b c
      have e : b = c := by simpa [isK] using hk
      subst e
      exact ⟨.bl b, pe_bl, .inr ⟨b, rfl, rfl⟩⟩
  constructor
  · exact PE.weak (pe_cmpR (op_isD d neg) ha hw hm) fun σ H Q q => one (a := cE X T W O (fun _ => RR T X.K) fa) rfl q fun G0 H0 G1 H1 e x v rl s rx p => isD_ok hd rl.sub rx p
  · refine PT.weak (pt_cmpR (op_isD d neg) ha hw hm) fun σ H Q q => one (R := fun _ => RB) (a := cE X T W O (fun _ => RR T X.K) fa) (g := fun x => (dIs d neg x).bd truth) rfl (by
      obtain ⟨G0, H0, G, e, rl, p⟩ := q
      exact ⟨G0, H0, G, e, rl, by simpa only [bd_bd] using p⟩) fun G0 H0 G1 H1 e x v rl s rx p => isD_ok hd rl.sub rx (post_test p fun z q => ?_)
    cases d <;> cases x <;> simp only [dIs] at q <;> cases q <;> exact ⟨_, rfl⟩
/-! ### a name that is global: a constant of the module -/
theorem se_glb {x : Str} {d : D} {v : V} {u : Value} {pos : Pos} (hg : Gl X x) (hm : X.mg x = some u) (r : RelV v u) (rp : ∀ G, Rep T X.K G d v) (hd : (x == ("__debug__" : Str)) = false) : SE X T W O (.Name x pos) (fun _ => .ok d) := se_c (pe_glob hg hm r hd) rp
/-! ### displays -/
theorem se_tup {es : List Expr} {fa : Env → Res (List D)} {k} {pos : Pos} (ha : SA X T W O es fa) : SE X T W O (.Tuple es k pos) (fun e => (fa e).bd fun xs => if xs.length ≤ LIM then .ok (.tup xs) else .bad) :=
  PE.weak (pe_tup ha) fun σ H Q q => args (a := cE X T W O (fun _ => RL T X.K) fa) rfl q fun G0 H0 G1 H1 e xs vs rl s r p => by
    obtain ⟨hl, p⟩ := pif p
    rw [LIM_eq, r.length] at hl
    exact ⟨hl, post_tup p rl.sub r⟩
theorem se_lst {es : List Expr} {fa : Env → Res (List D)} {pos : Pos} (ha : SA X T W O es fa) : SE X T W O (.List es pos) (fun e => (fa e).bd fun xs => if xs.length ≤ LIM then .ok (.lst xs) else .bad) :=
  PE.weak (pe_lst ha) fun σ H Q q => args (a := cE X T W O (fun _ => RL T X.K) fa) rfl q fun G0 H0 G1 H1 e xs vs rl s r p => by
    obtain ⟨hl, p⟩ := pif p
    rw [LIM_eq, r.length] at hl
    exact ⟨hl, post_lst p rl.sub r⟩
theorem sf_lst {es : List Expr} {fa : Env → Res (List D)} {pos : Pos} (ha : SA X T W O es fa) : SF X T W O (.List es pos) (fun e => (fa e).bd fun xs => if xs.length ≤ LIM then .ok (.lst xs) else .bad) :=
  PE.weak (pe_lst ha) fun σ H Q q => args (R := RF T X.K) (g := fun xs => (if xs.length ≤ LIM then Res.ok (D.lst xs) else .bad).bd onlyL) (a := cE X T W O (fun _ => RL T X.K) fa) rfl (by
      obtain ⟨G0, H0, G, e, rl, p⟩ := q
      exact ⟨G0, H0, G, e, rl, by simpa only [bd_bd] using p⟩) fun G0 H0 G1 H1 e xs vs rl s r p => by
    obtain ⟨hl, p⟩ := pifb p
    rw [LIM_eq, r.length] at hl
    exact ⟨hl, postF_lst p s rl.sub r⟩
/-! ### xs[i] -/
theorem ixN_eq (n : Nat) (i : Int) : ixN n i = ixOf n i := rfl
theorem atI_eq {α : Type} (l : List α) (i : Int) : atI l i = at_ l i := rfl
theorem RepL.at {l : List D} {xs : List V} {i : Int} {d : D} (r : RepL T X.K G l xs) (h : at_ l i = some d) : ∃ v, atI xs i = some v ∧ Rep T X.K G d v := by
  unfold at_ at h
  rw [atI_eq]
  unfold at_
  rw [← r.length]
  cases q : ixOf l.length i with
  | none => rw [q] at h; cases h
  | some j =>
    rw [q] at h
    exact r.get h
theorem at_map {α β : Type} {f : α → β} {l : List α} {i : Int} : at_ (l.map f) i = (at_ l i).map f := by
  unfold at_
  rw [List.length_map]
  cases ixOf l.length i <;> simp
def rIxA (K : PySem.W.Frag) : R2 := fun x y H Q => rIxL K x y H Q ∨ rIxT K x y H Q ∨ rIxS x y H Q
theorem ix_all : IxR X (rIxA X.K) := IxR.or ix_list (IxR.or ix_tup ix_str)
theorem pmat {α β : Type} {R : Hp → Hp → α → β → Prop} {γ : Type} {o : Option γ} {f : γ → Res α} {Q : β → Hp → Prop} (p : PostG T X.K R W σ H G (om o f) Q) : ∃ d, o = some d ∧ PostG T X.K R W σ H G (f d) Q := by
  cases o with
  | some d => exact ⟨d, rfl, p⟩
  | none => exact False.elim p
theorem idx_ok {x y : D} {v w : V} {Q : VK} (s : Same G H) (rx : RepR T X.K H G x v) (ry : RepR T X.K H G y w) (p : Pv T X.K W σ H G (dIdx x y) Q) : rIxA X.K v w H Q := by
  cases x <;> cases y <;> try exact False.elim p
  all_goals rw [ry.int]
  · rename_i a i
    obtain ⟨hl, p⟩ := pif p
    obtain ⟨c, hc, p⟩ := pmat p
    rw [LIM_eq] at hl
    rw [rx.str]
    exact .inr (.inr ⟨_, i, c, rfl, rfl, by rw [txt_len]; exact hl, by rw [txt_list]; exact hc, pv_str p s⟩)
  · obtain ⟨a, xs, rfl, h1, r1⟩ := rx.tup s
    obtain ⟨d, hd, p⟩ := pmat p
    obtain ⟨u, h2, r2⟩ := r1.at hd
    exact .inr (.inl ⟨a, xs, _, u, rfl, rfl, h1, h2, p.ok s r2⟩)
  · obtain ⟨a, xs, rfl, h1, r1⟩ := rx.lst
    obtain ⟨d, hd, p⟩ := pmat p
    obtain ⟨u, h2, r2⟩ := r1.at hd
    exact .inl ⟨a, xs, _, u, rfl, rfl, SqL.of h1, h2, p.ok s r2⟩
  · obtain ⟨a, rfl, h1⟩ := rx.scr s
    obtain ⟨d, hd, p⟩ := pmat p
    exact .inl ⟨a, _, _, .int d, rfl, rfl, h1, by rw [atI_eq, at_map, hd]; rfl, pv_int p s⟩
/-- not a slice -/
def plainIx : Expr → Bool
  | .Slice _ _ _ _ => false
  | _ => true
end
end E

set_option autoImplicit false
set_option linter.all false
set_option Elab.async false
set_option maxRecDepth 100000
/-! E6: subscripts, built-in calls, methods. -/
namespace E
open PySem PySem.Spec PyProof.Rows L2

section
variable {X : Cx} {T : Tb} {W : WX} {O : List Nat} {σ : L2.St} {H G : Hp}
theorem plainIx_ok {b : Expr} (h : plainIx b = true) : PlainIx b := by
  intro o i
  cases b <;> first | rfl | (exact Bool.noConfusion (show false = true from h))
theorem se_ix {a b : Expr} {fa fb : Env → Res D} {pos : Pos} (h : plainIx b = true) (ha : SR X T W O a fa) (hb : SR X T W O b fb) : SE X T W O (.Subscript a b pos) (fun e => (fa e).bd fun x => (fb e).bd fun y => dIdx x y) :=
  PE.weak (pe_ix ix_all ha hb (plainIx_ok h)) fun σ H Q q => two rfl rfl q fun G0 H0 G2 H2 e x y v w rl s rx ry p => idx_ok rl.sub rx ry p
/-! ### slices -/
def rPt : V → Hp → (Option Int → Hp → Prop) → Prop := fun x H Q => (∃ i, x = .int i ∧ Q (some i) H) ∨ (x = .non ∧ Q none H)
theorem po_any {e : Expr} {te : TE} (h : PE X e te) : PO X (some e) (fun σ H Q => te σ H fun x H1 => rPt x H1 Q) := by
  refine ⟨fun pins s σ H Q I hw => ?_⟩
  rw [evalPart_some]
  refine thn (h.run pins s σ H _ I hw) fun u s1 ⟨x, H1, I1, r1, q1⟩ => ?_
  rcases q1 with ⟨i, rfl, q⟩ | ⟨rfl, q⟩
  · obtain ⟨t, rfl⟩ := r1
    exact ⟨some i, H1, I1, .int i t, q⟩
  · cases r1
    exact ⟨none, H1, I1, .none, q⟩
def oI : D → Option Int
  | .int i => some i
  | _ => none
def RP : Hp → Hp → D → Option Int → Prop := fun _ _ d o => isPart d = true ∧ o = oI d
def SP (X : Cx) (T : Tb) (W : WX) (O : List Nat) (x : Option Expr) (f : Env → Res D) : Prop := PO X x fun σ H Q => ∃ G0 H0 G e, Rel T X.K O G0 H0 σ H G e ∧ PostG T X.K RP W σ H G (f e) Q
theorem PO.weak {x : Option Expr} {t t' : TO} (h : PO X x t) (k : ∀ σ H Q, t' σ H Q → t σ H Q) : PO X x t' := ⟨fun pins s σ H Q I q => h.run pins s σ H Q I (k σ H Q q)⟩
theorem sp_none : SP X T W O none (fun _ => (Res.ok D.non).bd prt) := PO.weak po_none fun σ H Q ⟨G0, H0, G, e, rl, p⟩ => PostG.ok (a := D.non) p rl.sub ⟨rfl, rfl⟩
theorem sp_some {x : Expr} {f : Env → Res D} (h : SR X T W O x f) : SP X T W O (some x) (fun e => (f e).bd prt) := PO.weak (po_any h) fun σ H Q ⟨G0, H0, G, e, rl, p⟩ => ⟨G0, H0, G, e, rl, p.bind fun d v H1 G1 x1 r1 p1 => by
  obtain ⟨hd, p2⟩ := pif p1
  cases d <;> first | (exact Bool.noConfusion (show false = true from hd)) | skip
  · exact .inr ⟨r1.non, p2 _ _ _ (.refl (rl.ext x1).sub) ⟨rfl, rfl⟩⟩
  · exact .inl ⟨_, r1.int, p2 _ _ _ (.refl (rl.ext x1).sub) ⟨rfl, rfl⟩⟩⟩
def rSlAll (K : PySem.W.Frag) : V → Option Int → Option Int → Hp → VK → Prop := fun x lo hi H Q => rSlL K x lo hi H Q ∨ rSlA K x lo hi H Q ∨ rSlS x lo hi H Q
theorem SlR.or {r r' : V → Option Int → Option Int → Hp → VK → Prop} (h : SlR X r) (h' : SlR X r') : SlR X (fun x lo hi H Q => r x lo hi H Q ∨ r' x lo hi H Q) := by
  intro pins s σ H x v vl vu lo hi sl Q I rx hs pl pu q
  rcases q with q | q
  · exact h pins s σ H x v vl vu lo hi sl Q I rx hs pl pu q
  · exact h' pins s σ H x v vl vu lo hi sl Q I rx hs pl pu q
theorem sl_all : SlR X (rSlAll X.K) := SlR.or sl_list (SlR.or sl_tupA sl_str)
theorem sx_eq (n d : Nat) (x : D) (h : isPart x = true) : HT.sIx n d (oI x) = sx n d x := by
  cases x <;> first | rfl | (exact Bool.noConfusion (show false = true from h))
theorem RepL.cut {l : List D} {xs : List V} {lo hi : D} (r : RepL T X.K G l xs) (h1 : isPart lo = true) (h2 : isPart hi = true) : RepL T X.K G (E.cut l lo hi) (cutV xs (oI lo) (oI hi)) := by
  unfold E.cut cutV
  rw [sx_eq _ _ _ h1, sx_eq _ _ _ h2, ← r.length]
  exact (r.drop _).take _
theorem slice_txt (a : List Nat) {lo hi : D} (h1 : isPart lo = true) (h2 : isPart hi = true) : cutS (txt a) (oI lo) (oI hi) = txt (E.cut a lo hi) := by
  unfold cutS E.cut
  rw [sx_eq _ _ _ h1, sx_eq _ _ _ h2, txt_list, txt_len]
  rfl
theorem slc_ok {x lo hi : D} {v : V} {l h : Option Int} {Q : VK} (h1 : isPart lo = true) (h2 : isPart hi = true) (el : l = oI lo) (eh : h = oI hi) (s : Same G H) (rx : RepR T X.K H G x v) (p : Pv T X.K W σ H G (dSlc x lo hi) Q) : rSlAll X.K v l h H Q := by
  subst el eh
  cases x <;> try exact False.elim p
  · rename_i a
    obtain ⟨hl, p⟩ := pif p
    simp only [h1, h2, Bool.true_and, decide_eq_true_eq] at hl
    rw [LIM_eq] at hl
    rw [rx.str]
    exact .inr (.inr ⟨_, rfl, by rw [txt_len]; exact hl, by rw [slice_txt a h1 h2]; exact pv_str p s⟩)
  · rename_i a
    obtain ⟨hl, p⟩ := pif p
    obtain ⟨q, xs, rfl, h3, r1⟩ := rx.tup s
    refine .inr (.inl ⟨q, xs, rfl, h3, fun hw => ?_, fun _ => post_tup p s (r1.cut h1 h2)⟩)
    have e : cut a lo hi = a := by
      unfold cut
      rw [sx_eq _ _ _ h1, sx_eq _ _ _ h2, ← r1.length] at hw
      rw [hw.1, hw.2]
      simp
    rw [e] at p
    exact p.ok s rx
  · rename_i a
    obtain ⟨hl, p⟩ := pif p
    obtain ⟨q, xs, rfl, h3, r1⟩ := rx.lst
    exact .inl ⟨q, xs, rfl, SqL.of h3, post_lst p s (r1.cut h1 h2)⟩
theorem se_slc {a : Expr} {lo hi : Option Expr} {fa fl fh : Env → Res D} {p2 pos : Pos} (ha : SR X T W O a fa) (hl : SP X T W O lo fl) (hh : SP X T W O hi fh) :
    SE X T W O (.Subscript a (.Slice lo hi none p2) pos) (fun e => (fa e).bd fun x => (fl e).bd fun l => (fh e).bd fun h => dSlc x l h) :=
  PE.weak (pe_slice sl_all ha hl hh) fun σ H Q ⟨G0, H0, G, e, rl, p⟩ => ⟨G0, H0, G, e, rl, p.bind fun x v H1 G1 x1 r1 p1 => ⟨G0, H0, G1, e, rl.ext x1, p1.bind fun dl l H2 G2 x2 ⟨l1, l2⟩ p2 =>
    ⟨G0, H0, G2, e, (rl.ext x1).ext x2, p2.bind fun dh h H3 G3 x3 ⟨h1, h2⟩ p3 => slc_ok l1 h1 l2 h2 (((rl.ext x1).ext x2).ext x3).sub ((r1.mono x2.h x2.g).mono x3.h x3.g) p3⟩⟩⟩
/-! ### [::-1] -/
def tRevA (K : PySem.W.Frag) (te : TE) : TE := fun σ H Q => te σ H fun x H1 => (∃ a xs, x = .ref a ∧ SqL K H1 a xs ∧ ∀ p, H1 p = none → Q (.ref p) (upd H1 p (.lst xs.reverse))) ∨ ∃ a, x = .str (txt a) ∧ a.length ≤ sizeLine ∧ Q (.str (txt a.reverse)) H1
theorem rev_txt (a : List Nat) (uk : Tok) : Txt.sliceBy (txt a) none none (-1, uk) = txt a.reverse := by
  unfold Txt.sliceBy
  rw [if_neg (by simp)]
  unfold slicePicked
  show (⟨((sliceRange ((a.length : Int) - 1) (-1) (-1)).filterMap ((txt a).cps[·]?)).toArray⟩ : Str) = _
  rw [PySem.W.krv_sliceRange, PySem.W.krv_range, List.filterMap_reverse]
  have e := PySem.W.krv_all (txt a).cps
  rw [show (txt a).cps.size = a.length from txt_len a] at e
  rw [e, txt_list]
  rfl
theorem pe_revA {e : Expr} {te : TE} {k : Nat} {p1 p2 p3 pos : Pos} (he : PE X e te) : PE X (.Subscript e (.Slice none none (some (.UnaryOp .USub (.Constant (.int 1) k p1) p2)) p3) pos) (tRevA X.K te) := by
  refine ⟨fun pins s σ H Q I h => ?_⟩
  refine Subscript_ (thn (he.run pins s σ H _ I h) fun v s1 ⟨x, H1, I1, r1, q1⟩ => ?_)
  have hst : PO X (some (.UnaryOp .USub (.Constant (.int 1) k p1) p2)) (tPart (tUn (rU fun i => .int (-i)) (tC (.int 1)))) := po_some (pe_un un_neg pe_int)
  refine wpAny_Slice (thn (po_none.run pins s1 σ H1 (fun o H2 => o = none ∧ H2 = H1) I1 ⟨rfl, rfl⟩) fun vl s2 ⟨l, H2, I2, pl, el, e2⟩ => ?_)
  subst el e2
  refine thn (po_none.run pins s2 σ H2 (fun o H3 => o = none ∧ H3 = H2) I2 ⟨rfl, rfl⟩) fun vu s3 ⟨u, H3, I3, pu, eu, e3⟩ => ?_
  subst eu e3
  refine thn (hst.run pins s3 σ H3 (fun o H4 => o = some (-1) ∧ H4 = H3) I3 ⟨1, rfl, -1, rfl, rfl, rfl⟩) fun vs s4 ⟨o, H4, I4, ps, eo, e4⟩ => ?_
  subst eo e4
  have I5 : Inv X pins σ H4 { s4 with heap := s4.heap.push { cls := .type "slice", data := .fields #[vl, vu, vs] } } := I4.kept (t' := s4.toks) fun b ob q => Heap.get?_push_of_some _ q
  rcases q1 with ⟨a, xs, ex, hx, q⟩ | ⟨z, ex, hz, q⟩
  · subst ex
    cases r1
    obtain ⟨its, r, ht, hz⟩ := I5.list hx
    have hlen := r.length
    show wpAny (model X.prog X.w) X.A (subscriptTail e (.Slice none none (some (.UnaryOp .USub (.Constant (.int 1) k p1) p2)) p3) (.ref a) (.ref s4.heap.objs.size)) (EP X pins σ Q) X.xe { s4 with heap := s4.heap.push { cls := .type "slice", data := .fields #[vl, vu, vs] } }
    refine tail_any (ops := [.ref a, .ref s4.heap.objs.size]) ht.isList.typeIs (PySem.slot_list_getitem.lookup) ?_ (by with_unfolding_all rfl)
    refine wpAny_getItem_list_slice ht.isList (Heap.IsSliceOf.new _ vl vu vs) pl pu ps (by decide) ?_ (by rw [List.size_toArray]; omega)
    rw [PySem.W.krv_pick]
    refine ⟨.ref _, _, I5.laid (t' := s4.toks) (o := .lst xs.reverse) (fun b ob q => Heap.get?_push_of_some _ q) (Nat.le_refl _) ?_, rfl, q _ (I5.hok.fresh (Nat.le_refl _))⟩
    exact ⟨by rw [List.length_reverse]; exact hz, _, 0, r.reverse, Heap.get?_push_size _ rfl⟩
  · subst ex
    obtain ⟨t, rfl⟩ := r1
    cases pl
    cases pu
    obtain ⟨tk, rfl⟩ : ∃ t, vs = .int (-1) t := by cases ps; exact ⟨_, rfl⟩
    show wpAny (model X.prog X.w) X.A (subscriptTail e (.Slice none none (some (.UnaryOp .USub (.Constant (.int 1) k p1) p2)) p3) (.str (txt z) t) (.ref s4.heap.objs.size)) (EP X pins σ Q) X.xe { s4 with heap := s4.heap.push { cls := .type "slice", data := .fields #[.none, .none, .int (-1) tk] } }
    refine tail_any (ops := [.str (txt z) t, .ref s4.heap.objs.size]) (typeIs_str _ _ _) F.slot_str_getitem.lookup ?_ (by with_unfolding_all rfl)
    refine wpAny_getItem_str_slice (l := none) (u := none) (st := some (-1, tk)) ⟨_, Heap.get?_push_size _ rfl, rfl, rfl⟩ rfl (post_val_or_str ⟨Nat.le_trans (Txt.sliceBy_le (txt z) _ _ (-1, tk) (show (-1 : Int) ≠ 0 by decide)) (by rw [txt_len]; exact hz), fun t' c => ?_⟩)
    have q' : Q (.str (Txt.sliceBy (txt z) none none (-1, tk))) H4 := by rw [rev_txt]; exact q
    exact ⟨.str _, H4, I5.tok c, ⟨t', rfl⟩, q'⟩
/-- e[::-1] -/
def revE : Expr → Option Expr
  | .Subscript e (.Slice none none (some (.UnaryOp .USub (.Constant (.int 1) _ _) _)) _) _ => some e
  | _ => none
theorem se_rev {e : Expr} {k : Nat} {p1 p2 p3 pos : Pos} {f : Env → Res D} (he : SR X T W O e f) : SE X T W O (.Subscript e (.Slice none none (some (.UnaryOp .USub (.Constant (.int 1) k p1) p2)) p3) pos) (fun e => (f e).bd dRev) :=
  PE.weak (pe_revA he) fun σ H Q q => one (a := cE X T W O (fun _ => RR T X.K) f) rfl q fun G0 H0 G1 H1 e x v rl s rx p => by
    cases x <;> try exact False.elim p
    · obtain ⟨hl, p⟩ := pif p
      rw [LIM_eq] at hl
      exact .inr ⟨_, rx.str, hl, pv_str p rl.sub⟩
    · obtain ⟨a, xs, rfl, h1, r1⟩ := rx.lst
      exact .inl ⟨a, xs, rfl, SqL.of h1, post_lst p rl.sub r1.reverse⟩
end
end E

set_option autoImplicit false
set_option linter.all false
set_option Elab.async false
set_option maxRecDepth 100000
/-! E7s: set(list of ints), sorted of it. -/
namespace E
open PySem PySem.Spec PyProof.Rows L2
def setO (w : World) : Obj := { cls := .type "set", dict := none, data := .set #[] 0 (.fresh 0 0 (!w.params.followText "set-order")) }
section
variable {P : Program} {w : World} {A : Around} {E1 : Value → Shared → Prop} {s : Shared}
set_option maxHeartbeats 3200000 in
theorem set_ofI {l : Addr} {items : Array Value} (ns : List Int) {Q : Value → Shared → Prop} (h0 : A.handled = none) (hl : s.heap.IsList l items) (hit : IntsAre items.toList ns) (hb : ns.length + 1 < scanBound)
    (fin : ∀ (g : Heap) (tk c : Nat), SetR w g s.heap.objs.size (fun j => decide (j ∈ ns)) c → c ≤ ns.length → (∀ b o, s.heap.get? b = some o → g.get? b = some o) → Q (.ref s.heap.objs.size) { s with heap := g, toks := tk }) :
    wpAny (model P w) A (call (.type "set") [.ref l]) Q E1 s := by
  have hz : items.size = ns.length := by rw [← Array.length_toList]; exact IntsAre.length hit
  obtain ⟨c0, tl0, hmro⟩ := F.called_set.mro
  have m0 := F.called_set.made
  have m1 := F.called_set.sub
  refine wpAny_call (codeAny_of_tree (show wpAny _ _ (callAny (.type "set") _) _ _ _ from wpAny_pure ⟨Code.quiet_builtin _ (by decide +kernel), codeAny_builtin F.entry_type_call ?_⟩))
  rw [Around.under_plain (weight_type_call_type "set" [.ref l] []) rfl]
  have m2 := F.called_set.notType
  have m3 := F.called_set.canCreate
  have m4 := F.typeCall_set_1 (.ref l)
  repeat (any_goals (first | assumption | wp_step))
  refine codeAny_mono (code_set_led1 (.ref l) (E := E1) (Q₁ := fun ob t => ob = .ref s.heap.objs.size ∧ t = { s with heap := s.heap.push (setO w) }) ⟨rfl, rfl⟩) fun r t hr => ?_
  cases r with
  | error e => exact hr
  | ok fw =>
    cases fw with
    | ret ob =>
      obtain ⟨rfl, rfl⟩ := hr
      have hS : (s.heap.push (setO w)).get? s.heap.objs.size = some (setO w) := Heap.get?_push_size _ rfl
      have hT : Shared.TypeIs { s with heap := s.heap.push (setO w) } (.ref s.heap.objs.size) "set" := ⟨_, hS, rfl⟩
      have hli := F.called_set.init.lookup
      have hbi := F.called_set.init.bind (.ref s.heap.objs.size)
      repeat (any_goals (first | assumption | wp_step))
      refine codeAny_mono (codeAny_call_builtin (R := wants (fun r t2 => r = .none ∧ ∃ g tk c, t2 = { s with heap := g, toks := tk } ∧ SetR w g s.heap.objs.size (fun j => decide (j ∈ ns)) c ∧ c ≤ ns.length ∧ (∀ b o, s.heap.get? b = some o → g.get? b = some o)) E1)
        F.called_set.init.plain F.entry_set_init (check_set_init_1 hT ?_)) fun r2 t2 hr2 => ?_
      · obtain ⟨ol, hol, hcl, nl, hdl⟩ := hl
        obtain ⟨ocls, odict, odata, oslots⟩ := ol
        simp only at hcl hdl
        subst hcl
        subst hdl
        have hol' : (s.heap.push (setO w)).get? l = some { cls := .type "list", dict := odict, data := .seq items nl, slots := oslots } := Heap.get?_push_of_some _ hol
        have n1 : (s.heap.push (setO w)).IsList l items := ⟨_, hol', rfl, nl, rfl⟩
        have n2 := F.sub_list_set
        have n3 := F.sub_list_frozenset
        have n4 : (Value.type "list" == Value.type "dict") = false := by decide
        unfold Builtin.«set.__init__» noKeywords Builtin.Frozenset.updateFrom
        generalize hPI : pyIter = PI
        wp_walk
        subst hPI
        refine wpAny_pyIter_list n1 ?_
        refine wpAny_bind (wpAny_runValue ?_)
        have hlS : l < s.heap.objs.size := Heap.lt_size hol
        have hh3 : A.in1.in1.in1.handled = none := by simp [h0]
        have hsz : (s.heap.push (setO w)).objs.size = s.heap.objs.size + 1 := Heap.size_push ..
        have hneI : l ≠ (s.heap.push (setO w)).objs.size := by rw [hsz]; exact Nat.ne_of_lt (Nat.lt_succ_of_lt hlS)
        have hSf : s.heap.objs.size ∉ [(s.heap.push (setO w)).objs.size, l] := by
          rw [hsz]
          simp only [List.mem_cons, List.not_mem_nil, or_false, not_or]
          exact ⟨Nat.ne_of_lt (Nat.lt_succ_self _), Nat.ne_of_gt hlS⟩
        have hval : ∀ (i : Nat) (v : Value), items[i]? = some v → ∃ k t, ns[i]? = some k ∧ v = .int k t := fun i v hv => by
          have hi : i < ns.length := by rw [← hz]; exact (Array.getElem?_eq_some_iff.mp hv).1
          obtain ⟨t, e⟩ := PyProof.Rows.IntsAre.int_at hit i v (by rw [Array.getElem?_toList]; exact hv)
          exact ⟨ns[i], t, List.getElem?_eq_getElem hi, by rw [e, List.getD_eq_getElem?_getD, List.getElem?_eq_getElem hi] <;> rfl⟩
        refine set_update_ints ((Walks.list hh3 _ l hneI items).toS) s.heap.objs.size hSf ns hz hb hval (items.size - 0) 0 _ (by omega) (Nat.zero_le _) ⟨⟨_, Heap.get?_push_size _ rfl, rfl, rfl⟩, (n1.push _)⟩ ?hS0 ?hR
        case hS0 => exact ⟨0, Nat.le_refl 0, setR_new_at (Heap.get?_push_of_some _ hS)⟩
        case hR =>
          intro t3 c' hm hc' hS'
          obtain ⟨g, g2, d', tk', os'⟩ := t3
          have eg : g2 = s.gens := hm.gens
          have ed : d' = s.drawn := hm.drawn
          have eo : os' = s.os := hm.os
          subst eg ed eo
          show wpAny _ _ _ _ _ _
          refine wpAny_pure ?_
          rw [hz] at hc'
          refine (show wpAny _ _ (ret Value.none) _ _ _ from wpAny_pure ⟨rfl, g, tk', c', rfl, hS', hc', fun b o e => ?_⟩)
          have hb0 : b < s.heap.objs.size := Heap.lt_size e
          refine hm.heap b o ?_ (Heap.get?_push_of_some _ (Heap.get?_push_of_some _ e))
          simp only [List.mem_cons, List.not_mem_nil, or_false, not_or, hsz]
          exact ⟨Nat.ne_of_lt hb0, Nat.ne_of_lt (Nat.lt_succ_of_lt hb0)⟩
      · cases r2 with
        | error e => exact hr2
        | ok fw2 =>
          cases fw2 with
          | ret r =>
            obtain ⟨rfl, g, tk, c', rfl, hS', hc', hk'⟩ := hr2
            repeat (any_goals (first | assumption | wp_step))
            exact fin _ _ _ hS' hc' hk'
          | _ => exact hr2.elim
    | _ => exact hr.elim
end
/-! ### sorted(set(e)) -/
theorem dedup_mem : ∀ (l : List Int) (k : Int), k ∈ dedup l ↔ k ∈ l
  | [], _ => by simp [dedup]
  | x :: r, k => by
    have ih := dedup_mem r k
    unfold dedup
    split
    · rename_i h
      have hx : x ∈ r := (dedup_mem r x).1 (by simpa using h)
      rw [ih, List.mem_cons]
      exact ⟨.inr, fun z => z.elim (fun e => e ▸ hx) id⟩
    · rw [List.mem_cons, List.mem_cons, ih]
theorem dedup_nodup : ∀ l : List Int, (dedup l).Nodup
  | [] => by simp [dedup]
  | x :: r => by
    unfold dedup
    split
    · exact dedup_nodup r
    · rename_i h
      exact List.nodup_cons.2 ⟨by simpa using h, dedup_nodup r⟩
theorem dedup_len : ∀ l : List Int, (dedup l).length ≤ l.length
  | [] => by simp [dedup]
  | x :: r => by
    have := dedup_len r
    unfold dedup
    split
    · exact Nat.le_succ_of_le this
    · simpa using this
theorem ints_at {ns : List Int} {its : List Value} (r : Vals (ns.map V.int) its) : IntsAre its ns := ints_of_vals r
def rSetI (K : PySem.W.Frag) (w : World) : List V → Hp → VK → Prop := fun xs H Q => ∃ (p : Addr) (ns : List Int), xs = [.ref p] ∧ (SqL K H p (ns.map V.int) ∨ SqT K H p (ns.map V.int)) ∧ ns.length < 63 ∧
  ∀ (a : Addr) (c : Nat), H a = none → c ≤ ns.length → Q (.ref a) (upd H a (SetO w a (fun j => decide (j ∈ ns)) c))
theorem scan63 {n : Nat} (h : n < 63) : n + 1 < scanBound := Nat.lt_of_lt_of_le (Nat.succ_lt_succ h) (by decide)
theorem cr_setI {X : Cx} (hc : X.calm = true) : CallR X (.type "set") (rSetI X.K X.w) := by
  intro pins s σ H xs us Q I r h
  obtain ⟨p, ns, rfl, hs, h63, q⟩ := h
  rw [Vals.ref1 r]
  have go : ∀ (g : Heap) (tk c : Nat), SetR X.w g s.heap.objs.size (fun j => decide (j ∈ ns)) c → c ≤ ns.length → (∀ b o, s.heap.get? b = some o → g.get? b = some o) →
      EP X pins σ Q (.ref s.heap.objs.size) { s with heap := g, toks := tk } := fun g tk c R hcl hk =>
    ⟨.ref s.heap.objs.size, _, I.laid (t' := tk) (o := SetO X.w s.heap.objs.size (fun j => decide (j ∈ ns)) c) hk (Nat.le_refl _) (setO_new R), rfl, q _ c (I.hok.fresh (Nat.le_refl _)) hcl⟩
  rcases hs with hs | hs
  · obtain ⟨its, r, pl, hz⟩ := I.list hs
    exact set_ofI ns (I.ok.hd hc) pl.isList (ints_at r) (scan63 h63) go
  · obtain ⟨its, r, pl, hz⟩ := I.tuple hs
    exact call_set_tupI ns (I.ok.hd hc) pl (ints_at r) (scan63 h63) go
end E

set_option autoImplicit false
set_option linter.all false
set_option Elab.async false
set_option maxRecDepth 100000
/-! E7: built-in calls, methods. -/
namespace E
open PySem PySem.Spec PyProof.Rows L2

def noStar : Expr → Bool
  | .Starred _ _ => false
  | _ => true
theorem star_cons {e : Expr} {es : List Expr} {env : PySem.Env} (h : noStar e = true) : starEach (e :: es) env = (false, eval e env) :: starEach es env := by
  cases e <;> first | rfl | (exact Bool.noConfusion (show false = true from h))
theorem star_any {env : PySem.Env} {pos : Pos} : ∀ {es : List Expr}, es.all noStar = true → (backTo pos (starEach es env)).any (·.1) = false
  | [], _ => rfl
  | e :: es, h => by
    rw [List.all_cons, Bool.and_eq_true] at h
    rw [star_cons h.1]
    exact star_any h.2
theorem star_all {env : PySem.Env} {pos : Pos} : ∀ {es : List Expr}, es.all noStar = true → (backTo pos (starEach es env)).all (fun x => !x.1) = true
  | [], _ => rfl
  | e :: es, h => by
    rw [List.all_cons, Bool.and_eq_true] at h
    rw [star_cons h.1]
    exact star_all h.2
def noSup : Expr → Bool
  | .Call (.Name x _) [] [] _ => !(x == ("super" : Str))
  | _ => true
theorem sup_ok {o : Expr} {name : Str} {env : PySem.Env} {w : Sem Value} (h : noSup o = true) : attributeBase o name env w = w := by
  unfold attributeBase
  split
  · rename_i id p pos
    have hx : (id != "super") = true := by simpa [noSup] using h
    simp only [hx, Bool.true_or, if_true]
  · rfl
section
variable {X : Cx} {T : Tb} {W : WX} {O : List Nat} {σ : L2.St} {H G : Hp}
theorem sa_nil : SA X T W O [] (fun _ => .ok []) := PA.weak pa_nil fun σ H Q ⟨G0, H0, G, e, rl, p⟩ => p.ok rl.sub RepL.nil
theorem sa_cons {a : Expr} {es : List Expr} {fa : Env → Res D} {fs : Env → Res (List D)} (hn : noStar a = true) (ha : SE X T W O a fa) (hs : SA X T W O es fs) : SA X T W O (a :: es) (fun e => (fa e).bd fun x => (fs e).bd fun xs => .ok (x :: xs)) :=
  PA.weak (pa_cons ha hs (star_cons hn)) fun σ H Q ⟨G0, H0, G, e, rl, p⟩ => ⟨G0, H0, G, e, rl, p.bind fun x v H1 G1 x1 r1 p1 => ⟨G0, H0, G1, e, rl.ext x1, p1.bind fun xs vs H2 G2 x2 r2 p2 => by
    exact p2.ok ((rl.ext x1).ext x2).sub (.cons (Rep.mono x2.g _ _ r1) r2)⟩⟩
/-- one argument, read now -/
theorem pa_one {a : Expr} {fa : Env → Res D} (hn : noStar a = true) (ha : SR X T W O a fa) : PA X [a] (tCons (cE X T W O (fun _ => RR T X.K) fa) tNil) := pa_cons ha pa_nil (star_cons hn)
theorem pa_two {a b : Expr} {fa fb : Env → Res D} (hn : noStar a = true) (hn2 : noStar b = true) (ha : SR X T W O a fa) (hb : SR X T W O b fb) : PA X [a, b] (tCons (cE X T W O (fun _ => RR T X.K) fa) (tCons (cE X T W O (fun _ => RR T X.K) fb) tNil)) :=
  pa_cons ha (pa_cons hb pa_nil (star_cons hn2)) (star_cons hn)
/-! ### data of lists -/
theorem ints_eq : ∀ {l : List D} {is : List Int}, intsD l = some is → l = is.map D.int
  | [], _, h => by cases h; rfl
  | .int i :: r, is, h => by
    simp only [intsD] at h
    cases q : intsD r with
    | none => rw [q] at h; cases h
    | some js => rw [q] at h; cases h; rw [ints_eq q]; rfl
  | .non :: _, _, h => by cases h
  | .bl _ :: _, _, h => by cases h
  | .str _ :: _, _, h => by cases h
  | .tup _ :: _, _, h => by cases h
  | .lst _ :: _, _, h => by cases h
  | .dic _ _ :: _, _, h => by cases h
  | .set _ :: _, _, h => by cases h
  | .ins _ _ :: _, _, h => by cases h
  | .exc _ _ :: _, _, h => by cases h
  | .scr _ :: _, _, h => by cases h
theorem bools_eq : ∀ {l : List D} {is : List Bool}, boolsD l = some is → l = is.map D.bl
  | [], _, h => by cases h; rfl
  | .bl i :: r, is, h => by
    simp only [boolsD] at h
    cases q : boolsD r with
    | none => rw [q] at h; cases h
    | some js => rw [q] at h; cases h; rw [bools_eq q]; rfl
  | .non :: _, _, h => by cases h
  | .int _ :: _, _, h => by cases h
  | .str _ :: _, _, h => by cases h
  | .tup _ :: _, _, h => by cases h
  | .lst _ :: _, _, h => by cases h
  | .dic _ _ :: _, _, h => by cases h
  | .set _ :: _, _, h => by cases h
  | .ins _ _ :: _, _, h => by cases h
  | .exc _ _ :: _, _, h => by cases h
  | .scr _ :: _, _, h => by cases h
theorem strs_eq : ∀ {l : List D} {is : List (List Nat)}, strsD l = some is → l = is.map D.str
  | [], _, h => by cases h; rfl
  | .str i :: r, is, h => by
    simp only [strsD] at h
    cases q : strsD r with
    | none => rw [q] at h; cases h
    | some js => rw [q] at h; cases h; rw [strs_eq q]; rfl
  | .non :: _, _, h => by cases h
  | .int _ :: _, _, h => by cases h
  | .bl _ :: _, _, h => by cases h
  | .tup _ :: _, _, h => by cases h
  | .lst _ :: _, _, h => by cases h
  | .dic _ _ :: _, _, h => by cases h
  | .set _ :: _, _, h => by cases h
  | .ins _ _ :: _, _, h => by cases h
  | .exc _ _ :: _, _, h => by cases h
  | .scr _ :: _, _, h => by cases h
/-! sorted ints -/
theorem insertI_perm (x : Int) : ∀ l, (insertI x l).Perm (x :: l)
  | [] => .refl _
  | y :: r => by
    unfold insertI
    split
    · exact .refl _
    · exact ((insertI_perm x r).cons y).trans (.swap x y r)
theorem sortI_perm : ∀ l, (sortI l).Perm l
  | [] => .refl _
  | x :: r => (insertI_perm x _).trans ((sortI_perm r).cons x)
theorem insertI_sorted (x : Int) : ∀ {l : List Int}, l.Pairwise (· ≤ ·) → (insertI x l).Pairwise (· ≤ ·)
  | [], _ => by simp [insertI]
  | y :: r, h => by
    unfold insertI
    split
    · rename_i hxy
      refine List.Pairwise.cons (fun z hz => ?_) h
      rcases List.mem_cons.mp hz with rfl | hz
      · exact hxy
      · have := List.rel_of_pairwise_cons h hz
        omega
    · rename_i hxy
      refine List.Pairwise.cons (fun z hz => ?_) (insertI_sorted x h.of_cons)
      have := (insertI_perm x r).mem_iff.mp hz
      rcases List.mem_cons.mp this with rfl | hz
      · omega
      · exact List.rel_of_pairwise_cons h hz
theorem sortI_sorted : ∀ l, (sortI l).Pairwise (· ≤ ·)
  | [] => .nil
  | x :: r => insertI_sorted x (sortI_sorted r)
theorem sorted_uniq : ∀ {a b : List Int}, a.Perm b → a.Pairwise (· ≤ ·) → b.Pairwise (· ≤ ·) → a = b := by
  intro a b p ha hb
  exact p.eq_of_pairwise (le := (· ≤ ·)) (fun x y _ _ h1 h2 => by omega) ha hb
/-! ### built-in functions of one argument -/
def biN : BI → Str
  | .len => "len" | .int => "int" | .min2 => "min" | .max2 => "max" | .sum => "sum" | .sorted => "sorted" | .str => "str" | .tuple => "tuple" | .list => "list" | .all => "all" | .any => "any"
  | .rng1 => "range" | .rng2 => "range" | .enum => "enumerate" | .zip => "zip" | .rev => "reversed" | .abs => "abs" | .sset => "sorted"
def okB (f : BI) (r : List V → Hp → VK → Prop) (X : Cx) (T : Tb) : Prop := ∀ (W : WX) (σ : L2.St) (H G : Hp) (x : D) (v : V) (Q : VK), Same G H → RepR T X.K H G x v → Pv T X.K W σ H G (biF f [x]) Q → r [v] H Q
theorem b1_builtin {f : BI} {id : String} {r : List V → Hp → VK → Prop} {a : Expr} {fa : Env → Res D} {p pos : Pos} (hc : CallR X (.builtin id) r) (ok : okB f r X T) (hg : Gl X (biN f)) (hm : X.mg (biN f) = none) (hv : bootBuiltins (biN f) = some (.builtin id)) (hn : noStar a = true) (ha : SR X T W O a fa)
    (h1 : biN f ≠ "__name__" := by decide) (h2 : (biN f == ("__debug__" : Str)) = false := by decide) : SE X T W O (.Call (.Name (biN f) p) [a] [] pos) (fun e => (fa e).bd fun x => biF f [x]) :=
  PE.weak (pe_callB hc hg hm hv (pa_one hn ha) h1 h2 (star_cons hn) (star_any rfl)) fun σ H Q q => one (a := cE X T W O (fun _ => RR T X.K) fa) rfl q fun G0 H0 G1 H1 e x v rl s rx p => ok W σ H1 G1 x v Q rl.sub rx p
theorem b1_type {f : BI} {id : String} {r : List V → Hp → VK → Prop} {a : Expr} {fa : Env → Res D} {p pos : Pos} (hc : CallR X (.type id) r) (ok : okB f r X T) (hg : Gl X (biN f)) (hm : X.mg (biN f) = none) (hv : bootBuiltins (biN f) = some (.type id)) (hn : noStar a = true) (ha : SR X T W O a fa)
    (h1 : biN f ≠ "__name__" := by decide) (h2 : (biN f == ("__debug__" : Str)) = false := by decide) : SE X T W O (.Call (.Name (biN f) p) [a] [] pos) (fun e => (fa e).bd fun x => biF f [x]) :=
  PE.weak (pe_callTy hc hg hm hv (pa_one hn ha) h1 h2 (star_cons hn) (star_any rfl)) fun σ H Q q => one (a := cE X T W O (fun _ => RR T X.K) fa) rfl q fun G0 H0 G1 H1 e x v rl s rx p => ok W σ H1 G1 x v Q rl.sub rx p
theorem okB_len : okB .len (fun xs H Q => ∃ x n, xs = [x] ∧ LenV X.K x H n ∧ Q (.int n) H) X T := by
  intro W σ H G x v Q s rx p
  cases x <;> try exact False.elim p
  · obtain ⟨hl, p⟩ := pif p
    rw [LIM_eq] at hl
    rw [rx.str]
    exact ⟨_, _, rfl, ⟨by rw [txt_len]; exact hl, rfl⟩, by rw [txt_len]; exact pv_int p s⟩
  · obtain ⟨a, xs, rfl, h1, r1⟩ := rx.tup s
    exact ⟨_, xs.length, rfl, .inr ⟨xs, h1, rfl⟩, by rw [← r1.length]; exact pv_int p s⟩
  · obtain ⟨a, xs, rfl, h1, r1⟩ := rx.lst
    exact ⟨_, xs.length, rfl, .inl ⟨xs, SqL.of h1, rfl⟩, by rw [← r1.length]; exact pv_int p s⟩
  · rename_i l
    obtain ⟨a, rfl, h1⟩ := rx.scr s
    exact ⟨_, l.length, rfl, .inl ⟨_, h1, by simp⟩, pv_int p s⟩
theorem okB_int : okB .int (fun xs H Q => (∃ i, xs = [.int i] ∧ Q (.int i) H) ∨ ∃ k, xs = [.bl k] ∧ Q (.int (if k then 1 else 0)) H) X T := by
  intro W σ H G x v Q s rx p
  cases x <;> try exact False.elim p
  · rw [rx.bl]; exact .inr ⟨_, rfl, pv_int p s⟩
  · rw [rx.int]; exact .inl ⟨_, rfl, pv_int p s⟩
theorem okB_abs : okB .abs (fun xs H Q => ∃ i, xs = [.int i] ∧ Q (.int (if i < 0 then -i else i)) H) X T := by
  intro W σ H G x v Q s rx p
  cases x <;> try exact False.elim p
  rw [rx.int]; exact ⟨_, rfl, pv_int p s⟩
theorem okB_sum : okB .sum (rSum X.K) X T := by
  intro W σ H G x v Q s rx p
  cases x <;> try exact False.elim p
  obtain ⟨is, hi, p⟩ := pmat p
  obtain ⟨a, xs, rfl, h1, r1⟩ := rx.lst
  rw [ints_eq hi] at r1
  rw [r1.ints_inv] at h1
  exact ⟨a, is, rfl, SqL.of h1, pv_int p s⟩
def rSortLD (K : PySem.W.Frag) : List V → Hp → VK → Prop := fun xs H Q => rSortedI K xs H Q ∨ ∃ (a : Addr) (kvs : List (Key × V)) (ks : List Int), xs = [.ref a] ∧ Rd H a (.dK kvs) ∧ kvs.map (·.1) = ks.map Sum.inl ∧ ks.length < 64 ∧
  ∀ (ys : List Int) (p : Addr), ys.Perm ks → ys.Pairwise (· ≤ ·) → H p = none → Q (.ref p) (upd H p (.lst (ys.map V.int)))
theorem cr_sortLD (hc : X.calm = true) : CallR X (.builtin "sorted") (rSortLD X.K) := fun pins s σ H xs us Q I r h => by
  rcases h with h | h
  · exact cr_sortedI pins s σ H xs us Q I r h
  · exact call_sortedDI hc pins s σ H xs us Q I r h
theorem keys_int : ∀ {ks : List D} {is : List Int} {kvs : List (Key × V)}, intsD ks = some is → ks.map kOf = kvs.map (fun p => some p.1) → kvs.map (·.1) = is.map Sum.inl
  | ks, is, kvs, h, h2 => by
    rw [ints_eq h, List.map_map] at h2
    have h3 : is.map (fun i => some (Sum.inl i : Key)) = kvs.map (fun p => some p.1) := by rw [← h2]; rfl
    have h4 : (is.map (Sum.inl : Int → Key)).map some = (kvs.map (·.1)).map some := by rw [List.map_map, List.map_map]; exact h3
    have h5 := congrArg (fun l => l.filterMap id) h4
    simp only [List.filterMap_map, Function.id_comp] at h5
    simpa using h5.symm
theorem okB_sorted : okB .sorted (rSortLD X.K) X T := by
  intro W σ H G x v Q s rx p
  cases x <;> try exact False.elim p
  · obtain ⟨is, hi, p⟩ := pmat p
    obtain ⟨a, xs, rfl, h1, r1⟩ := rx.lst
    rw [ints_eq hi] at r1
    rw [r1.ints_inv] at h1
    refine .inl ⟨a, is, rfl, SqL.of h1, fun ns q hp hs hq => ?_⟩
    rw [sorted_uniq (hp.trans (sortI_perm is).symm) hs (sortI_sorted is)]
    exact post_lst p s RepL.ints q hq
  · rename_i ks vs
    obtain ⟨is, hi, p⟩ := pmat p
    obtain ⟨hl, p⟩ := pif p
    obtain ⟨a, kvs, rfl, h1, h2, h3⟩ := (show ∃ a kvs, v = .ref a ∧ H a = some (.dK kvs) ∧ ks.map kOf = kvs.map (fun p => some p.1) ∧ RepL T X.K G vs (kvs.map (·.2)) from rx)
    refine .inr ⟨a, kvs, is, rfl, .of h1, keys_int hi h2, hl, fun ns q hp hs hq => ?_⟩
    rw [sorted_uniq (hp.trans (sortI_perm is).symm) hs (sortI_sorted is)]
    exact post_lst p s RepL.ints q hq
theorem okB_tuple : okB .tuple (fun xs H Q => ∃ p ys, xs = [.ref p] ∧ ((SqL X.K H p ys ∧ ∀ l, H l = none → Q (.ref l) (upd H l (.tup ys))) ∨ (SqT X.K H p ys ∧ Q (.ref p) H))) X T := by
  intro W σ H G x v Q s rx p
  cases x <;> try exact False.elim p
  · obtain ⟨a, xs, e, h1, r1⟩ := rx.tup s
    subst e
    exact ⟨a, xs, rfl, .inr ⟨h1, p.ok s rx⟩⟩
  · obtain ⟨a, xs, rfl, h1, r1⟩ := rx.lst
    exact ⟨a, xs, rfl, .inl ⟨SqL.of h1, post_tup p s r1⟩⟩
theorem okB_list : okB .list (fun xs H Q => ∃ p ys, xs = [.ref p] ∧ (SqL X.K H p ys ∨ SqT X.K H p ys) ∧ ∀ l, H l = none → Q (.ref l) (upd H l (.lst ys))) X T := by
  intro W σ H G x v Q s rx p
  cases x <;> try exact False.elim p
  · obtain ⟨a, xs, rfl, h1, r1⟩ := rx.tup s
    exact ⟨a, xs, rfl, .inr h1, post_lst p s r1⟩
  · obtain ⟨a, xs, rfl, h1, r1⟩ := rx.lst
    exact ⟨a, xs, rfl, .inl (SqL.of h1), post_lst p s r1⟩
theorem okB_all : okB .all (rAll X.K) X T := by
  intro W σ H G x v Q s rx p
  cases x <;> try exact False.elim p
  obtain ⟨is, hi, p⟩ := pmat p
  obtain ⟨a, xs, rfl, h1, r1⟩ := rx.lst
  rw [bools_eq hi] at r1
  rw [r1.bools_inv] at h1
  exact ⟨a, is, rfl, SqL.of h1, pv_bl p s⟩
theorem okB_any : okB .any (rAny X.K) X T := by
  intro W σ H G x v Q s rx p
  cases x <;> try exact False.elim p
  obtain ⟨is, hi, p⟩ := pmat p
  obtain ⟨a, xs, rfl, h1, r1⟩ := rx.lst
  rw [bools_eq hi] at r1
  rw [r1.bools_inv] at h1
  exact ⟨a, is, rfl, SqL.of h1, pv_bl p s⟩
def b1s : List BI := [.len, .int, .sum, .sorted, .tuple, .list, .all, .any, .abs]
theorem se_b1 {f : BI} {a : Expr} {fa : Env → Res D} {p pos : Pos} (hf : f ∈ b1s) (hc : X.calm = true) (hg : Gl X (biN f)) (hm : X.mg (biN f) = none) (hn : noStar a = true) (ha : SR X T W O a fa) : SE X T W O (.Call (.Name (biN f) p) [a] [] pos) (fun e => (fa e).bd fun x => biF f [x]) := by
  cases f <;> first | (exact absurd hf (by decide)) | skip
  · exact b1_builtin call_len okB_len hg hm (by decide +kernel) hn ha
  · exact b1_type call_int1 okB_int hg hm (by decide +kernel) hn ha
  · exact b1_builtin (cr_sum hc) okB_sum hg hm (by decide +kernel) hn ha
  · exact b1_builtin (cr_sortLD hc) okB_sorted hg hm (by decide +kernel) hn ha
  · exact b1_type call_tuple_of okB_tuple hg hm (by decide +kernel) hn ha
  · exact b1_type call_list_of okB_list hg hm (by decide +kernel) hn ha
  · exact b1_builtin (cr_all hc) okB_all hg hm (by decide +kernel) hn ha
  · exact b1_builtin (cr_any hc) okB_any hg hm (by decide +kernel) hn ha
  · exact b1_builtin call_abs okB_abs hg hm (by decide +kernel) hn ha
/-- those that need no calm -/
theorem se_b1h {f : BI} {a : Expr} {fa : Env → Res D} {p pos : Pos} (hf : f = .len ∨ f = .int) (hg : Gl X (biN f)) (hm : X.mg (biN f) = none) (hn : noStar a = true) (ha : SR X T W O a fa) : SE X T W O (.Call (.Name (biN f) p) [a] [] pos) (fun e => (fa e).bd fun x => biF f [x]) := by
  rcases hf with rfl | rfl
  · exact b1_builtin call_len okB_len hg hm (by decide +kernel) hn ha
  · exact b1_type call_int1 okB_int hg hm (by decide +kernel) hn ha
theorem se_mm {f : BI} {a b : Expr} {fa fb : Env → Res D} {p pos : Pos} (hf : f = .min2 ∨ f = .max2) (hc : X.calm = true) (hg : Gl X (biN f)) (hm : X.mg (biN f) = none) (hn : noStar a = true) (hn2 : noStar b = true) (ha : SR X T W O a fa) (hb : SR X T W O b fb) :
    SE X T W O (.Call (.Name (biN f) p) [a, b] [] pos) (fun e => (fa e).bd fun x => (fb e).bd fun y => biF f [x, y]) := by
  have h2 : (backTo pos (starEach [b] X.env)).any (·.1) = false := star_any (by simp [hn2])
  rcases hf with rfl | rfl
  · refine PE.weak (pe_callB (call_min2 hc) hg hm (by decide +kernel) (pa_two hn hn2 ha hb) (by decide) (by decide) (star_cons hn) h2) fun σ H Q q => two (a := cE X T W O (fun _ => RR T X.K) fa) (b := cE X T W O (fun _ => RR T X.K) fb) rfl rfl q fun G0 H0 G1 H1 e x y v w rl s rx ry p => ?_
    cases x <;> cases y <;> try exact False.elim p
    rw [rx.int, ry.int]
    exact ⟨_, _, rfl, pv_int p rl.sub⟩
  · refine PE.weak (pe_callB (call_max2 hc) hg hm (by decide +kernel) (pa_two hn hn2 ha hb) (by decide) (by decide) (star_cons hn) h2) fun σ H Q q => two (a := cE X T W O (fun _ => RR T X.K) fa) (b := cE X T W O (fun _ => RR T X.K) fb) rfl rfl q fun G0 H0 G1 H1 e x y v w rl s rx ry p => ?_
    cases x <;> cases y <;> try exact False.elim p
    rw [rx.int, ry.int]
    exact ⟨_, _, rfl, pv_int p rl.sub⟩
theorem sset_uniq {ns is : List Int} (h1 : ns.Pairwise (· < ·)) (h2 : ∀ k, k ∈ ns ↔ k ∈ is) : ns = sortI (dedup is) := by
  refine sorted_uniq ?_ (h1.imp fun h => by omega) (sortI_sorted _)
  have n1 : ns.Nodup := h1.imp fun h => by omega
  have n2 : (sortI (dedup is)).Nodup := (sortI_perm _).nodup_iff.2 (dedup_nodup is)
  exact (List.perm_ext_iff_of_nodup n1 n2).2 fun k => by rw [h2, (sortI_perm _).mem_iff, dedup_mem]
theorem se_sset {a : Expr} {fa : Env → Res D} {p p2 pos pos2 : Pos} (hc : X.calm = true) (hg : Gl X "sorted") (hm : X.mg "sorted" = none) (hg2 : Gl X "set") (hm2 : X.mg "set" = none) (hn : noStar a = true) (ha : SR X T W O a fa) :
    SE X T W O (.Call (.Name "sorted" p) [.Call (.Name "set" p2) [a] [] pos2] [] pos) (fun e => (fa e).bd fun x => biF .sset [x]) := by
  have inn := pe_callTy (p := p2) (pos := pos2) (cr_setI hc) hg2 hm2 (by decide +kernel) (pa_one hn ha) (by decide) (by decide) (star_cons hn) (star_any rfl)
  refine PE.weak (pe_callB (cr_sortedSet hc) hg hm (by decide +kernel) (pa_cons inn pa_nil (star_cons rfl)) (by decide) (by decide) (star_cons rfl) (star_any rfl)) fun σ H Q q => one (a := cE X T W O (fun _ => RR T X.K) fa) rfl q fun G0 H0 G1 H1 e x v rl s rx p => ?_
  have key : ∀ (is : List Int) (b : Addr), v = .ref b → (SqL X.K H1 b (is.map V.int) ∨ SqT X.K H1 b (is.map V.int)) → is.length < 63 → Pv T X.K W σ H1 G1 (.ok (.lst ((sortI (dedup is)).map D.int))) Q →
      rSetI X.K X.w [v] H1 fun w H2 => rSortedSet X.w [w] H2 Q := fun is b ev hs hl p => by
    refine ⟨b, is, by rw [ev], hs, hl, fun a c ha hcl => ⟨a, _, c, rfl, upd_same, by omega, fun ns q h1 h2 h3 hq => ?_⟩⟩
    have e1 : ns = sortI (dedup is) := sset_uniq h1 fun k => by rw [h2]; simp
    subst e1
    have x1 := Ext.mine (o := SetO X.w a (fun j => decide (j ∈ is)) c) rl.sub ha
    exact post_lst (p.ext x1) x1.s RepL.ints q hq
  cases x <;> try exact False.elim p
  · obtain ⟨is, hi, p⟩ := pmat p
    obtain ⟨hl, p⟩ := pif p
    obtain ⟨b, xs, rfl, h1, r1⟩ := rx.tup rl.sub
    rw [ints_eq hi] at r1
    rw [r1.ints_inv] at h1
    exact key is b rfl (.inr h1) hl p
  · obtain ⟨is, hi, p⟩ := pmat p
    obtain ⟨hl, p⟩ := pif p
    obtain ⟨b, xs, rfl, h1, r1⟩ := rx.lst
    rw [ints_eq hi] at r1
    rw [r1.ints_inv] at h1
    exact key is b rfl (.inl (SqL.of h1)) hl p
end
end E

set_option autoImplicit false
set_option linter.all false
set_option Elab.async false
set_option maxRecDepth 100000
/-! E8: methods of texts, isinstance, fields. -/
namespace E
open PySem PySem.Spec PyProof.Rows L2

/-! ### places of one sign in a text -/
def posC (c : Nat) : Nat → List Nat → List Nat
  | _, [] => []
  | i, x :: r => if x = c then i :: posC c (i + 1) r else posC c (i + 1) r
theorem occ_run (s : List Nat) (c limit : Nat) : ∀ (n a : Nat) (acc : Array Nat) (free : Nat), free ≤ a → a + n = s.length + 1 →
    (forIn (List.range' a n) (acc, free) (StrLaws.occBody (txt s) ⟨#[c]⟩ s.length limit)).run.fst.toList = acc.toList ++ (posC c a (s.drop a)).take (limit - acc.size)
  | 0, a, acc, free, _, e => by
    have e1 : s.drop a = [] := List.drop_eq_nil_of_le (by omega)
    rw [e1]
    simp [posC]
  | n + 1, a, acc, free, hf, e => by
    rw [List.range'_succ, List.forIn_cons]
    unfold StrLaws.occBody
    have key := StrLaws.subAt_one (txt s) c a
    rw [txt_list, txt_len] at key
    by_cases h : s[a]? = some c
    · have hlt : a < s.length := (List.getElem?_eq_some_iff.mp h).1
      have hd : s.drop a = c :: s.drop (a + 1) := by
        rw [List.drop_eq_getElem_cons hlt]
        congr 1
        exact (List.getElem?_eq_some_iff.mp h).2
      by_cases hl : acc.size < limit
      · rw [if_pos ⟨⟨⟨hl, hf⟩, (key.mpr h).1⟩, (key.mpr h).2⟩]
        have ih := occ_run s c limit n (a + 1) (acc.push a) (a + 1) (Nat.le_refl _) (by omega)
        refine Eq.trans ih ?_
        rw [hd, posC, if_pos rfl]
        have e2 : limit - acc.size = (limit - (acc.push a).size) + 1 := by rw [Array.size_push]; omega
        rw [e2, List.take_succ_cons]
        simp
      · rw [if_neg (fun z => hl z.1.1.1)]
        have ih := occ_run s c limit n (a + 1) acc free (by omega) (by omega)
        refine Eq.trans ih ?_
        have e2 : limit - acc.size = 0 := by omega
        rw [e2]
        simp
    · rw [if_neg (fun z => h (key.mp ⟨z.1.2, z.2⟩))]
      have ih := occ_run s c limit n (a + 1) acc free (by omega) (by omega)
      refine Eq.trans ih ?_
      congr 2
      by_cases hlt : a < s.length
      · rw [List.drop_eq_getElem_cons hlt]
        have hne : ¬ s[a] = c := fun z => h (by rw [List.getElem?_eq_getElem hlt, z])
        conv => rhs; unfold posC
        rw [if_neg hne]
      · rw [List.drop_eq_nil_of_le (by omega), List.drop_eq_nil_of_le (by omega)]
        rfl
theorem occ_pos (s : List Nat) (c limit : Nat) : Builtin.Str.occurrences (txt s) ⟨#[c]⟩ 0 (txt s).length limit = (posC c 0 s).take limit := by
  rw [StrLaws.occ_eq, txt_len]
  have := occ_run s c limit (s.length + 1 - 0) 0 #[] 0 (Nat.le_refl _) (by omega)
  simpa using this
theorem posC_len (c : Nat) : ∀ (s : List Nat) (i : Nat), (posC c i s).length = countC c s
  | [], _ => rfl
  | x :: r, i => by
    unfold posC countC
    split <;> simp [posC_len c r (i + 1)]
theorem countC_le (c : Nat) : ∀ s : List Nat, countC c s ≤ s.length
  | [] => Nat.le_refl _
  | x :: r => by
    unfold countC
    have := countC_le c r
    split <;> simp <;> omega
theorem posC_head (c : Nat) : ∀ (s : List Nat) (i : Nat), (posC c i s).head? = (findC c s).map (i + ·)
  | [], _ => rfl
  | x :: r, i => by
    unfold posC findC
    split
    · simp
    · rw [posC_head c r (i + 1)]
      cases findC c r <;> simp
      omega
theorem count_txt (s : List Nat) (c : Nat) : Txt.count (txt s) (txt [c]) = countC c s := by
  unfold Txt.count
  rw [show txt [c] = ⟨#[c]⟩ from rfl, occ_pos, List.length_take, posC_len, txt_len]
  have := countC_le c s
  rw [Nat.min_eq_right (by omega)]
theorem take1 {α : Type} (l : List α) : l.take 1 = match l.head? with | some x => [x] | none => [] := by cases l <;> rfl
theorem find_txt (s : List Nat) (c : Nat) : Txt.find (txt s) (txt [c]) = match findC c s with | some i => ((i : Nat) : Int) | none => -1 := by
  unfold Txt.find
  rw [show txt [c] = ⟨#[c]⟩ from rfl, occ_pos, take1, posC_head]
  cases findC c s <;> simp
theorem txt_join (y : List Nat) : ∀ l : List (List Nat), Txt.join (txt y) (l.map txt) = txt (joinT y l) := by
  intro l
  rw [show Txt.join (txt y) (l.map txt) = Str.join (txt y) (l.map txt) from PySem.StrLaws.glued_eq_join _ _]
  have key : ∀ l : List (List Nat), Str.join (txt y) (l.map txt) = txt (joinT y l) := by
    intro l
    induction l with
    | nil => rfl
    | cons a r ih =>
      cases r with
      | nil => rfl
      | cons b r =>
        show txt a ++ txt y ++ Str.join (txt y) ((b :: r).map txt) = _
        rw [ih, txt_app, txt_app]
        rfl
  exact key l
section
variable {X : Cx} {T : Tb} {W : WX} {O : List Nat} {σ : L2.St} {H G : Hp}
def mtN : MT → Str
  | .join => "join" | .count => "count" | .find => "find" | .index => "index"
def okM (m : MT) (r : V → List V → Hp → VK → Prop) (X : Cx) (T : Tb) : Prop := ∀ (W : WX) (σ : L2.St) (H G : Hp) (x y : D) (v w : V) (Q : VK), Same G H → RepR T X.K H G x v → RepR T X.K H G y w → Pv T X.K W σ H G (meth m x [y]) Q → r v [w] H Q
theorem sum_txt (l : List (List Nat)) : ((l.map txt).map (·.length)).sum = (l.map (·.length)).sum := by
  rw [List.map_map, show (fun x : Str => x.length) ∘ txt = (fun x : List Nat => x.length) from funext fun a => txt_len a]
theorem okM_join : okM .join (fun x xs H Q => ∃ a p, ∃ ys : List Str, x = .str a ∧ xs = [.ref p] ∧ (SqL X.K H p (ys.map V.str) ∨ SqT X.K H p (ys.map V.str)) ∧ (ys.map (·.length)).sum + ys.length * a.length ≤ 16777216 ∧ Q (.str (Txt.join a ys)) H) X T := by
  intro W σ H G x y v w Q s rx ry p
  cases x <;> try exact False.elim p
  cases y <;> try exact False.elim p
  rename_i z l
  obtain ⟨is, hi, p⟩ := pmat p
  obtain ⟨hl, p⟩ := pif p
  obtain ⟨a, xs, rfl, h1, r1⟩ := ry.lst
  rw [strs_eq hi] at r1
  rw [r1.strs_inv] at h1
  rw [rx.str]
  exact ⟨_, a, is.map txt, rfl, rfl, .inl (SqL.of h1), by rw [sum_txt, txt_len, List.length_map]; exact hl, by rw [txt_join]; exact pv_str p s⟩
theorem okM_count : okM .count (fun x xs H Q => ∃ a b, x = .str a ∧ xs = [.str b] ∧ Q (.int (Txt.count a b)) H) X T := by
  intro W σ H G x y v w Q s rx ry p
  cases x <;> try exact False.elim p
  cases y <;> try exact False.elim p
  rename_i z l
  rcases l with _ | ⟨c, _ | ⟨c2, l⟩⟩ <;> try exact False.elim p
  rw [rx.str, ry.str]
  exact ⟨_, _, rfl, rfl, by rw [count_txt]; exact pv_int p s⟩
theorem okM_find : okM .find (fun x xs H Q => ∃ a b, x = .str a ∧ xs = [.str b] ∧ Q (.int (Txt.find a b)) H) X T := by
  intro W σ H G x y v w Q s rx ry p
  cases x <;> try exact False.elim p
  cases y <;> try exact False.elim p
  rename_i z l
  rcases l with _ | ⟨c, _ | ⟨c2, l⟩⟩ <;> try exact False.elim p
  rw [rx.str, ry.str]
  exact ⟨_, _, rfl, rfl, by rw [find_txt]; exact pv_int p s⟩
def rIndexT : V → List V → Hp → VK → Prop := fun x xs H Q => ∃ a b i rest, x = .str a ∧ xs = [.str b] ∧ Builtin.Str.occurrences a b 0 a.length 1 = i :: rest ∧ Q (.int (i : Nat)) H
theorem mt_indexT : MtR X "str.index" rIndexT := by
  intro pins s σ H x xs v us Q I rx rs h
  obtain ⟨a, b, i, rest, e1, e2, ho, q⟩ := h
  subst e1
  subst e2
  obtain ⟨t, e⟩ := rx
  subst e
  cases rs with
  | cons r1 rs =>
    cases rs
    obtain ⟨t2, e⟩ := r1
    subst e
    exact PySem.SC.index ho ⟨.int (i : Nat), H, I.tok _, ⟨_, rfl⟩, q⟩
theorem okM_index : okM .index rIndexT X T := by
  intro W σ H G x y v w Q s rx ry p
  cases x <;> try exact False.elim p
  cases y <;> try exact False.elim p
  rename_i z l
  rcases l with _ | ⟨c, _ | ⟨c2, l⟩⟩ <;> try exact False.elim p
  obtain ⟨i, hi, p⟩ := pmat p
  rw [rx.str, ry.str]
  have h := posC_head c z 0
  rw [hi] at h
  refine ⟨_, _, i, [], rfl, rfl, ?_, pv_int p s⟩
  rw [show txt [c] = ⟨#[c]⟩ from rfl, occ_pos, take1, h]
  simp
theorem se_mt {m : MT} {o a : Expr} {fo fa : Env → Res D} {apos pos : Pos} (hn : noStar a = true) (hs : noSup o = true) (hline : (apos.endLine == pos.line) = true) (ho : SR X T W O o fo) (ha : SR X T W O a fa) :
    SE X T W O (.Call (.Attribute o (mtN m) apos) [a] [] pos) (fun e => (fo e).bd fun x => if isStr x = true then ((fa e).bd fun y => meth m x [y]) else .bad) := by
  have hst : starEach [a] X.env = [(false, eval a X.env)] := star_cons hn
  have fin : ∀ (r : V → List V → Hp → VK → Prop), okM m r X T → PE X (.Call (.Attribute o (mtN m) apos) [a] [] pos) (tM1 r (cE X T W O (fun _ => RR T X.K) fo) (cE X T W O (fun _ => RR T X.K) fa)) →
      SE X T W O (.Call (.Attribute o (mtN m) apos) [a] [] pos) (fun e => (fo e).bd fun x => if isStr x = true then ((fa e).bd fun y => meth m x [y]) else .bad) := fun r ok pe =>
    PE.weak pe fun σ H Q ⟨G0, H0, G, e, rl, p⟩ => ⟨G0, H0, G, e, rl, p.bind fun x v H1 G1 x1 r1 p1 => by
      obtain ⟨hx, p1⟩ := pif p1
      cases x <;> first | (exact Bool.noConfusion (show false = true from hx)) | skip
      exact ⟨⟨_, r1.str⟩, G0, H0, G1, e, rl.ext x1, p1.bind fun y w H2 G2 x2 r2 p2 => ok W σ H2 G2 _ y v w Q ((rl.ext x1).ext x2).sub (r1.mono x2.h x2.g) r2 p2⟩⟩
  cases m
  · exact fin _ okM_join (pe_m1 F.slot_str_join F.type_str_join mt_join ho ha hst (sup_ok hs) hline)
  · exact fin _ okM_count (pe_m1 F.slot_str_count F.type_str_count mt_count ho ha hst (sup_ok hs) hline)
  · exact fin _ okM_find (pe_m1 F.slot_str_find F.type_str_find mt_find ho ha hst (sup_ok hs) hline)
  · exact fin _ okM_index (pe_m1 F.slot_str_index F.type_str_index mt_indexT ho ha hst (sup_ok hs) hline)
/-! ### isinstance -/
def kdS : Kd → String
  | .int => "int" | .bool => "bool" | .str => "str" | .tup => "tuple" | .lst => "list" | .cls _ => ""
def kdN : Kd → Str
  | .int => "int" | .bool => "bool" | .str => "str" | .tup => "tuple" | .lst => "list" | .cls _ => ""
def tyS : D → String
  | .non => "NoneType" | .bl _ => "bool" | .int _ => "int" | .str _ => "str" | .tup _ => "tuple" | .lst _ => "list" | _ => ""
def isB : Kd → Bool
  | .cls _ => false
  | _ => true
theorem kit_d {x : D} {k : Kd} (hk : isB k = true) (hx : kdOk x = true) : kitB (tyS x) (kdS k) = some (isKd x k) := by
  cases k <;> first | (exact Bool.noConfusion (show false = true from hk)) | skip
  all_goals
    cases x <;> first | (exact Bool.noConfusion (show false = true from hx)) | skip
    all_goals (simp only [tyS, kdS, isKd]; decide +kernel)
theorem tyX_of {x : D} {v : V} (hx : kdOk x = true) (s : Same G H) (r : RepR T X.K H G x v) : TyX X.K H v (.type (tyS x)) := by
  cases x <;> first | (exact Bool.noConfusion (show false = true from hx)) | skip
  · rw [r.non]; exact .base .non
  · rw [r.bl]; exact .base (.bl _)
  · rw [r.int]; exact .base (.int _)
  · rw [r.str]; exact .base (.str _)
  · obtain ⟨a, xs, rfl, h1, _⟩ := r.tup s
    rcases h1 with (h | ⟨o, h⟩) | ⟨o, its, n, h, hc, _⟩
    · exact .base (.tup h)
    · exact .fTuple h
    · exact .kTuple h hc
  · obtain ⟨a, xs, rfl, h1, _⟩ := r.lst
    exact .base (.lst h1)
theorem pe_tyN {x : Str} {n : String} {pos : Pos} (hg : Gl X x) (hm : X.mg x = none) (hv : bootBuiltins x = some (.type n)) (hn : x ≠ "__name__") (hd : (x == ("__debug__" : Str)) = false) : PE X (.Name x pos) (tC (.ty n)) :=
  ⟨fun _ _ _ H _ I h => ld_blt I hg hm hv ⟨.ty n, H, I, rfl, h⟩ hn hd⟩
theorem pe_kd {k : Kd} {pos : Pos} (hk : isB k = true) (hg : Gl X (kdN k)) (hm : X.mg (kdN k) = none) : PE X (.Name (kdN k) pos) (tC (.ty (kdS k))) := by
  cases k <;> first | (exact Bool.noConfusion (show false = true from hk)) | skip
  all_goals exact pe_tyN hg hm (by decide +kernel) (by decide) (by decide)
theorem se_isi {k : Kd} {a : Expr} {fa : Env → Res D} {p p2 pos : Pos} (hk : isB k = true) (hg : Gl X "isinstance") (hm : X.mg "isinstance" = none) (hg2 : Gl X (kdN k)) (hm2 : X.mg (kdN k) = none) (hn : noStar a = true) (ha : SR X T W O a fa) :
    SE X T W O (.Call (.Name "isinstance" p) [a, .Name (kdN k) p2] [] pos) (fun e => (fa e).bd fun x => if kdOk x = true then .ok (.bl (isKd x k)) else .bad) :=
  PE.weak (pe_callB call_isi hg hm boot_isinstance (pa_cons ha (pa_cons (pe_kd hk hg2 hm2) pa_nil) (star_cons hn)) (by decide) (by decide) (star_cons hn) (star_any rfl)) fun σ H Q q => one (a := cE X T W O (fun _ => RR T X.K) fa) rfl q fun G0 H0 G1 H1 e x v rl s rx p => by
    obtain ⟨hx, p⟩ := pif p
    exact ⟨v, _, _, _, _, rfl, .ty _, tyX_of hx rl.sub rx, kit_ty (kit_d hk hx), pv_bl p rl.sub⟩
theorem se_isi2 {k k2 : Kd} {a : Expr} {fa : Env → Res D} {p p2 p3 tp pos : Pos} {kk : Nat} (hk : isB k = true) (hk2 : isB k2 = true) (hg : Gl X "isinstance") (hm : X.mg "isinstance" = none) (hg1 : Gl X (kdN k)) (hm1 : X.mg (kdN k) = none) (hg2 : Gl X (kdN k2)) (hm2 : X.mg (kdN k2) = none) (hn : noStar a = true) (ha : SR X T W O a fa) :
    SE X T W O (.Call (.Name "isinstance" p) [a, .Tuple [.Name (kdN k) p2, .Name (kdN k2) p3] kk tp] [] pos) (fun e => (fa e).bd fun x => if kdOk x = true then .ok (.bl (isKd x k || isKd x k2)) else .bad) := by
  have ht : PE X (.Tuple [.Name (kdN k) p2, .Name (kdN k2) p3] kk tp) (tTup (tCons (tC (.ty (kdS k))) (tCons (tC (.ty (kdS k2))) tNil))) := pe_tup (pa_cons (pe_kd hk hg1 hm1) (pa_cons (pe_kd hk2 hg2 hm2) pa_nil))
  refine PE.weak (pe_callB call_isiT hg hm boot_isinstance (pa_cons ha (pa_cons ht pa_nil) (star_cons hn)) (by decide) (by decide) (star_cons hn) (star_any rfl)) fun σ H Q q => one (a := cE X T W O (fun _ => RR T X.K) fa) rfl q fun G0 H0 G1 H1 e x v rl s rx p => ?_
  obtain ⟨hx, p⟩ := pif p
  refine ⟨by rw [sizeLine_eq]; show 2 ≤ 16777216; decide, fun q hq => ?_⟩
  have s2 : Same H1 (upd H1 q (.tup [.ty (kdS k), .ty (kdS k2)])) := same_new hq
  have x2 := Ext.mine (o := .tup [.ty (kdS k), .ty (kdS k2)]) rl.sub hq
  refine ⟨v, q, _, _, [.type (kdS k), .type (kdS k2)], _, rfl, upd_same, .cons (.ty _) (.cons (.ty _) .nil), tyX_of hx x2.s (rx.mono x2.h x2.g), ?_, pv_bl (p.ext x2) x2.s⟩
  refine kitAny_cons (kit_ty (kit_d hk hx)) (fun h => ?_) (fun h => by rw [h]; rfl)
  refine kitAny_cons (kit_ty (kit_d hk2 hx)) (fun h2 => ?_) (fun h2 => by rw [h2, Bool.or_true])
  rw [h, h2]
  rfl
/-! ### fields -/
structure ClsOk (K : PySem.W.Frag) (C : Addr) (fl : List Str) : Prop where
  cl : Cls K C
  na : ∀ f ∈ fl, NoAttr K C f
  nd : fl.Nodup
theorem lookup_at : ∀ {fs : List (Str × V)} {j : Nat} {nm : Str} {v : V}, (fs.map (·.1)).Nodup → (fs.map (·.1))[j]? = some nm → (fs.map (·.2))[j]? = some v → fs.lookup nm = some v
  | [], j, _, _, _, h, _ => by simp at h
  | (n, u) :: r, 0, nm, v, _, h, h2 => by
    have e1 : n = nm := by simpa using h
    have e2 : u = v := by simpa using h2
    subst e1 e2
    simp [List.lookup]
  | (n, u) :: r, j + 1, nm, v, nd, h, h2 => by
    have h' : (r.map (·.1))[j]? = some nm := by simpa using h
    have hne : ¬ nm = n := by
      intro e
      subst e
      have := List.mem_of_getElem? h'
      simp only [List.map_cons, List.nodup_cons] at nd
      exact nd.1 this
    have e3 : (nm == n) = false := beq_eq_false_iff_ne.mpr hne
    show List.lookup nm ((n, u) :: r) = _
    rw [List.lookup, e3]
    exact lookup_at (by simp only [List.map_cons, List.nodup_cons] at nd; exact nd.2) h' (by simpa using h2)
theorem se_fld {c j : Nat} {nm : Str} {a : Expr} {fa : Env → Res D} {pos : Pos} (ok : ClsOk X.K (T.ca c) (T.fl c)) (hj : (T.fl c)[j]? = some nm) (hs : noSup a = true) (ha : SR X T W O a fa) :
    SE X T W O (.Attribute a nm pos) (fun e => (fa e).bd fun x => dFld c j x) := by
  refine PE.weak (pe_fld ha (sup_ok hs)) fun σ H Q ⟨G0, H0, G, e, rl, p⟩ => ⟨G0, H0, G, e, rl, p.bind fun x v H1 G1 x1 r1 p1 => ?_⟩
  cases x <;> try exact False.elim p1
  · rename_i c' l
    have p2 : c' = c ∧ Pv T X.K W σ H1 G1 (om l[j]? .ok) Q := pif p1
    clear p1
    obtain ⟨hc, p3⟩ := p2
    subst hc
    obtain ⟨a, dx, fs, rfl, h1, h2, h3⟩ := Rep.ins r1
    obtain ⟨d, hd, p1⟩ := pmat p3
    obtain ⟨u, h4, h5⟩ := h3.get hd
    exact ⟨a, _, dx, fs, u, rfl, x1.s _ _ h1, ok.cl, ok.na nm (List.mem_of_getElem? hj), lookup_at (by rw [h2]; exact ok.nd) (by rw [h2]; exact hj) h4, p1.ok (rl.ext x1).sub h5⟩
end
end E

set_option autoImplicit false
set_option linter.all false
set_option Elab.async false
set_option maxRecDepth 100000
/-! E9: what a for goes over. -/
namespace PySem
open Sem (wp)
open AutoSeq1 (wpAny_loadPart')
set_option maxHeartbeats 1000000 in
theorem E_meets_enumerate_newT (l : Addr) (items : Array Value) (o : Obj) :
    Meets (Builtin.«enumerate.__new__» ⟨[.type "enumerate", .ref l], []⟩) (fun _ R s => (s.heap.get? l = some o ∧ s.heap.IsTuple l items) ∧
      R (.ok (.ret (.ref (s.heap.push { cls := .type "tuple_iterator", data := .fields #[.ref l, .int 0 0] }).objs.size)))
        { s with heap := (s.heap.push { cls := .type "tuple_iterator", data := .fields #[.ref l, .int 0 0] }).push { cls := .type "enumerate", data := .fields #[.none, .bool false, .ref s.heap.objs.size, rawInt 0, .none, .none] } }) :=
  .of_wp fun prog w A R s h => by
    obtain ⟨hp, g, d, tk, os⟩ := s; obtain ⟨⟨hl, hT⟩, h⟩ := h
    have hsub := sub_enumerate
    wp_walk using wpAny_loadPart' hl
    refine wpAny_stack_any fun st => wpAny_pure ?_
    split
    · rename_i c _ _ _ _ _
      cases (c == Value.type "enumerate")
      · wp_walk using wpAny_loadPart' hl, wpAny_pyIter_tuple hT
        exact ⟨_, rfl, h⟩
      · wp_walk using wpAny_loadPart' hl, wpAny_pyIter_tuple hT
        exact ⟨_, rfl, h⟩
    · wp_walk using wpAny_loadPart' hl, wpAny_pyIter_tuple hT
      exact ⟨_, rfl, h⟩
section
variable {prog : Program} {w : World} {A : Around} {E : Value → Shared → Prop} {s : Shared}
theorem E_call_enumerate_tuple {l : Addr} {items : Array Value} {Q : Value → Shared → Prop} (hT : s.heap.IsTuple l items)
    (h : ∀ h', IsEnum h' (s.heap.objs.size + 1) s.heap.objs.size 0 .none → h'.IsTupleIter s.heap.objs.size l 0 → h'.objs.size = s.heap.objs.size + 2 →
      (∀ b o, s.heap.get? b = some o → h'.get? b = some o) → Q (.ref (s.heap.objs.size + 1)) { s with heap := h' }) :
    wpAny (model prog w) A (call (.type "enumerate") [.ref l]) Q E s := by
  obtain ⟨o, hl, _⟩ := id hT
  refine callType_new F.called_enumerate (by decide) (F.typeCall_enumerate_1 _) (F.newCall_enumerate_1 _) (fun obj => F.args_object_init_2 obj _) F.entry_enumerate_new
    (E_meets_enumerate_newT l items o) ⟨⟨hl, hT⟩, ?_⟩
  have hz : (s.heap.push { cls := .type "tuple_iterator", data := .fields #[.ref l, .int 0 0] }).objs.size = s.heap.objs.size + 1 := Heap.size_push ..
  show _ ∧ _
  rw [hz]
  have he : IsEnum ((s.heap.push { cls := .type "tuple_iterator", data := .fields #[.ref l, .int 0 0] }).push
      { cls := .type "enumerate", data := .fields #[.none, .bool false, .ref s.heap.objs.size, rawInt 0, .none, .none] }) (s.heap.objs.size + 1) s.heap.objs.size 0 .none := by
    have := Heap.get?_push_size (s.heap.push { cls := .type "tuple_iterator", data := .fields #[.ref l, .int 0 0] })
      (o := { cls := .type "enumerate", data := .fields #[.none, .bool false, .ref s.heap.objs.size, rawInt 0, .none, .none] }) rfl
    rw [hz] at this; exact this
  refine ⟨⟨_, he, rfl⟩, h _ he ⟨_, Heap.get?_push_of_some _ (Heap.get?_push_size _ rfl), rfl, rfl⟩ (by rw [Heap.size_push, hz]) fun b o x => Heap.get?_push_of_some _ (Heap.get?_push_of_some _ x)⟩
end
end PySem
namespace E
open PySem PySem.Spec PyProof.Rows L2

/-- a later state -/
structure Lat (G H1 G1 : Hp) : Prop where
  g : Same G G1
  s : Same G1 H1
structure IterOf (T : Tb) (K : PySem.W.Frag) (J : It) (H G : Hp) (l : List D) : Prop where
  go : ∀ i H1 G1, Lat G H1 G1 → i < l.length → J.go i H1
  stop : ∀ i H1 G1, Lat G H1 G1 → l.length = i → J.stop i H1
  yld : ∀ i H1 G1 x H2, Lat G H1 G1 → i < l.length → J.yld i H1 x H2 → ∃ G2 d, Ext H1 G1 H2 G2 ∧ l[i]? = some d ∧ Rep T K G2 d x
abbrev RI (T : Tb) (K : PySem.W.Frag) : Hp → Hp → List D → It → Prop := fun H G l J => IterOf T K J H G l
def SI (X : Cx) (T : Tb) (W : WX) (O : List Nat) (tg it : Expr) (f : Env → Res (List D)) : Prop := PI X tg it fun σ H R => ∃ G0 H0 G e, Rel T X.K O G0 H0 σ H G e ∧ PostG T X.K (RI T X.K) W σ H G (f e) R
theorem PI.weak {X : Cx} {tg it : Expr} {t t' : TI} (h : PI X tg it t) (k : ∀ σ H Q, t' σ H Q → t σ H Q) : PI X tg it t' := ⟨fun pins s σ H Q I q => h.run pins s σ H Q I (k σ H Q q)⟩
section
variable {X : Cx} {T : Tb} {W : WX} {O : List Nat} {σ : L2.St} {H G : Hp} {tg : Expr}
def iAny (K : PySem.W.Frag) (t : TE) : TI := fun σ H R => t σ H fun x H1 => (∃ a, x = .ref a ∧ (∃ xs, SqL K H1 a xs) ∧ R (Itl K a) H1) ∨ (∃ a, x = .ref a ∧ (∃ xs, SqT K H1 a xs) ∧ R (Itt K a) H1) ∨ ∃ z, x = .str z ∧ R (Its z) H1
theorem pi_any {e : Expr} {te : TE} (he : PE X e te) : PI X tg e (iAny X.K te) := by
  refine ⟨fun pins s σ H R I h => ?_⟩
  refine thn (he.run pins s σ H _ I h) fun v s1 ⟨x, H1, I1, r1, q1⟩ => ?_
  rcases q1 with ⟨a, e, ⟨xs, hq⟩, q⟩ | ⟨a, e, ⟨xs, hq⟩, q⟩ | ⟨z, e, q⟩
  · subst e
    cases r1
    obtain ⟨its, rv, p, hz⟩ := I1.list hq
    refine wpAny_pyIter_list p.isList ?_
    refine ⟨s1.heap.objs.size, [s1.heap.objs.size], _, _, H1, rfl, I1.kept (t' := s1.toks) fun b o e => Heap.get?_push_of_some _ e, turn_list a _, ⟨_, Heap.get?_push_size _ rfl, rfl, rfl⟩, fun b hb => ?_, q⟩
    have e : b = s1.heap.objs.size := by simpa using hb
    subst e
    exact I1.fpOk (Nat.le_refl _) (I1.hok.fresh (Nat.le_refl _))
  · subst e
    cases r1
    obtain ⟨its, rv, p, hz⟩ := I1.tuple hq
    refine wpAny_pyIter_tuple (show s1.heap.IsTuple a its.toArray from p) ?_
    refine ⟨s1.heap.objs.size, [s1.heap.objs.size], _, _, H1, rfl, I1.kept (t' := s1.toks) fun b o e => Heap.get?_push_of_some _ e, turn_tuple a _, ⟨_, Heap.get?_push_size _ rfl, rfl, rfl⟩, fun b hb => ?_, q⟩
    have e : b = s1.heap.objs.size := by simpa using hb
    subst e
    exact I1.fpOk (Nat.le_refl _) (I1.hok.fresh (Nat.le_refl _))
  · subst e
    obtain ⟨t, rfl⟩ := r1
    cases ha : z.cps.all (· < 128)
    · exact wpAny_pyIter_wide ha (pi_one (tk := s1.toks) I1 _ (turn_str _ z t "str_iterator" (.inr rfl)) ⟨_, Heap.get?_push_size _ rfl, rfl, rfl⟩ q)
    · exact wpAny_pyIter_ascii ha (pi_one (tk := s1.toks) I1 _ (turn_str _ z t "str_ascii_iterator" (.inl rfl)) ⟨_, Heap.get?_push_size _ rfl, rfl, rfl⟩ q)
theorem sqL_uniq_R {a : Addr} {xs ys : List V} (h : G a = some (.lst xs)) (s : Same G H) (hy : SqL X.K H a ys) (hk : X.K.lookup a = none) : ys = xs := by
  rcases hy with (hy | ⟨o, hy⟩) | ⟨o, its, n, hy, _⟩
  · rw [s _ _ h] at hy; cases hy; rfl
  · rw [s _ _ h] at hy; cases hy
  · rw [hk] at hy; cases hy
theorem iter_list {a : Addr} {xs : List V} {l : List D} (hl : G a = some (.lst xs)) (r : RepL T X.K G l xs) : IterOf T X.K (Itl X.K a) H G l where
  go := fun i H1 G1 x hi => by
    have hlt : i < xs.length := by rw [← r.length]; exact hi
    exact ⟨xs, xs[i], SqL.of (x.s _ _ (x.g _ _ hl)), List.getElem?_eq_getElem hlt⟩
  stop := fun i H1 G1 x hi => ⟨xs, SqL.of (x.s _ _ (x.g _ _ hl)), by rw [← r.length]; omega⟩
  yld := fun i H1 G1 v H2 x hi ⟨e, hy⟩ => by
    subst e
    obtain ⟨w, h1, h2⟩ := r.get (List.getElem?_eq_getElem hi)
    have := hy xs (SqL.of (x.s _ _ (x.g _ _ hl)))
    rw [this] at h1
    cases h1
    exact ⟨G1, _, .refl x.s, List.getElem?_eq_getElem hi, h2.mono x.g⟩
theorem iter_tup {a : Addr} {xs : List V} {l : List D} (hl : SqT X.K G a xs) (r : RepL T X.K G l xs) : IterOf T X.K (Itt X.K a) H G l where
  go := fun i H1 G1 x hi => by
    have hlt : i < xs.length := by rw [← r.length]; exact hi
    exact ⟨xs, xs[i], Same.sqt x.s (Same.sqt x.g hl), List.getElem?_eq_getElem hlt⟩
  stop := fun i H1 G1 x hi => ⟨xs, Same.sqt x.s (Same.sqt x.g hl), by rw [← r.length]; omega⟩
  yld := fun i H1 G1 v H2 x hi ⟨e, hy⟩ => by
    subst e
    obtain ⟨w, h1, h2⟩ := r.get (List.getElem?_eq_getElem hi)
    have := hy xs (Same.sqt x.s (Same.sqt x.g hl))
    rw [this] at h1
    cases h1
    exact ⟨G1, _, .refl x.s, List.getElem?_eq_getElem hi, h2.mono x.g⟩
theorem iter_scr {a : Addr} {l : List Int} (s : Same G H) (hl : SqL X.K G a (l.map V.int)) : IterOf T X.K (Itl X.K a) H G (l.map D.int) where
  go := fun i H1 G1 x hi => ⟨_, .int l[i]!, Same.seq x.s (Same.seq x.g hl), by
    have hlt : i < l.length := by simpa using hi
    simp [hlt]⟩
  stop := fun i H1 G1 x hi => ⟨_, Same.seq x.s (Same.seq x.g hl), by rw [← hi]; simp⟩
  yld := fun i H1 G1 v H2 x hi ⟨e, hy⟩ => by
    subst e
    have hlt : i < l.length := by simpa using hi
    have := hy _ (Same.seq x.s (Same.seq x.g hl))
    simp [hlt] at this
    subst this
    exact ⟨G1, .int l[i], .refl x.s, by simp [hlt], by simp⟩
theorem iter_str {a : List Nat} : IterOf T X.K (Its (txt a)) H G (a.map fun c => D.str [c]) where
  go := fun i H1 G1 x hi => by
    show i < (txt a).cps.size
    rw [show (txt a).cps.size = a.length from txt_len a]
    simpa using hi
  stop := fun i H1 G1 x hi => by
    show (txt a).cps.size ≤ i
    rw [show (txt a).cps.size = a.length from txt_len a, ← hi]
    simp
  yld := fun i H1 G1 v H2 x hi ⟨e, c, hc, hv⟩ => by
    subst e hv
    have hlt : i < a.length := by simpa using hi
    have hc' : a[i]? = some c := by
      rw [← hc, ← Array.getElem?_toList, txt_list]
    exact ⟨G1, .str [c], .refl x.s, by simp [hc'], by simp [txt]⟩
theorem si_any {it : Expr} {f : Env → Res D} (h : SE X T W O it f) : SI X T W O tg it (fun e => (f e).bd fun x => om (items x) .ok) :=
  PI.weak (pi_any h) fun σ H R ⟨G0, H0, G, e, rl, p⟩ => ⟨G0, H0, G, e, rl, p.bind fun x v H1 G1 x1 r1 p1 => by
    have s1 := (rl.ext x1).sub
    obtain ⟨l, hl, p1⟩ := pmat p1
    cases x <;> first | (cases hl; done) | skip
    · cases hl
      exact .inr (.inr ⟨_, r1.str, p1.ok s1 iter_str⟩)
    · cases hl
      obtain ⟨a, xs, rfl, h1, r2⟩ := r1.tup
      exact .inr (.inl ⟨a, rfl, ⟨xs, Same.sqt s1 h1⟩, p1.ok s1 (iter_tup h1 r2)⟩)
    · cases hl
      obtain ⟨a, xs, rfl, h1, r2⟩ := r1.lst
      exact .inl ⟨a, rfl, ⟨xs, SqL.of (s1 _ _ h1)⟩, p1.ok s1 (iter_list h1 r2)⟩
    · cases hl
      obtain ⟨a, rfl, h1⟩ := r1.scr
      exact .inl ⟨a, rfl, ⟨_, Same.seq s1 h1⟩, p1.ok s1 (iter_scr s1 h1)⟩⟩
theorem iter_rng {lo : Int} {n : Nat} {l : List D} (hl : l.length = n) (hi : ∀ i, i < n → l[i]? = some (.int (lo + (i : Nat)))) : IterOf T X.K (Itr lo n) H G l where
  go := fun i H1 G1 x h => by rw [hl] at h; exact h
  stop := fun i H1 G1 x h => by rw [hl] at h; exact Nat.le_of_eq h
  yld := fun i H1 G1 v H2 x h ⟨e, hv⟩ => by
    subst e hv
    rw [hl] at h
    exact ⟨G1, _, .refl x.s, hi i h, by simp⟩
theorem range_len (a b : Int) : (rangeD a b).length = (b - a).toNat := by simp [rangeD]
theorem range_get (a b : Int) {i : Nat} (h : i < (b - a).toNat) : (rangeD a b)[i]? = some (.int (a + (i : Nat))) := by simp [rangeD, h]
theorem si_rng1 {a : Expr} {fa : Env → Res D} {p pos : Pos} (hg : Gl X "range") (hm : X.mg "range" = none) (hn : noStar a = true) (ha : SR X T W O a fa) : SI X T W O tg (.Call (.Name "range" p) [a] [] pos) (fun e => ((fa e).bd fun x => biF .rng1 [x]).bd fun x => om (items x) .ok) :=
  PI.weak (pi_range1 hg hm (pa_one hn ha) (star_cons hn)) fun σ H R ⟨G0, H0, G, e, rl, p⟩ => ⟨G0, H0, G, e, rl, by
    simp only [bd_bd] at p
    exact p.bind fun x v H1 G1 x1 r1 p1 => by
      cases x <;> try exact False.elim p1
      obtain ⟨hl, p2⟩ := pifb p1
      rw [r1.int]
      exact ⟨_, rfl, by omega, by omega, p2.ok (rl.ext x1).sub (iter_rng (by simp [range_len]) fun i hi => range_get _ _ (by simpa using hi))⟩⟩
theorem si_rng2 {a b : Expr} {fa fb : Env → Res D} {p pos : Pos} (hg : Gl X "range") (hm : X.mg "range" = none) (hn : noStar a = true) (hn2 : noStar b = true) (ha : SR X T W O a fa) (hb : SR X T W O b fb) :
    SI X T W O tg (.Call (.Name "range" p) [a, b] [] pos) (fun e => ((fa e).bd fun x => (fb e).bd fun y => biF .rng2 [x, y]).bd fun x => om (items x) .ok) :=
  PI.weak (pi_range2 hg hm (pa_two hn hn2 ha hb) (by rw [star_cons hn, star_cons hn2]; rfl) (star_cons hn2)) fun σ H R ⟨G0, H0, G, e, rl, p⟩ => ⟨G0, H0, G, e, rl, by
    simp only [bd_bd] at p
    exact p.bind fun x v H1 G1 x1 r1 p1 => ⟨G0, H0, G1, e, rl.ext x1, by
      exact p1.bind fun y w H2 G2 x2 r2 p2 => by
        cases x <;> cases y <;> try exact False.elim p2
        obtain ⟨hl, p3⟩ := pifb p2
        rw [r1.int, r2.int]
        exact ⟨_, _, rfl, by omega, p3.ok ((rl.ext x1).ext x2).sub (iter_rng (range_len _ _) fun i hi => range_get _ _ hi)⟩⟩⟩
/-! ### enumerate -/
theorem enum_get : ∀ (l : List D) (k : Int) (i : Nat) (d : D), l[i]? = some d → (enumD l k)[i]? = some (.tup [.int (k + (i : Nat)), d])
  | [], _, _, _, h => by simp at h
  | x :: r, k, 0, d, h => by
    have e : x = d := by simpa using h
    subst e
    simp [enumD]
  | x :: r, k, i + 1, d, h => by
    have := enum_get r (k + 1) i d (by simpa using h)
    simp only [enumD, List.getElem?_cons_succ, this]
    congr 4
    omega
theorem enum_len : ∀ (l : List D) (k : Int), (enumD l k).length = l.length
  | [], _ => rfl
  | _ :: r, k => by simp [enumD, enum_len r]
theorem pair_ext {p : Addr} {i : Int} {d : D} {v : V} {H1 G1 : Hp} (s : Same G1 H1) (hp : H1 p = none) (r : Rep T X.K G1 d v) : Ext H1 G1 (upd H1 p (.tup [.int i, v])) (upd G1 p (.tup [.int i, v])) ∧ Rep T X.K (upd G1 p (.tup [.int i, v])) (.tup [.int i, d]) (.ref p) :=
  ⟨Ext.new s hp, Rep.mk_tup (SqT.of upd_same) (.cons (by simp) (.cons (r.mono (same_new (Same.none s hp))) .nil))⟩
theorem iter_enumL {a : Addr} {xs : List V} {l : List D} (hl : G a = some (.lst xs)) (r : RepL T X.K G l xs) : IterOf T X.K (Ite X.K a) H G (enumD l 0) where
  go := fun i H1 G1 x hi => by
    rw [enum_len] at hi
    have hlt : i < xs.length := by rw [← r.length]; exact hi
    exact ⟨xs, xs[i], SqL.of (x.s _ _ (x.g _ _ hl)), List.getElem?_eq_getElem hlt⟩
  stop := fun i H1 G1 x hi => ⟨xs, SqL.of (x.s _ _ (x.g _ _ hl)), by rw [enum_len] at hi; rw [← r.length]; omega⟩
  yld := fun i H1 G1 v H2 x hi ⟨p, w, e1, hp, e2, hy⟩ => by
    subst e1 e2
    rw [enum_len] at hi
    obtain ⟨u, h1, h2⟩ := r.get (List.getElem?_eq_getElem hi)
    have := hy xs (SqL.of (x.s _ _ (x.g _ _ hl)))
    rw [this] at h1
    cases h1
    obtain ⟨q1, q2⟩ := pair_ext (X := X) (i := (i : Nat)) x.s hp (h2.mono x.g)
    exact ⟨_, _, q1, by rw [enum_get _ _ _ _ (List.getElem?_eq_getElem hi)]; simp, q2⟩
/-- enumerate of a tuple -/
def IteT (K : PySem.W.Frag) (a : Addr) : It :=
  ⟨fun i H => ∃ (xs : List V) (x : V), SqT K H a xs ∧ xs[i]? = some x, fun i H v H' => ∃ T x, v = .ref T ∧ H T = none ∧ H' = upd H T (.tup [.int (i : Nat), x]) ∧ ∀ xs, SqT K H a xs → xs[i]? = some x, fun i H => ∃ xs : List V, SqT K H a xs ∧ xs.length = i⟩
theorem turn_enumT {P : Program} {w : World} {K : PySem.W.Frag} {elts : List Expr} {kk : Nat} {tpos : Pos} (a e it : Addr) :
    Turn P w K (.Tuple elts kk tpos) (IteT K a) [e, it] e (fun i h => (∃ old, IsEnum h e it ((i : Nat) : Int) old) ∧ h.IsTupleIter it a i ∧ e ≠ it) where
  mem := by simp
  obj := fun i h st b hb => by
    obtain ⟨⟨old, he⟩, ⟨o, ho, hc, hd⟩, _⟩ := st
    have e' : b = e ∨ b = it := by simpa using hb
    rcases e' with z | z
    · rw [z]; exact ⟨_, he, fun v q => nomatch q⟩
    · rw [z]; exact ⟨o, ho, fun v q => by rw [hd] at q; cases q⟩
  keep := fun i h h' st k => let ⟨⟨old, he⟩, hi, hne⟩ := st; ⟨⟨old, k e (by simp) _ he⟩, hi.at fun o q => k it (by simp) o q, hne⟩
  item := by
    intro X hP hw hK hc i pins s σ H E I hf st hg
    subst hP hw hK
    obtain ⟨⟨old, he⟩, hit, hne⟩ := st
    obtain ⟨xs, x, hq, hx⟩ := hg
    obtain ⟨its, rv, p, hz⟩ := I.tuple hq
    have p : s.heap.IsTuple a its.toArray := p
    obtain ⟨oa, hoa, hca, na, hda⟩ := id p
    have hae : a ≠ e := fun z => by
      subst z
      rw [he] at hoa
      cases hoa
      simp at hca
    have hai : a ≠ it := fun z => by
      subst z
      obtain ⟨o, ho, hc2, _⟩ := hit
      rw [hoa] at ho
      cases ho
      rw [hca] at hc2
      simp at hc2
    have hlt : i < its.toArray.size := by
      have := rv.length
      have h2 := (List.getElem?_eq_some_iff.mp hx).1
      simp
      omega
    have hel : e < s.heap.objs.size := Heap.lt_size he
    have hil : it < s.heap.objs.size := by obtain ⟨_, q, _⟩ := hit; exact Heap.lt_size q
    have hal : a < s.heap.objs.size := Heap.lt_size hoa
    refine wpAny_pyNext_enum_itemD (Draws.tuple (prog := X.prog) (w := X.w) (A := X.A.in1) (I.ok.hd hc) it a hai its.toArray) he ⟨hit, p⟩ hlt hne (by simp [hne, Ne.symm hae]) fun u h' tk hu ho hit' hT hsz hk => ?_
    have ru : RelV x u := by
      obtain ⟨u', hu', ru⟩ := rv.get hx
      have : its.toArray[i]? = some u := hu
      rw [List.getElem?_toArray, hu'] at this
      cases this
      exact ru
    refine ⟨_, rfl, wpAny_letOwnedTupleGo_enum (s := { s with heap := h', toks := tk + 1 }) ho fun h'' he' sb => ?_⟩
    have hT2 : h''.get? s.heap.objs.size = some { cls := .type "tuple", data := .seq #[.int i tk, u] } := (sb.2 _ (Nat.ne_of_gt hel)).trans hT
    have new : ObjOk X.prog X.w (upd H s.heap.objs.size (.tup [.int (i : Nat), x])) h'' s.heap.objs.size (.tup [.int (i : Nat), x]) :=
      ⟨by show 2 ≤ sizeLine; decide, [.int i tk, u], .cons ⟨_, rfl⟩ (.cons ru .nil), ⟨_, hT2, rfl, _, rfl⟩⟩
    have I1 : Inv X pins σ (upd H s.heap.objs.size (.tup [.int (i : Nat), x])) { s with heap := h'', toks := tk + 1 } :=
      I.turnedNew (ch := [e, it]) (fun b ob hb q => (sb.2 b (fun z => hb (by simp [z]))).trans (hk b ob (fun z => hb (by simp [z])) (fun z => hb (by simp [z])) q)) hf (Nat.le_refl _) new
    refine ⟨.ref s.heap.objs.size, _, I1, rfl, ⟨_, x, rfl, I.hok.fresh (Nat.le_refl _), rfl, fun ys hy => by rw [I.tuple_inj hy hq]; exact hx⟩, ⟨⟨u, ?_⟩, hit'.1.at fun o q => (sb.2 it (Ne.symm hne)).trans q, hne⟩, fun b hb => ?_⟩
    · have e1 : ((i + 1 : Nat) : Int) = (i : Int) + 1 := by omega
      rw [e1]; exact he'
    · have hb' : b < s.heap.objs.size := by
        have e' : b = e ∨ b = it := by simpa using hb
        rcases e' with z | z
        · rw [z]; exact hel
        · rw [z]; exact hil
      rw [upd_ne (Nat.ne_of_lt hb')]
      exact (hf b hb).1
  done := by
    intro X hP hw hK hc i pins s σ H E I hf st hg
    subst hP hw hK
    obtain ⟨⟨old, he⟩, hit, hne⟩ := st
    obtain ⟨xs, hq, hx⟩ := hg
    obtain ⟨its, rv, p, hz⟩ := I.tuple hq
    have p : s.heap.IsTuple a its.toArray := p
    obtain ⟨oa, hoa, hca, na, hda⟩ := id p
    have hai : a ≠ it := fun z => by
      subst z
      obtain ⟨o, ho, hc2, _⟩ := hit
      rw [hoa] at ho
      cases ho
      rw [hca] at hc2
      simp at hc2
    obtain ⟨f0, f1, f2, f3, f4, f5⟩ := hf it (by simp)
    have hae : a ≠ e := fun z => by
      subst z
      rw [he] at hoa
      cases hoa
      simp at hca
    have hl := rv.length
    have e1 : its.toArray.size = i := by simp; omega
    exact wpAny_pyNext_enum_endD (Draws.tuple (prog := X.prog) (w := X.w) (A := X.A.in1) (I.ok.hd hc) it a hai its.toArray) he (by rw [e1]; exact ⟨hit, p⟩) fun h' eb => ⟨rfl, I.turned (t' := s.toks) (fun b o hb q => eb b o hb q) f0 f1 f3 f4 f5⟩
  self := fun A i s Q E st h => let ⟨⟨_, he⟩, _⟩ := st; wpAny_pyIter_enum he h
/-- enumerate of a text -/
def IteS (z : Str) : It :=
  ⟨fun i _ => i < z.cps.size, fun i H v H' => ∃ T c, v = .ref T ∧ H T = none ∧ H' = upd H T (.tup [.int (i : Nat), .str ⟨#[c]⟩]) ∧ z.cps[i]? = some c, fun i _ => z.cps.size = i⟩
theorem turn_enumS {P : Program} {w : World} {K : PySem.W.Frag} {elts : List Expr} {kk : Nat} {tpos : Pos} (z : Str) (t : Tok) (e it : Addr) :
    Turn P w K (.Tuple elts kk tpos) (IteS z) [e, it] e (fun i h => (∃ old, IsEnum h e it ((i : Nat) : Int) old) ∧ h.IsStrIter it (strIterType z) z t i ∧ e ≠ it) where
  mem := by simp
  obj := fun i h st b hb => by
    obtain ⟨⟨old, he⟩, ⟨o, ho, hc, hd⟩, _⟩ := st
    have e' : b = e ∨ b = it := by simpa using hb
    rcases e' with z | z
    · rw [z]; exact ⟨_, he, fun v q => nomatch q⟩
    · rw [z]; exact ⟨o, ho, fun v q => by rw [hd] at q; cases q⟩
  keep := fun i h h' st k => let ⟨⟨old, he⟩, ⟨o, ho, r⟩, hne⟩ := st; ⟨⟨old, k e (by simp) _ he⟩, ⟨o, k it (by simp) o ho, r⟩, hne⟩
  item := by
    intro X hP hw hK hc i pins s σ H E I hf st hg
    subst hP hw hK
    obtain ⟨⟨old, he⟩, hit, hne⟩ := st
    have hlt : i < z.cps.size := hg
    have hel : e < s.heap.objs.size := Heap.lt_size he
    have hil : it < s.heap.objs.size := by obtain ⟨_, q, _⟩ := hit; exact Heap.lt_size q
    refine wpAny_pyNext_enum_itemD (Draws.text (prog := X.prog) (w := X.w) (A := X.A.in1) (I.ok.hd hc) it z t) he hit hlt hne (by simp [hne]) fun u h' tk hu ho hit' hT hsz hk => ?_
    obtain ⟨c, tc, hcz, rfl⟩ := hu
    refine ⟨_, rfl, wpAny_letOwnedTupleGo_enum (s := { s with heap := h', toks := tk + 1 }) ho fun h'' he' sb => ?_⟩
    have hT2 : h''.get? s.heap.objs.size = some { cls := .type "tuple", data := .seq #[.int i tk, .str ⟨#[c]⟩ tc] } := (sb.2 _ (Nat.ne_of_gt hel)).trans hT
    have new : ObjOk X.prog X.w (upd H s.heap.objs.size (.tup [.int (i : Nat), .str ⟨#[c]⟩])) h'' s.heap.objs.size (.tup [.int (i : Nat), .str ⟨#[c]⟩]) :=
      ⟨by show 2 ≤ sizeLine; decide, [.int i tk, .str ⟨#[c]⟩ tc], .cons ⟨_, rfl⟩ (.cons ⟨_, rfl⟩ .nil), ⟨_, hT2, rfl, _, rfl⟩⟩
    have I1 : Inv X pins σ (upd H s.heap.objs.size (.tup [.int (i : Nat), .str ⟨#[c]⟩])) { s with heap := h'', toks := tk + 1 } :=
      I.turnedNew (ch := [e, it]) (fun b ob hb q => (sb.2 b (fun z => hb (by simp [z]))).trans (hk b ob (fun z => hb (by simp [z])) (fun z => hb (by simp [z])) q)) hf (Nat.le_refl _) new
    refine ⟨.ref s.heap.objs.size, _, I1, rfl, ⟨_, c, rfl, I.hok.fresh (Nat.le_refl _), rfl, hcz⟩, ⟨⟨.str ⟨#[c]⟩ tc, ?_⟩, ?_, hne⟩, fun b hb => ?_⟩
    · have e1 : ((i + 1 : Nat) : Int) = (i : Int) + 1 := by omega
      rw [e1]; exact he'
    · obtain ⟨o, ho, r⟩ := hit'
      exact ⟨o, (sb.2 it (Ne.symm hne)).trans ho, r⟩
    · have hb' : b < s.heap.objs.size := by
        have e' : b = e ∨ b = it := by simpa using hb
        rcases e' with z | z
        · rw [z]; exact hel
        · rw [z]; exact hil
      rw [upd_ne (Nat.ne_of_lt hb')]
      exact (hf b hb).1
  done := by
    intro X hP hw hK hc i pins s σ H E I hf st hg
    subst hP hw hK
    obtain ⟨⟨old, he⟩, hit, hne⟩ := st
    obtain ⟨f0, f1, f2, f3, f4, f5⟩ := hf it (by simp)
    have e1 : z.cps.size = i := hg
    exact wpAny_pyNext_enum_endD (Draws.text (prog := X.prog) (w := X.w) (A := X.A.in1) (I.ok.hd hc) it z t) he (by rw [e1]; exact hit) fun h' eb => ⟨rfl, I.turned (t' := s.toks) (fun b o hb q => eb b o hb q) f0 f1 f3 f4 f5⟩
  self := fun A i s Q E st h => let ⟨⟨_, he⟩, _⟩ := st; wpAny_pyIter_enum he h
def iEnumA (K : PySem.W.Frag) (ta : TA) : TI := fun σ H R => ta σ H fun vs H1 => ∃ v, vs = [v] ∧ ((∃ a xs, v = .ref a ∧ SqL K H1 a xs ∧ R (Ite K a) H1) ∨ (∃ a xs, v = .ref a ∧ SqT K H1 a xs ∧ R (IteT K a) H1) ∨ ∃ z, v = .str z ∧ R (IteS z) H1)
theorem pi_enumA {e : Expr} {ta : TA} {p pos tpos : Pos} {elts : List Expr} {kk : Nat} (hg : Gl X "enumerate") (hm : X.mg "enumerate" = none) (ha : PA X [e] ta) (hs : starEach [e] X.env = [(false, eval e X.env)]) :
    PI X (.Tuple elts kk tpos) (.Call (.Name "enumerate" p) [e] [] pos) (iEnumA X.K ta) := by
  refine ⟨fun pins s σ H R I h => ?_⟩
  refine Call_ (ld_blt I hg hm boot_enumerate (PyProof.Rows.callWith_type1 (thn (ha.run pos pins s σ H _ I h) fun us s1 ⟨vs, H1, I1, r1, q1⟩ => ?_) hs rfl))
  obtain ⟨v, ex, q1⟩ := q1
  subst ex
  cases r1 with
  | cons r rr =>
    cases rr
    have fp : ∀ b ∈ [s1.heap.objs.size + 1, s1.heap.objs.size], FpOk X pins H1 b := fun b hb => by
      have e' : b = s1.heap.objs.size + 1 ∨ b = s1.heap.objs.size := by simpa using hb
      have hle : s1.heap.objs.size ≤ b := by
        rcases e' with z | z
        · rw [z]; exact Nat.le_add_right _ _
        · rw [z]; exact Nat.le_refl _
      exact I1.fpOk hle (I1.hok.fresh hle)
    rcases q1 with ⟨a, xs, e, hq, q⟩ | ⟨a, xs, e, hq, q⟩ | ⟨z, e, q⟩
    · subst e
      cases r
      obtain ⟨its, rv, p', hz⟩ := I1.list hq
      refine call_enumerate_list p'.isList fun h' he hit hsz hk => wpAny_pyIter_enum he ?_
      have I2 : Inv X pins σ H1 { s1 with heap := h' } := I1.kept (t' := s1.toks) hk
      exact ⟨s1.heap.objs.size + 1, [s1.heap.objs.size + 1, s1.heap.objs.size], _, _, H1, rfl, I2, turn_enum a (s1.heap.objs.size + 1) s1.heap.objs.size, ⟨⟨.none, he⟩, hit, Nat.succ_ne_self _⟩, fp, q⟩
    · subst e
      cases r
      obtain ⟨its, rv, p', hz⟩ := I1.tuple hq
      refine E_call_enumerate_tuple (show s1.heap.IsTuple a its.toArray from p') fun h' he hit hsz hk => wpAny_pyIter_enum he ?_
      have I2 : Inv X pins σ H1 { s1 with heap := h' } := I1.kept (t' := s1.toks) hk
      exact ⟨s1.heap.objs.size + 1, [s1.heap.objs.size + 1, s1.heap.objs.size], _, _, H1, rfl, I2, turn_enumT a (s1.heap.objs.size + 1) s1.heap.objs.size, ⟨⟨.none, he⟩, hit, Nat.succ_ne_self _⟩, fp, q⟩
    · subst e
      obtain ⟨t, rfl⟩ := r
      refine call_enumerate_str fun h' he hit hsz hk => wpAny_pyIter_enum he ?_
      have I2 : Inv X pins σ H1 { s1 with heap := h' } := I1.kept (t' := s1.toks) hk
      exact ⟨s1.heap.objs.size + 1, [s1.heap.objs.size + 1, s1.heap.objs.size], _, _, H1, rfl, I2, turn_enumS z t (s1.heap.objs.size + 1) s1.heap.objs.size, ⟨⟨.none, he⟩, hit, Nat.succ_ne_self _⟩, fp, q⟩
theorem iter_enumT {a : Addr} {xs : List V} {l : List D} (hl : SqT X.K G a xs) (r : RepL T X.K G l xs) : IterOf T X.K (IteT X.K a) H G (enumD l 0) where
  go := fun i H1 G1 x hi => by
    rw [enum_len] at hi
    have hlt : i < xs.length := by rw [← r.length]; exact hi
    exact ⟨xs, xs[i], Same.sqt x.s (Same.sqt x.g hl), List.getElem?_eq_getElem hlt⟩
  stop := fun i H1 G1 x hi => ⟨xs, Same.sqt x.s (Same.sqt x.g hl), by rw [enum_len] at hi; rw [← r.length]; omega⟩
  yld := fun i H1 G1 v H2 x hi ⟨p, w, e1, hp, e2, hy⟩ => by
    subst e1 e2
    rw [enum_len] at hi
    obtain ⟨u, h1, h2⟩ := r.get (List.getElem?_eq_getElem hi)
    have := hy xs (Same.sqt x.s (Same.sqt x.g hl))
    rw [this] at h1
    cases h1
    obtain ⟨q1, q2⟩ := pair_ext (X := X) (i := (i : Nat)) x.s hp (h2.mono x.g)
    exact ⟨_, _, q1, by rw [enum_get _ _ _ _ (List.getElem?_eq_getElem hi)]; simp, q2⟩
theorem iter_enumS {a : List Nat} : IterOf T X.K (IteS (txt a)) H G (enumD (a.map fun c => D.str [c]) 0) where
  go := fun i H1 G1 x hi => by
    show i < (txt a).cps.size
    rw [show (txt a).cps.size = a.length from txt_len a]
    rw [enum_len] at hi
    simpa using hi
  stop := fun i H1 G1 x hi => by
    show (txt a).cps.size = i
    rw [show (txt a).cps.size = a.length from txt_len a, ← hi, enum_len]
    simp
  yld := fun i H1 G1 v H2 x hi ⟨p, c, e1, hp, e2, hc⟩ => by
    subst e1 e2
    rw [enum_len] at hi
    have hlt : i < a.length := by simpa using hi
    have hc' : a[i]? = some c := by
      rw [← hc, ← Array.getElem?_toList, txt_list]
    obtain ⟨q1, q2⟩ := pair_ext (T := T) (X := X) (d := .str [c]) (i := (i : Nat)) x.s hp (v := .str ⟨#[c]⟩) (by simp [txt])
    exact ⟨_, _, q1, by rw [enum_get _ _ _ (.str [c]) (by simp [hc'])]; simp, q2⟩
theorem si_enum {elts : List Expr} {kk : Nat} {tpos : Pos} {a : Expr} {fa : Env → Res D} {p pos : Pos} (hg : Gl X "enumerate") (hm : X.mg "enumerate" = none) (hn : noStar a = true) (ha : SE X T W O a fa) :
    SI X T W O (.Tuple elts kk tpos) (.Call (.Name "enumerate" p) [a] [] pos) (fun e => ((fa e).bd fun x => biF .enum [x]).bd fun x => om (items x) .ok) :=
  PI.weak (pi_enumA hg hm (pa_cons ha pa_nil (star_cons hn)) (star_cons hn)) fun σ H R ⟨G0, H0, G, e, rl, p⟩ => ⟨G0, H0, G, e, rl, by
    simp only [bd_bd] at p
    exact p.bind fun x v H1 G1 x1 r1 p1 => by
      have s1 := (rl.ext x1).sub
      have p2 : ∃ l, asList x = some l ∧ PostG T X.K (RI T X.K) W σ H1 G1 (.ok (enumD l 0)) R := by
        cases q : asList x with
        | none => simp only [biF, q] at p1; exact False.elim p1
        | some l => simp only [biF, q] at p1; exact ⟨l, rfl, p1⟩
      obtain ⟨l, hl, p2⟩ := p2
      refine ⟨v, rfl, ?_⟩
      cases x <;> first | (cases hl; done) | skip
      · cases hl
        exact .inr (.inr ⟨_, r1.str, p2.ok s1 iter_enumS⟩)
      · cases hl
        obtain ⟨a, xs, rfl, h1, r2⟩ := r1.tup
        exact .inr (.inl ⟨a, xs, rfl, Same.sqt s1 h1, p2.ok s1 (iter_enumT h1 r2)⟩)
      · cases hl
        obtain ⟨a, xs, rfl, h1, r2⟩ := r1.lst
        exact .inl ⟨a, xs, rfl, SqL.of (s1 _ _ h1), p2.ok s1 (iter_enumL h1 r2)⟩⟩
end
end E

set_option autoImplicit false
set_option linter.all false
set_option Elab.async false
set_option maxRecDepth 100000
/-! E10: targets, list comprehensions. -/
namespace E
open PySem PySem.Spec PyProof.Rows L2

def setV : List Nat → List V → L2.St → L2.St
  | i :: is, v :: vs, σ => setV is vs (σ.set i (some v))
  | _, _, σ => σ
theorem setV_len : ∀ (t : List Nat) (vs : List V) (σ : L2.St), (setV t vs σ).length = σ.length
  | [], _, _ => rfl
  | _ :: _, [], _ => rfl
  | i :: is, v :: vs, σ => by
    show (setV is vs (σ.set i (some v))).length = _
    rw [setV_len is vs]; simp
theorem setV_off : ∀ (t : List Nat) (vs : List V) (σ : L2.St) (j : Nat), j ∉ t → (setV t vs σ)[j]? = σ[j]?
  | [], _, _, _, _ => rfl
  | _ :: _, [], _, _, _ => rfl
  | i :: is, v :: vs, σ, j, h => by
    show (setV is vs (σ.set i (some v)))[j]? = _
    rw [setV_off is vs _ j (fun z => h (List.mem_cons_of_mem _ z)), List.getElem?_set_ne (fun z => h (by rw [z]; exact List.mem_cons_self))]
theorem setV_ext : ∀ (t : List Nat) (vs : List V) (σ σ' : L2.St), vs.length = t.length → σ.length = σ'.length → (∀ j, j ∉ t → σ[j]? = σ'[j]?) → setV t vs σ = setV t vs σ'
  | [], [], σ, σ', _, _, h => by
    show σ = σ'
    exact List.ext_getElem? fun j => h j (by simp)
  | [], _ :: _, _, _, e, _, _ => by simp at e
  | _ :: _, [], _, _, e, _, _ => by simp at e
  | i :: is, v :: vs, σ, σ', e, el, h => by
    refine setV_ext is vs _ _ (by simpa using e) (by simpa using el) fun j hj => ?_
    by_cases hi : i = j
    · subst hi
      by_cases hl : i < σ.length
      · rw [List.getElem?_set_self hl, List.getElem?_set_self (by omega)]
      · rw [List.getElem?_eq_none (by simp; omega), List.getElem?_eq_none (by simp; omega)]
    · rw [List.getElem?_set_ne hi, List.getElem?_set_ne hi]
      exact h j fun z => (List.mem_cons.mp z).elim (fun q => hi q.symm) hj
theorem wipe_len : ∀ (t : List Nat) (σ : L2.St), (wipe σ t).length = σ.length
  | [], _ => rfl
  | i :: t, σ => by simp [wipe, wipe_len t σ]
theorem wipe_off : ∀ (t : List Nat) (σ : L2.St) (j : Nat), j ∉ t → (wipe σ t)[j]? = σ[j]?
  | [], _, _, _ => rfl
  | i :: t, σ, j, h => by
    show ((wipe σ t).set i none)[j]? = _
    rw [List.getElem?_set_ne (fun z => h (by rw [z]; exact List.mem_cons_self)), wipe_off t σ j fun z => h (List.mem_cons_of_mem _ z)]
theorem wipe_in : ∀ (t : List Nat) (σ : L2.St) (j : Nat), j ∈ t → (wipe σ t)[j]? = if j < σ.length then some none else none
  | [], _, _, h => by simp at h
  | i :: t, σ, j, h => by
    show ((wipe σ t).set i none)[j]? = _
    by_cases hi : i = j
    · subst hi
      by_cases hl : i < σ.length
      · rw [List.getElem?_set_self (by rw [wipe_len]; exact hl), if_pos hl]
      · rw [List.getElem?_eq_none (by simp [wipe_len]; omega), if_neg hl]
    · rw [List.getElem?_set_ne hi]
      exact wipe_in t σ j ((List.mem_cons.mp h).elim (fun q => absurd q.symm hi) id)
theorem wipe_eq (t : List Nat) (σ σ' : L2.St) (el : σ.length = σ'.length) (h : ∀ j, j ∉ t → σ[j]? = σ'[j]?) : wipe σ t = wipe σ' t := by
  refine List.ext_getElem? fun j => ?_
  by_cases hj : j ∈ t
  · rw [wipe_in t σ j hj, wipe_in t σ' j hj, el]
  · rw [wipe_off t σ j hj, wipe_off t σ' j hj, h j hj]
theorem wipe_set (t : List Nat) (vs : List V) (σ : L2.St) : wipe (setV t vs (wipe σ t)) t = wipe σ t :=
  wipe_eq t _ _ (by rw [setV_len, wipe_len]) fun j hj => by rw [setV_off t vs _ j hj, wipe_off t σ j hj]
section
variable {T : Tb} {K : PySem.W.Frag} {O : List Nat} {G0 H0 : Hp} {σ : L2.St} {H G : Hp} {e : Env}
theorem Rel.set1 {i : Nat} {d : D} {v : V} (r : Rel T K O G0 H0 σ H G e) (rv : Rep T K G d v) (hi : i ∉ O) (hp : i ∉ T.pr) : Rel T K O G0 H0 (σ.set i (some v)) H G (e.set i (some d)) where
  x := r.x
  s0 := r.s0
  z := r.z
  ze := T.zs (fun j hj => by
    have hij : i ≠ j := fun z => hp (z ▸ hj)
    exact ⟨List.getElem?_set_ne hij, List.getElem?_set_ne hij⟩) r.ze
  po := r.po
  len := by simpa using r.len
  val := fun j d' hj ho => by
    by_cases hij : i = j
    · subst hij
      by_cases hl : i < e.length
      · rw [List.getElem?_set_self hl] at hj
        cases hj
        exact ⟨v, List.getElem?_set_self (by rw [r.len]; exact hl), rv⟩
      · rw [List.getElem?_eq_none (by simp; omega)] at hj
        cases hj
    · rw [List.getElem?_set_ne hij] at hj ⊢
      exact r.val j d' hj ho
  own := fun j hj => by
    have hij : i ≠ j := fun z => hi (by rw [z]; exact hj)
    rw [List.getElem?_set_ne hij, List.getElem?_set_ne hij]
    exact r.own j hj
  dis := fun j hj k hk hjk p q h1 h2 => by
    have hij : i ≠ j := fun z => hi (by rw [z]; exact hj)
    have hik : i ≠ k := fun z => hi (by rw [z]; exact hk)
    rw [List.getElem?_set_ne hij] at h1
    rw [List.getElem?_set_ne hik] at h2
    exact r.dis j hj k hk hjk p q h1 h2
theorem Rel.setAll : ∀ {t : List Nat} {ds : List D} {vs : List V} {σ : L2.St} {e e' : Env}, Rel T K O G0 H0 σ H G e → RepL T K G ds vs → E.setAll t ds e = some e' → (∀ i ∈ t, i ∉ O ∧ i ∉ T.pr) → Rel T K O G0 H0 (setV t vs σ) H G e'
  | [], [], _, _, _, _, r, rv, h, _ => by cases h; rw [rv.nil_inv]; exact r
  | [], _ :: _, _, _, _, _, _, _, h, _ => by cases h
  | _ :: _, [], _, _, _, _, _, _, h, _ => by cases h
  | i :: is, d :: ds, _, σ, e, e', r, rv, h, ho => by
    obtain ⟨v, vs, rfl, h1, h2⟩ := rv.cons_inv
    show Rel T K O G0 H0 (setV is vs (σ.set i (some v))) H G e'
    exact Rel.setAll (r.set1 h1 (ho i List.mem_cons_self).1 (ho i List.mem_cons_self).2) h2 h fun j hj => ho j (List.mem_cons_of_mem _ hj)
theorem setAll_len : ∀ {t : List Nat} {ds : List D} {e e' : Env}, E.setAll t ds e = some e' → ds.length = t.length
  | [], [], _, _, _ => rfl
  | [], _ :: _, _, _, h => by cases h
  | _ :: _, [], _, _, h => by cases h
  | i :: is, d :: ds, e, e', h => by simp [setAll_len (t := is) (ds := ds) h]
end
/-- the store of a value into the target -/
def gA (K : PySem.W.Frag) (t : List Nat) (one : Bool) : TG := fun v σ H Q => if one = true then Q (setV t [v] σ) H else ∃ a xs, v = .ref a ∧ (SqT K H a xs ∨ SqL K H a xs) ∧ xs.length = t.length ∧ Q (setV t xs σ) H
section
variable {X : Cx} {T : Tb} {W : WX} {O : List Nat} {σ : L2.St} {H G : Hp}
theorem asg_ok {G0 H0 : Hp} {t : List Nat} {one : Bool} {d : D} {v : V} {e e' : Env} {Q : L2.St → Hp → Prop} (r : Rel T X.K O G0 H0 σ H G e) (rv : Rep T X.K G d v) (h : asg t one d e = some e') (ho : ∀ i ∈ t, i ∉ O ∧ i ∉ T.pr) {σ' : L2.St} (hl : σ'.length = σ.length) (ht : ∀ j, j ∉ t → σ'[j]? = σ[j]?)
    (q : ∀ xs, xs.length = t.length → Rel T X.K O G0 H0 (setV t xs σ') H G e' → Q (setV t xs σ') H) : gA X.K t one v σ' H Q := by
  unfold gA
  unfold asg at h
  by_cases h1 : one = true
  · rw [if_pos h1] at h ⊢
    have hl2 := setAll_len h
    refine q [v] (by simpa using hl2) ?_
    rw [setV_ext t [v] σ' σ (by simpa using hl2) hl ht]
    exact r.setAll (.cons rv .nil) h ho
  · rw [if_neg h1] at h ⊢
    cases d <;> first | (cases h; done) | skip
    · obtain ⟨a, xs, rfl, h2, r2⟩ := rv.tup
      have hl2 := setAll_len h
      refine ⟨a, xs, rfl, .inl (Same.sqt r.sub h2), by rw [← r2.length, hl2], q xs (by rw [← r2.length, hl2]) ?_⟩
      rw [setV_ext t xs σ' σ (by rw [← r2.length, hl2]) hl ht]
      exact r.setAll r2 h ho
    · obtain ⟨a, xs, rfl, h2, r2⟩ := rv.lst
      have hl2 := setAll_len h
      refine ⟨a, xs, rfl, .inr (SqL.of (r.sub _ _ h2)), by rw [← r2.length, hl2], q xs (by rw [← r2.length, hl2]) ?_⟩
      rw [setV_ext t xs σ' σ (by rw [← r2.length, hl2]) hl ht]
      exact r.setAll r2 h ho
/-! ### list comprehension -/
def noW : WX := fun _ _ _ _ => False
theorem post_nox {α β : Type} {R : Hp → Hp → α → β → Prop} {r : Res α} {Q : β → Hp → Prop} (p : PostG T X.K R W σ H G (nox r) Q) : ∃ a, r = .ok a ∧ PostG T X.K R W σ H G (.ok a) Q := by
  cases r with
  | ok a => exact ⟨a, rfl, p⟩
  | err c l => exact False.elim p
  | bad => exact False.elim p
theorem PTs.weak {ifs : List Expr} {t t' : TT} (h : PTs X ifs t) (k : ∀ σ H Q, t' σ H Q → t σ H Q) : PTs X ifs t' := ⟨fun pins s σ H Q I q => h.run pins s σ H Q I (k σ H Q q)⟩
def STs (X : Cx) (T : Tb) (W : WX) (O : List Nat) (ifs : List Expr) (f : Env → Res Bool) : Prop := PTs X ifs (cE X T W O (fun _ => RB) f)
theorem st_nil : STs X T W O [] (fun _ => .ok true) := PTs.weak pts_nil fun σ H Q ⟨G0, H0, G, e, rl, p⟩ => p.ok rl.sub rfl
theorem st_one {c : Expr} {f : Env → Res Bool} (h : SB X T W O c f) : STs X T W O [c] f := pts_one h
theorem lc_key {t : List Nat} {one : Bool} {own : List (Str × Nat)} {fi : Env → Res (List D)} {fc : Env → Res Bool} {fe : Env → Res D} (hown : own.map (·.2) = t) (ho : ∀ i ∈ t, i ∉ O ∧ i ∉ T.pr) {σ : L2.St} {H : Hp} {Q : VK}
    (q0 : cE X T W O (RF T X.K) (fun e => ((fi e).bd fun l => if l.length < LIM then (lcL (fun d => om (asg t one d e) fun e' => (fc e').bd fun k => if k = true then (fe e').bd fun y => .ok (some y) else .ok none) l).bd fun ys => .ok (.lst ys) else .bad).bd onlyL) σ H Q) :
    tLc (fun σ H R => ∃ G0 H0 G e, Rel T X.K O G0 H0 σ H G e ∧ PostG T X.K (RI T X.K) W σ H G (fi e) R) (gA X.K t one) (cE X T noW O (fun _ => RB) fc) (cE X T noW O (fun _ => RV T X.K) fe) (own.map (·.2)) σ H Q := by
  obtain ⟨G0, H0, G, e, rl, p⟩ := q0
  simp only [bd_bd] at p
  refine ⟨G0, H0, G, e, rl, p.bind fun l J H1 G1 x1 it p1 => ?_⟩
  obtain ⟨hlim, p1⟩ := pifb p1
  rw [hown]
  intro D hD
  have rl1 := rl.ext x1
  -- the walk
  refine ⟨fun i m H2 => m = l.length - i ∧ i ≤ l.length ∧ ∃ G2 ys vs, Ext H1 G1 (upd H2 D (.lst vs)) G2 ∧ H2 = upd H2 D (.lst vs) ∧ G2 D = none ∧ RepL T X.K G2 ys vs ∧ vs.length ≤ i ∧
      PostG T X.K (RF T X.K H) W σ H1 G1 ((lcL (fun d => om (asg t one d e) fun e' => (fc e').bd fun k => if k = true then (fe e').bd fun y => .ok (some y) else .ok none) (l.drop i)).bd fun zs => .ok (.lst (ys ++ zs))) Q, ⟨l.length, by simp, Nat.zero_le _, G1, [], [], ?_, ?_, Same.none rl1.sub hD, .nil, Nat.le_refl _, ?_⟩, ?_⟩
  · rw [upd_upd]
    exact Ext.mine rl1.sub hD
  · rw [upd_upd]
  · simpa [onlyL, bd_bd] using p1
  rintro i m H2 ⟨rfl, hi, G2, ys, vs, x2, e2, hG2, ry, hv, p2⟩
  rw [← e2] at x2
  have hH2 : H2 D = some (.lst vs) := by rw [e2]; exact upd_same
  by_cases hlt : i < l.length
  · refine .inr ⟨it.go i _ _ ⟨x2.g, x2.s⟩ hlt, fun H' => ∃ G3 ys' vs', Ext H1 G1 H' G3 ∧ H' D = some (.lst vs') ∧ G3 D = none ∧ RepL T X.K G3 ys' vs' ∧ vs'.length ≤ i + 1 ∧
      PostG T X.K (RF T X.K H) W σ H1 G1 ((lcL (fun d => om (asg t one d e) fun e' => (fc e').bd fun k => if k = true then (fe e').bd fun y => .ok (some y) else .ok none) (l.drop (i + 1))).bd fun zs => .ok (.lst (ys' ++ zs))) Q, ?_, ?_⟩
    · rintro H' ⟨G3, ys', vs', a1, a2, a3, a4, a5, a6⟩
      have e3 : H' = upd H' D (.lst vs') := by
        funext b
        by_cases hb : b = D
        · subst hb; rw [upd_same]; exact a2
        · rw [upd_ne hb]
      exact ⟨l.length - (i + 1), by omega, rfl, hlt, G3, ys', vs', by rw [← e3]; exact a1, e3, a3, a4, a5, a6⟩
    · intro x H' y
      obtain ⟨G3, d, x3, hd, rd⟩ := it.yld i _ _ x H' ⟨x2.g, x2.s⟩ hlt y
      have x23 := x2.trans x3
      have rl3 := rl1.ext x23
      -- the body's value
      have hdrop : l.drop i = d :: l.drop (i + 1) := by
        rw [List.drop_eq_getElem_cons hlt]
        congr 1
        exact (List.getElem?_eq_some_iff.mp hd).2
      rw [hdrop, lcL, bd_bd] at p2
      have p3 : ∃ o, (om (asg t one d e) fun e' => (fc e').bd fun k => if k = true then (fe e').bd fun y => .ok (some y) else .ok none) = .ok o ∧ PostG T X.K (RF T X.K H) W σ H1 G1 ((lcL (fun d => om (asg t one d e) fun e' => (fc e').bd fun k => if k = true then (fe e').bd fun y => .ok (some y) else .ok none) (l.drop (i + 1))).bd fun zs => .ok (.lst ((match o with | some y => ys ++ [y] | none => ys) ++ zs))) Q := by
        cases q : (om (asg t one d e) fun e' => (fc e').bd fun k => if k = true then (fe e').bd fun y => .ok (some y) else .ok none) with
        | err c l => rw [q] at p2; exact False.elim p2
        | bad => rw [q] at p2; exact False.elim p2
        | ok o =>
          rw [q] at p2
          refine ⟨o, rfl, ?_⟩
          simp only [nox, bd_ok, bd_bd] at p2
          cases o with
          | none => simpa using p2
          | some y => simpa using p2
      obtain ⟨o, ho1, p3⟩ := p3
      cases ha : asg t one d e with
      | none => rw [ha] at ho1; cases ho1
      | some e' =>
        rw [ha] at ho1
        simp only [om_some] at ho1
        refine asg_ok (σ := σ) rl3 rd ha ho (by rw [wipe_len]) (fun j hj => wipe_off t σ j hj) fun xs hxs rl4 => ⟨wipe_set t xs σ, G0, H0, G3, e', rl4, ?_⟩
        have hH3 : H' D = some (.lst vs) := x3.h _ _ hH2
        have hG3 : G3 D = none := x3.n D (by rw [hH2]; simp) hG2
        cases qc : fc e' with
        | err c l => rw [qc] at ho1; cases ho1
        | bad => rw [qc] at ho1; cases ho1
        | ok k =>
          rw [qc] at ho1
          simp only [bd_ok] at ho1
          intro b H4 G4 x4 hb
          have hb : b = k := hb
          subst hb
          have rl5 := rl4.ext x4
          cases b with
          | false =>
            rw [if_neg (by simp)]
            rw [if_neg (by simp)] at ho1
            cases ho1
            exact ⟨G4, ys, vs, x23.trans x4, x4.h _ _ hH3, x4.n D (by rw [hH3]; simp) hG3, (ry.mono x3.g).mono x4.g, by omega, p3⟩
          | true =>
            rw [if_pos rfl]
            rw [if_pos rfl] at ho1
            refine ⟨G0, H0, G4, e', rl5, ?_⟩
            cases qe : fe e' with
            | err c l => rw [qe] at ho1; cases ho1
            | bad => rw [qe] at ho1; cases ho1
            | ok y =>
              rw [qe] at ho1
              cases ho1
              intro v H5 G5 x5 rv
              have hH5 : H5 D = some (.lst vs) := x5.h _ _ (x4.h _ _ hH3)
              have hG5 : G5 D = none := x5.n D (by rw [x4.h _ _ hH3]; simp) (x4.n D (by rw [hH3]; simp) hG3)
              have x15 := (x23.trans x4).trans x5
              refine ⟨vs, hH5, by rw [← LIM_eq]; omega, G5, ys ++ [y], vs ++ [v], ?_, upd_same, hG5, (((ry.mono x3.g).mono x4.g).mono x5.g).append (.cons rv .nil), by simp; omega, p3⟩
              exact ⟨fun b o hb => by
                have hbD : b ≠ D := fun z => by subst z; rw [hD] at hb; cases hb
                rw [upd_ne hbD]; exact x15.h _ _ hb, x15.g, fun b o hb => by
                have hbD : b ≠ D := fun z => by subst z; rw [hG5] at hb; cases hb
                rw [upd_ne hbD]; exact x15.s _ _ hb, x15.n⟩
  · have e3 : l.length = i := by omega
    refine .inl ⟨it.stop i _ _ ⟨x2.g, x2.s⟩ e3, ?_⟩
    rw [List.drop_eq_nil_of_le (by omega)] at p2
    simp only [lcL, bd_ok, List.append_nil] at p2
    refine p2 (.ref D) H2 G2 x2 ⟨ys, D, vs, rfl, rfl, hH2, hG2, ?_, ry⟩
    cases q : H D with
    | none => rfl
    | some o => rw [x1.h _ _ q] at hD; cases hD
theorem se_lc {t : List Nat} {one : Bool} {elt tg iter : Expr} {ifs : List Expr} {scope : Scope} {own : List (Str × Nat)} {pos : Pos} {fi : Env → Res (List D)} {fc : Env → Res Bool} {fe : Env → Res D}
    (hc : X.calm = true) (hN : X.N.Nodup) (hi : SI X T W O tg iter fi) (ok : BlkOk X.N X.env.scope scope own) (hown : own.map (·.2) = t) (ho : ∀ i ∈ t, i ∉ O ∧ i ∉ T.pr)
    (hg : ∀ (s : Shared) (H : Hp) (C : Addr) (cl : List (Str × Addr)) (fp : List Addr), PG (X.blk s H scope (compEnvC scope cl C X.env) fp) tg (gA X.K t one))
    (ht : ∀ (s : Shared) (H : Hp) (C : Addr) (cl : List (Str × Addr)) (fp : List Addr), STs (X.blk s H scope (compEnvC scope cl C X.env) fp) T noW O ifs fc)
    (he : ∀ (s : Shared) (H : Hp) (C : Addr) (cl : List (Str × Addr)) (fp : List Addr), SE (X.blk s H scope (compEnvC scope cl C X.env) fp) T noW O elt fe)
    (hs : ∀ x, foldedSetIterable iter X.env x = pure x) :
    SF X T W O (.ListComp elt [⟨tg, iter, ifs, 0⟩] scope pos) (fun e => (fi e).bd fun l => if l.length < LIM then (lcL (fun d => om (asg t one d e) fun e' => (fc e').bd fun k => if k = true then (fe e').bd fun y => .ok (some y) else .ok none) l).bd fun ys => .ok (.lst ys) else .bad) := by
  exact PE.weak (pe_lc (tt := cE X T noW O (fun _ => RB) fc) (te := cE X T noW O (fun _ => RV T X.K) fe) hc hN hi ok hg ht he hs) fun σ H Q q => lc_key hown ho q
end
end E

set_option autoImplicit false
set_option linter.all false
set_option Elab.async false
set_option maxRecDepth 100000
/-! E11: statements. -/
namespace E
open PySem PySem.Spec PyProof.Rows L2

section
variable {T : Tb} {K : PySem.W.Frag} {O O' : List Nat} {G0 H0 : Hp} {σ : L2.St} {H G : Hp} {e : Env}
theorem Rel.memb (r : Rel T K O G0 H0 σ H G e) (h : ∀ i, i ∈ O' ↔ i ∈ O) : Rel T K O' G0 H0 σ H G e where
  x := r.x
  s0 := r.s0
  z := r.z
  ze := r.ze
  po := fun i hi z => r.po i hi ((h i).mp z)
  len := r.len
  val := fun i d h1 h2 => r.val i d h1 fun z => h2 ((h i).mpr z)
  own := fun i hi => r.own i ((h i).mp hi)
  dis := fun i hi j hj => r.dis i ((h i).mp hi) j ((h j).mp hj)
/-- one list is given away -/
theorem Rel.drop1 (i : Nat) (r : Rel T K O G0 H0 σ H G e) : ∃ G', Same G G' ∧ Rel T K (O.filter (· != i)) G0 H0 σ H G' e := by
  have mem : ∀ j, j ∈ O.filter (· != i) ↔ j ∈ O ∧ j ≠ i := fun j => by simp
  by_cases hi : i ∈ O
  · obtain ⟨l, p, xs, h1, h2, h3, h4, h5, h6⟩ := r.own i hi
    have s2 : Same G (upd G p xs) := same_new h4
    refine ⟨_, s2, ⟨r.x.give h5 h3 h4, r.s0, T.zm s2 r.z, r.ze, fun j hj z => r.po j hj ((mem j).mp z).1, r.len, fun j d hj ho => ?_, fun j hj => ?_, fun j hj k hk => r.dis j ((mem j).mp hj).1 k ((mem k).mp hk).1⟩⟩
    · by_cases hij : j = i
      · subst hij
        rw [h1] at hj
        cases hj
        exact ⟨_, h2, (h6.mono s2).rep upd_same⟩
      · obtain ⟨v, q1, q2⟩ := r.val j d hj fun z => ho ((mem j).mpr ⟨z, hij⟩)
        exact ⟨v, q1, q2.mono s2⟩
    · obtain ⟨hj1, hj2⟩ := (mem j).mp hj
      obtain ⟨l2, p2, xs2, q1, q2, q3, q4, q5, q6⟩ := r.own j hj1
      have hne : p2 ≠ p := fun z => r.dis j hj1 i hi hj2 p2 p q2 h2 z
      exact ⟨l2, p2, xs2, q1, q2, q3, by rw [upd_ne hne]; exact q4, q5, q6.mono s2⟩
  · exact ⟨G, Same.refl _, r.memb fun j => by
      rw [mem]
      exact ⟨fun z => z.1, fun z => ⟨z, fun q => hi (q ▸ z)⟩⟩⟩
theorem Rel.drops : ∀ (is : List Nat) {O : List Nat} {G : Hp}, Rel T K O G0 H0 σ H G e → ∃ G', Same G G' ∧ Rel T K (O.filter fun j => !is.contains j) G0 H0 σ H G' e
  | [], O, G, r => ⟨G, Same.refl _, r.memb fun j => by simp⟩
  | i :: is, O, G, r => by
    obtain ⟨G1, s1, r1⟩ := r.drop1 i
    obtain ⟨G2, s2, r2⟩ := Rel.drops is r1
    refine ⟨G2, s1.trans s2, r2.memb fun j => ?_⟩
    simp only [List.mem_filter, List.contains_cons, Bool.not_or, Bool.and_eq_true, bne_iff_ne, ne_eq, Bool.not_eq_true', beq_eq_false_iff_ne]
    exact ⟨fun ⟨a, b, c⟩ => ⟨⟨a, b⟩, c⟩, fun ⟨⟨a, b⟩, c⟩ => ⟨a, b, c⟩⟩
theorem Rel.weaken (r : Rel T K O G0 H0 σ H G e) (h : ∀ i ∈ O', i ∈ O) : ∃ G', Same G G' ∧ Rel T K O' G0 H0 σ H G' e := by
  obtain ⟨G1, s1, r1⟩ := r.drops (O.filter fun j => !O'.contains j)
  refine ⟨G1, s1, r1.memb fun j => ?_⟩
  simp only [List.mem_filter, List.contains_eq_mem, Bool.not_eq_true', decide_eq_false_iff_not, List.mem_filter, not_and, Bool.not_eq_eq_eq_not, Bool.not_true, decide_eq_false_iff_not, Decidable.not_not]
  exact ⟨fun z => ⟨h j z, fun _ => z⟩, fun ⟨a, b⟩ => b a⟩
/-- a new list in a slot -/
theorem Rel.setO {i : Nat} {d0 : D} {p : Addr} {o : HO} (r : Rel T K O G0 H0 σ H G e) (hp : H p = some o) (hg : G p = none) (h0 : H0 p = none) (hd : ∀ j ∈ O, ∀ q, σ[j]? = some (some (.ref q)) → q ≠ p) (rl : OwnO T K G o d0) (hi : i < e.length) (hpr : i ∉ T.pr) :
    ∃ G', Same G G' ∧ Rel T K (i :: O.filter (· != i)) G0 H0 (σ.set i (some (.ref p))) H G' (e.set i (some d0)) := by
  have mem : ∀ j, j ∈ O.filter (· != i) ↔ j ∈ O ∧ j ≠ i := fun j => by simp
  -- the list that stood there is given away
  have key : ∃ G', Same G G' ∧ G' p = none ∧ Rel T K (O.filter (· != i)) G0 H0 σ H G' e := by
    by_cases hio : i ∈ O
    · obtain ⟨l', p', xs', h1, h2, h3, h4, h5, h6⟩ := r.own i hio
      have hne : p' ≠ p := hd i hio p' h2
      have s2 : Same G (upd G p' xs') := same_new h4
      refine ⟨_, s2, by rw [upd_ne (Ne.symm hne)]; exact hg, ⟨r.x.give h5 h3 h4, r.s0, T.zm s2 r.z, r.ze, fun j hj z => r.po j hj ((mem j).mp z).1, r.len, fun j d hj ho => ?_, fun j hj => ?_, fun j hj k hk => r.dis j ((mem j).mp hj).1 k ((mem k).mp hk).1⟩⟩
      · by_cases hij : j = i
        · subst hij
          rw [h1] at hj
          cases hj
          exact ⟨_, h2, (h6.mono s2).rep upd_same⟩
        · obtain ⟨v, q1, q2⟩ := r.val j d hj fun z => ho ((mem j).mpr ⟨z, hij⟩)
          exact ⟨v, q1, q2.mono s2⟩
      · obtain ⟨hj1, hj2⟩ := (mem j).mp hj
        obtain ⟨l2, p2, xs2, q1, q2, q3, q4, q5, q6⟩ := r.own j hj1
        have hne : p2 ≠ p' := fun z => r.dis j hj1 i hio hj2 p2 p' q2 h2 z
        exact ⟨l2, p2, xs2, q1, q2, q3, by rw [upd_ne hne]; exact q4, q5, q6.mono s2⟩
    · exact ⟨G, Same.refl _, hg, r.memb fun j => by
        rw [mem]
        exact ⟨fun z => z.1, fun z => ⟨z, fun q => hio (q ▸ z)⟩⟩⟩
  obtain ⟨G1, s1, g1, r1⟩ := key
  refine ⟨G1, s1, ⟨r1.x, r1.s0, r1.z, T.zs (fun j hj => by
    have hij : i ≠ j := fun z => hpr (z ▸ hj)
    exact ⟨List.getElem?_set_ne hij, List.getElem?_set_ne hij⟩) r1.ze, fun j hj z => (List.mem_cons.mp z).elim (fun q => hpr (q ▸ hj)) (r1.po j hj), by simpa using r1.len, fun j d hj ho => ?_, fun j hj => ?_, fun j hj k hk hjk a b ha hb => ?_⟩⟩
  · have hij : i ≠ j := fun z => ho (by rw [z]; exact List.mem_cons_self)
    rw [List.getElem?_set_ne hij] at hj ⊢
    exact r1.val j d hj fun z => ho (List.mem_cons_of_mem _ z)
  · by_cases hij : i = j
    · subst hij
      exact ⟨d0, p, o, List.getElem?_set_self hi, List.getElem?_set_self (by rw [r.len]; exact hi), hp, g1, h0, rl.mono s1⟩
    · rw [List.getElem?_set_ne hij, List.getElem?_set_ne hij]
      exact r1.own j ((List.mem_cons.mp hj).elim (fun z => absurd z.symm hij) id)
  · have hl : i < σ.length := by rw [r.len]; exact hi
    rcases List.mem_cons.mp hj with z1 | z1
    · subst z1
      rw [List.getElem?_set_self hl] at ha
      cases ha
      have hk' := (List.mem_cons.mp hk).elim (fun z => absurd z.symm hjk) id
      rw [List.getElem?_set_ne hjk] at hb
      exact fun z => hd k ((mem k).mp hk').1 b hb z.symm
    · rcases List.mem_cons.mp hk with z2 | z2
      · subst z2
        rw [List.getElem?_set_self hl] at hb
        cases hb
        rw [List.getElem?_set_ne (Ne.symm hjk)] at ha
        exact hd j ((mem j).mp z1).1 a ha
      · have n1 : i ≠ j := ((mem j).mp z1).2.symm
        have n2 : i ≠ k := ((mem k).mp z2).2.symm
        rw [List.getElem?_set_ne n1] at ha
        rw [List.getElem?_set_ne n2] at hb
        exact r1.dis j z1 k z2 hjk a b ha hb
theorem Rel.setF {i : Nat} {l : List D} {p : Addr} {xs : List V} (r : Rel T K O G0 H0 σ H G e) (hp : H p = some (.lst xs)) (hg : G p = none) (h0 : H0 p = none) (hd : ∀ j ∈ O, ∀ q, σ[j]? = some (some (.ref q)) → q ≠ p) (rl : RepL T K G l xs) (hi : i < e.length) (hpr : i ∉ T.pr) :
    ∃ G', Same G G' ∧ Rel T K (i :: O.filter (· != i)) G0 H0 (σ.set i (some (.ref p))) H G' (e.set i (some (.lst l))) := r.setO hp hg h0 hd ⟨xs, rfl, rl⟩ hi hpr
/-- a kept object is changed -/
theorem Rel.mutO {i : Nat} {d' : D} {p : Addr} {o' : HO} (r : Rel T K O G0 H0 σ H G e) (hi : i ∈ O) (hσ : σ[i]? = some (some (.ref p))) (rl : OwnO T K G o' d') :
    Rel T K O G0 H0 σ (upd H p o') G (e.set i (some d')) := by
  obtain ⟨l, p', xs2, h1, h2, h3, h4, h5, h6⟩ := r.own i hi
  rw [hσ] at h2
  cases h2
  have hie : i < e.length := (List.getElem?_eq_some_iff.mp h1).1
  refine ⟨⟨fun b u q => ?_, r.x.g, fun b u q => ?_, r.x.n⟩, r.s0, r.z, T.zs (fun j hj => by
    have hij : i ≠ j := fun z => r.po i (z ▸ hj) hi
    exact ⟨List.getElem?_set_ne hij, rfl⟩) r.ze, r.po, by simpa using r.len, fun j d hj ho => ?_, fun j hj => ?_, r.dis⟩
  · have hb : b ≠ p := fun z => by rw [z, h5] at q; cases q
    rw [upd_ne hb]
    exact r.x.h _ _ q
  · have hb : b ≠ p := fun z => by rw [z, h4] at q; cases q
    rw [upd_ne hb]
    exact r.sub _ _ q
  · have hij : i ≠ j := fun z => ho (z ▸ hi)
    rw [List.getElem?_set_ne hij] at hj
    exact r.val j d hj ho
  · by_cases hij : i = j
    · subst hij
      exact ⟨d', p, o', List.getElem?_set_self hie, hσ, upd_same, h4, h5, rl⟩
    · rw [List.getElem?_set_ne hij]
      obtain ⟨l2, p2, xs3, q1, q2, q3, q4, q5, q6⟩ := r.own j hj
      have hne : p2 ≠ p := r.dis j hj i hi (Ne.symm hij) p2 p q2 hσ
      exact ⟨l2, p2, xs3, q1, q2, by rw [upd_ne hne]; exact q3, q4, q5, q6⟩
theorem Rel.mut {i : Nat} {l' : List D} {p : Addr} {xs xs' : List V} (r : Rel T K O G0 H0 σ H G e) (hi : i ∈ O) (hσ : σ[i]? = some (some (.ref p))) (hp : H p = some (.lst xs)) (rl : RepL T K G l' xs') :
    Rel T K O G0 H0 σ (upd H p (.lst xs')) G (e.set i (some (.lst l'))) := r.mutO hi hσ ⟨xs', rfl, rl⟩
/-! ### what follows a statement -/
def PostS (T : Tb) (K : PySem.W.Frag) (W : WX) (O' L : List Nat) (G0 H0 Gs : Hp) (D : Ends) : Out → Prop
  | .nx e' => ∀ σ' H' G', Rel T K O' G0 H0 σ' H' G' e' → Same Gs G' → D.nx σ' H'
  | .rt d => ∀ v H' G', Ext H0 G0 H' G' → Rep T K G' d v → D.rt v H'
  | .bk e' => ∀ σ' H' G', Rel T K L G0 H0 σ' H' G' e' → Same Gs G' → D.bk σ' H'
  | .ct e' => ∀ σ' H' G', Rel T K L G0 H0 σ' H' G' e' → Same Gs G' → D.ct σ' H'
  | .ex e' c l => ∀ od σ' H' G', Rel T K [] G0 H0 σ' H' G' e' → Same Gs G' → ExcAt T K G' c l od → W (.ref (T.ca c)) od σ' H'
  | .bad => False
theorem out_bind {Gs : Hp} {α β : Type} {R : Hp → Hp → α → β → Prop} {W : WX} {L : List Nat} {D : Ends} {r : Res α} {f : α → Out} {P : β → Hp → Prop} (rl : Rel T K O G0 H0 σ H G e) (gs : Same Gs G) (p : PostS T K W O' L G0 H0 Gs D (r.out e f))
    (k : ∀ a b H' G', Ext H G H' G' → R H' G' a b → PostS T K W O' L G0 H0 Gs D (f a) → P b H') : PostG T K R W σ H G r P := by
  cases r with
  | ok a => exact fun b H' G' x q => k a b H' G' x q p
  | err c l =>
    intro od H' G' x q
    obtain ⟨G2, s2, r2⟩ := (rl.ext x).weaken (O' := []) (by simp)
    exact p od σ H' G2 r2 ((gs.trans x.g).trans s2) (q.mono s2)
  | bad => exact p
theorem PostS.weak {Gs : Hp} {W : WX} {L O2 : List Nat} {D : Ends} {o : Out} (p : PostS T K W O2 L G0 H0 Gs D o) (h : ∀ i ∈ O2, i ∈ O') : PostS T K W O' L G0 H0 Gs D o := by
  cases o with
  | nx e' =>
    intro σ' H' G' r gs
    obtain ⟨G2, s2, r2⟩ := r.weaken h
    exact p σ' H' G2 r2 (gs.trans s2)
  | rt d => exact p
  | bk e' => exact p
  | ct e' => exact p
  | ex e' c l => exact p
  | bad => exact p
end
def cS (X : Cx) (T : Tb) (W : WX) (O O' L : List Nat) (f : Env → Out) : TS := fun D σ H => ∃ G0 H0 Gs G e, Rel T X.K O G0 H0 σ H G e ∧ Same Gs G ∧ PostS T X.K W O' L G0 H0 Gs D (f e)
def SS (X : Cx) (T : Tb) (W : WX) (O O' L : List Nat) (st : Stmt) (f : Env → Out) : Prop := PS X st (cS X T W O O' L f)
def SSs (X : Cx) (T : Tb) (W : WX) (O O' L : List Nat) (st : List Stmt) (f : Env → Out) : Prop := PSs X st (cS X T W O O' L f)
theorem PS.weak {X : Cx} {st : Stmt} {t t' : TS} (h : PS X st t) (k : ∀ D σ H, t' D σ H → t D σ H) : PS X st t' := ⟨fun pins s σ H D I q => h.run pins s σ H D I (k D σ H q)⟩
theorem PSs.weak {X : Cx} {st : List Stmt} {t t' : TS} (h : PSs X st t) (k : ∀ D σ H, t' D σ H → t D σ H) : PSs X st t' := ⟨fun pins s σ H D I q => h.run pins s σ H D I (k D σ H q)⟩
section
variable {X : Cx} {T : Tb} {W : WX} {O O' O1 O2 L : List Nat}
theorem SSs.out {st : List Stmt} {f : Env → Out} (h : SSs X T W O O1 L st f) (hw : ∀ i ∈ O', i ∈ O1) : SSs X T W O O' L st f := PSs.weak h fun D σ H ⟨G0, H0, Gs, G, e, r, gs, p⟩ => ⟨G0, H0, Gs, G, e, r, gs, p.weak hw⟩
theorem SSs.inn {st : List Stmt} {f : Env → Out} (h : SSs X T W O1 O' L st f) (hw : ∀ i ∈ O1, i ∈ O) : SSs X T W O O' L st f := PSs.weak h fun D σ H ⟨G0, H0, Gs, G, e, r, gs, p⟩ => by
  obtain ⟨G2, s2, r2⟩ := r.weaken hw
  exact ⟨G0, H0, Gs, G2, e, r2, gs.trans s2, p⟩
theorem SS.inn {st : Stmt} {f : Env → Out} (h : SS X T W O1 O' L st f) (hw : ∀ i ∈ O1, i ∈ O) : SS X T W O O' L st f := PS.weak h fun D σ H ⟨G0, H0, Gs, G, e, r, gs, p⟩ => by
  obtain ⟨G2, s2, r2⟩ := r.weaken hw
  exact ⟨G0, H0, Gs, G2, e, r2, gs.trans s2, p⟩
theorem ss_nil : SSs X T W O O L [] .nx := PSs.weak pss_nil fun D σ H ⟨G0, H0, Gs, G, e, r, gs, p⟩ => p σ H G r gs
def seqO (f g : Env → Out) : Env → Out := fun e => match f e with
  | .nx e' => g e'
  | o => o
theorem ss_cons {st : Stmt} {rest : List Stmt} {f g : Env → Out} (h1 : SS X T W O O1 L st f) (h2 : SSs X T W O1 O' L rest g) : SSs X T W O O' L (st :: rest) (seqO f g) :=
  PSs.weak (pss_cons h1 h2) fun D σ H ⟨G0, H0, Gs, G, e, r, gs, p⟩ => by
    refine ⟨G0, H0, Gs, G, e, r, gs, ?_⟩
    unfold seqO at p
    cases q : f e with
    | nx e' =>
      rw [q] at p
      exact fun σ' H' G' r' gs' => ⟨G0, H0, Gs, G', e', r', gs', p⟩
    | rt d => rw [q] at p; exact p
    | bk e' => rw [q] at p; exact p
    | ct e' => rw [q] at p; exact p
    | ex e' c l => rw [q] at p; exact p
    | bad => rw [q] at p; exact p
theorem ss_if {c : Expr} {a b : List Stmt} {pos : Pos} {fc : Env → Res Bool} {fa fb : Env → Out} (hc : SB X T W O c fc) (ha : SSs X T W O O' L a fa) (hb : SSs X T W O O' L b fb) :
    SS X T W O O' L (.If c a b pos) (fun e => (fc e).out e fun k => if k = true then fa e else fb e) :=
  PS.weak (ps_if hc ha hb) fun D σ H ⟨G0, H0, Gs, G, e, r, gs, p⟩ => ⟨G0, H0, G, e, r, out_bind r gs p fun k v H1 G1 x1 r1 p1 => by
    have r1 : v = k := r1
    subst r1
    cases v with
    | true => exact ⟨G0, H0, Gs, G1, e, r.ext x1, gs.trans x1.g, p1⟩
    | false => exact ⟨G0, H0, Gs, G1, e, r.ext x1, gs.trans x1.g, p1⟩⟩
theorem ss_ret {x : Expr} {pos : Pos} {f : Env → Res D} (h : SE X T W O x f) : SS X T W O O' L (.Return (some x) pos) (fun e => (f e).out e .rt) :=
  PS.weak (ps_ret h) fun D σ H ⟨G0, H0, Gs, G, e, r, gs, p⟩ => ⟨G0, H0, G, e, r, out_bind r gs p fun d v H1 G1 x1 r1 p1 => p1 v H1 G1 (r.x.trans x1) r1⟩
theorem ss_retN {pos : Pos} : SS X T W O O' L (.Return none pos) (fun _ => .rt .non) :=
  PS.weak ps_retN fun D σ H ⟨G0, H0, Gs, G, e, r, gs, p⟩ => p .non H G r.x (by simp)
theorem ss_pass {pos : Pos} : SS X T W O O L (.Pass pos) .nx := PS.weak ps_pass fun D σ H ⟨G0, H0, Gs, G, e, r, gs, p⟩ => p σ H G r gs
theorem ss_brk {pos : Pos} (hw : ∀ i ∈ L, i ∈ O) : SS X T W O O' L (.Break pos) .bk := PS.weak ps_break fun D σ H ⟨G0, H0, Gs, G, e, r, gs, p⟩ => by
  obtain ⟨G2, s2, r2⟩ := r.weaken hw
  exact p σ H G2 r2 (gs.trans s2)
theorem ss_cont {pos : Pos} (hw : ∀ i ∈ L, i ∈ O) : SS X T W O O' L (.Continue pos) .ct := PS.weak ps_continue fun D σ H ⟨G0, H0, Gs, G, e, r, gs, p⟩ => by
  obtain ⟨G2, s2, r2⟩ := r.weaken hw
  exact p σ H G2 r2 (gs.trans s2)
theorem ss_expr {x : Expr} {pos : Pos} {f : Env → Res D} (h : SE X T W O x f) (hs : swapsWith x none pos.line X.env = pure false) : SS X T W O O L (.Expr x pos) (fun e => (f e).out e fun _ => .nx e) :=
  PS.weak (ps_expr h hs) fun D σ H ⟨G0, H0, Gs, G, e, r, gs, p⟩ => ⟨G0, H0, G, e, r, out_bind r gs p fun d v H1 G1 x1 r1 p1 => p1 σ H1 G1 (r.ext x1) (gs.trans x1.g)⟩
theorem ss_asg {t : List Nat} {one : Bool} {tg x : Expr} {pos : Pos} {f : Env → Res D} (ho : ∀ i ∈ t, i ∉ O ∧ i ∉ T.pr) (key : PS X (.Assign [tg] x pos) (tAsg (cE X T W O (fun _ => RV T X.K) f) (gA X.K t one))) : SS X T W O O L (.Assign [tg] x pos) (fun e => (f e).out e fun d => omO (asg t one d e) .nx) :=
  PS.weak key fun D σ H ⟨G0, H0, Gs, G, e, r, gs, p⟩ => ⟨G0, H0, G, e, r, out_bind r gs p fun d v H1 G1 x1 r1 p1 => by
    cases q : asg t one d e with
    | none => rw [q] at p1; exact False.elim p1
    | some e' =>
      rw [q] at p1
      exact asg_ok (r.ext x1) r1 q ho rfl (fun _ _ => rfl) fun xs _ r2 => p1 _ _ _ r2 (gs.trans x1.g)⟩
/-- a name, a new list -/
theorem ss_own {i : Nat} {y : Str} {x : Expr} {pos py : Pos} {f : Env → Res D} (key : PS X (.Assign [.Name y py] x pos) (tAsg (cE X T W O (RF T X.K) fun e => (f e).bd onlyL) (gName i))) (hi : ∀ (s : Shared) (σ : L2.St) (H : Hp) (pins : List (Addr × Obj)), Inv X pins σ H s → i < σ.length) (hpr : i ∉ T.pr) :
    SS X T W O (i :: O.filter (· != i)) L (.Assign [.Name y py] x pos) (fun e => ((f e).bd onlyL).out e fun d => .nx (e.set i (some d))) := by
  refine ⟨fun pins s σ H D I ⟨G0, H0, Gs, G, e, r, gs, p⟩ => key.run pins s σ H D I ⟨G0, H0, G, e, r, out_bind (R := RF T X.K H) r gs p fun d v H1 G1 x1 ⟨l, q, xs, e1, e2, q1, q2, q3, q4⟩ p1 => ?_⟩⟩
  subst e1 e2
  have rl1 := r.ext x1
  obtain ⟨G2, s2, r2⟩ := rl1.setF (i := i) q1 q2 (by
    cases z : H0 q with
    | none => rfl
    | some o => rw [r.x.h _ _ z] at q3; cases q3) (fun j hj b hb => by
    obtain ⟨_, p', _, _, h2, h3, _⟩ := r.own j hj
    rw [h2] at hb
    cases hb
    intro z
    rw [z, q3] at h3
    cases h3) q4 (by rw [← r.len]; exact hi s σ H pins I) hpr
  exact p1 _ _ _ r2 ((gs.trans x1.g).trans s2)
end
end E

set_option autoImplicit false
set_option linter.all false
set_option Elab.async false
set_option maxRecDepth 100000
/-! E12: loops, changes of lists. -/
namespace E
open PySem PySem.Spec PyProof.Rows L2

theorem upd_self {H : Hp} {p : Addr} {o : HO} (h : H p = some o) : upd H p o = H := by
  funext b
  by_cases hb : b = p
  · subst hb; rw [upd_same, h]
  · rw [upd_ne hb]
theorem out_items {r : Res D} {e : Env} {g : List D → Out} : (r.out e fun x => omO (items x) g) = (r.bd fun x => om (items x) .ok).out e g := by
  cases r with
  | ok a => simp only [out_ok, bd_ok]; cases items a <;> rfl
  | err c l => rfl
  | bad => rfl
section
variable {X : Cx} {T : Tb} {W : WX} {O O' O1 O2 L L2 : List Nat}
theorem ss_for {t : List Nat} {one : Bool} {tg it : Expr} {body : List Stmt} {pos : Pos} {fi : Env → Res (List D)} {fb : Env → Out} (hp : PassesOwn (model X.prog X.w) X.A X.env X.xe) (hc : X.calm = true) (hi : SI X T W L tg it fi) (hg : PG X tg (gA X.K t one)) (ho : ∀ i ∈ t, i ∉ L ∧ i ∉ T.pr)
    (hb : SSs X T W L L L body fb) (hs : ∀ x, foldedSetIterable it X.env x = pure x) : SS X T W L L L2 (.For tg it body [] pos) (fun e => (fi e).out e fun l => forL (fun d e => omO (asg t one d e) fb) l e) :=
  PS.weak (ps_for hp hc hi hg hb hs) fun D σ H ⟨G0, H0, Gs, G, e, r, gs, p⟩ => ⟨G0, H0, G, e, r, out_bind r gs p fun l J H1 G1 x1 it p1 => by
    refine ⟨fun i m σ' H' => m = l.length - i ∧ i ≤ l.length ∧ ∃ G' e', Rel T X.K L G0 H0 σ' H' G' e' ∧ Same G1 G' ∧ PostS T X.K W L L2 G0 H0 Gs D (forL (fun d e => omO (asg t one d e) fb) (l.drop i) e'),
      ⟨l.length, by simp, Nat.zero_le _, G1, e, r.ext x1, Same.refl _, by simpa using p1⟩, ?_⟩
    rintro i m σ' H' ⟨rfl, hi, G', e', r', g', p'⟩
    by_cases hlt : i < l.length
    · refine .inr ⟨it.go i _ _ ⟨g', r'.sub⟩ hlt, fun σ2 H2 => ∃ G2 e2, Rel T X.K L G0 H0 σ2 H2 G2 e2 ∧ Same G1 G2 ∧ PostS T X.K W L L2 G0 H0 Gs D (forL (fun d e => omO (asg t one d e) fb) (l.drop (i + 1)) e2), ?_, ?_⟩
      · rintro σ2 H2 ⟨G2, e2, a, b, c⟩
        exact ⟨l.length - (i + 1), by omega, rfl, hlt, G2, e2, a, b, c⟩
      · intro x H2 y
        obtain ⟨G2, d, x2, hd, rd⟩ := it.yld i _ _ x H2 ⟨g', r'.sub⟩ hlt y
        have hdrop : l.drop i = d :: l.drop (i + 1) := by
          rw [List.drop_eq_getElem_cons hlt]
          congr 1
          exact (List.getElem?_eq_some_iff.mp hd).2
        rw [hdrop] at p'
        unfold forL at p'
        cases ha : asg t one d e' with
        | none => rw [ha] at p'; exact False.elim p'
        | some e2 =>
          rw [ha] at p'
          simp only [omO_some] at p'
          refine asg_ok (r'.ext x2) rd ha ho rfl (fun _ _ => rfl) fun xs _ r2 => ⟨G0, H0, G1, G2, e2, r2, g'.trans x2.g, ?_⟩
          have gs1 : Same Gs G1 := gs.trans x1.g
          cases q : fb e2 with
          | nx e3 => rw [q] at p'; exact fun σ3 H3 G3 r3 g3 => ⟨G3, e3, r3, g3, p'⟩
          | ct e3 => rw [q] at p'; exact fun σ3 H3 G3 r3 g3 => ⟨G3, e3, r3, g3, p'⟩
          | bk e3 => rw [q] at p'; exact fun σ3 H3 G3 r3 g3 => p' σ3 H3 G3 r3 (gs1.trans g3)
          | rt d => rw [q] at p'; exact p'
          | ex e3 c l => rw [q] at p'; exact fun od σ3 H3 G3 r3 g3 w => p' od σ3 H3 G3 r3 (gs1.trans g3) w
          | bad => rw [q] at p'; exact p'
    · have e3 : l.length = i := by omega
      rw [List.drop_eq_nil_of_le (by omega)] at p'
      exact .inl ⟨it.stop i _ _ ⟨g', r'.sub⟩ e3, p' σ' H' G' r' ((gs.trans x1.g).trans g')⟩⟩
theorem ss_while {c : Expr} {body : List Stmt} {pos : Pos} {fc : Env → Res Bool} {fb : Env → Out} (n : Nat) (hp : PassesOwn (model X.prog X.w) X.A X.env X.xe) (hc : SB X T W L c fc) (hb : SSs X T W L L L body fb) :
    SS X T W L L L2 (.While c body [] pos) (fun e => whL fc fb n e) :=
  PS.weak (ps_while hp hc hb) fun D σ H ⟨G0, H0, Gs, G, e, r, gs, p⟩ => by
    refine ⟨fun m σ' H' => ∃ G' e', Rel T X.K L G0 H0 σ' H' G' e' ∧ Same Gs G' ∧ PostS T X.K W L L2 G0 H0 Gs D (whL fc fb m e'), ⟨n, G, e, r, gs, p⟩, ?_⟩
    rintro m σ' H' ⟨G', e', r', g', p'⟩
    cases m with
    | zero => exact False.elim p'
    | succ m =>
      unfold whL at p'
      refine ⟨G0, H0, G', e', r', out_bind r' g' p' fun k v H1 G1 x1 r1 p1 => ?_⟩
      have r1 : v = k := r1
      subst r1
      cases v with
      | false => exact p1 σ' H1 G1 (r'.ext x1) (g'.trans x1.g)
      | true =>
        rw [if_pos rfl]
        refine ⟨fun σ2 H2 => ∃ G2 e2, Rel T X.K L G0 H0 σ2 H2 G2 e2 ∧ Same Gs G2 ∧ PostS T X.K W L L2 G0 H0 Gs D (whL fc fb m e2), fun σ2 H2 q => ⟨m, Nat.lt_succ_self _, q⟩, G0, H0, Gs, G1, e', r'.ext x1, g'.trans x1.g, ?_⟩
        rw [if_pos rfl] at p1
        cases q : fb e' with
        | nx e3 => rw [q] at p1; exact fun σ3 H3 G3 r3 g3 => ⟨G3, e3, r3, g3, p1⟩
        | ct e3 => rw [q] at p1; exact fun σ3 H3 G3 r3 g3 => ⟨G3, e3, r3, g3, p1⟩
        | bk e3 => rw [q] at p1; exact p1
        | rt d => rw [q] at p1; exact p1
        | ex e3 c l => rw [q] at p1; exact p1
        | bad => rw [q] at p1; exact p1
/-! ### xs.append(x), xs.extend(ys), xs.reverse() -/
def muF (m : Mu) (i : Nat) (fs : Env → Res (List D)) : Env → Out := fun e => (look i e).out e fun x => match x with
    | .lst l => (fs e).out e fun xs => (muD m l xs).out e fun l' => .nx (e.set i (some (.lst l')))
    | _ => .bad
theorem swap_none (x : Expr) (hx : ∀ (a : Expr) (b : List Comprehension) (c : Scope) (d : Pos), x ≠ .ListComp a b c d) : True := trivial
theorem ss_mu {m : Mu} {i : Nat} {y : Str} {a : Expr} {py apos cpos pos : Pos} {fs : Env → Res (List D)} (hm : m = .append ∨ m = .extend) (hi : i ∈ O) (hN : X.N[i]? = some y) (hv : Vis X.env.scope y) (hd : (y == ("__debug__" : Str)) = false) (hcd : (y == ("__classdict__" : Str)) = false)
    (hn : noStar a = true) (hline : (apos.endLine == cpos.line) = true) (ha : SA X T W O [a] fs) :
    SS X T W O O L (.Expr (.Call (.Attribute (.Name y py) (match m with | .append => "append" | _ => "extend") apos) [a] [] cpos) pos) (muF m i fs) := by
  have hst : starEach [a] X.env = (false, eval a X.env) :: starEach [] X.env := star_cons hn
  have base : ∀ {id : String} {nm : Str} {r : V → List V → Hp → VK → Prop}, PySem.Slot "list" nm id → typeOf (.builtin id) = pure (.type "method_descriptor") → MtR X id r → PS X (.Expr (.Call (.Attribute (.Name y py) nm apos) [a] [] cpos) pos) (tDrop (tBM X.K "list" r (tVar i) (cE X T W O (fun _ => RL T X.K) fs))) := fun sl ty mt =>
    ps_expr (pe_bm F.plainAttrs_list sl ty mt (pe_var hN hv hd hcd) ha rfl (by rw [hst]; rfl) hline hst rfl) rfl
  have go : ∀ {id : String} {nm : Str} {r : V → List V → Hp → VK → Prop}, PySem.Slot "list" nm id → typeOf (.builtin id) = pure (.type "method_descriptor") → MtR X id r →
      (∀ (H G : Hp) (p : Addr) (xs vs : List V) (l ds : List D) (l' : List D) (Q : VK), Same G H → H p = some (.lst xs) → RepL T X.K G l xs → RepL T X.K G ds vs → muD m l ds = .ok l' → (∀ xs', RepL T X.K G l' xs' → Q .non (upd H p (.lst xs'))) → r (.ref p) vs H Q) →
      SS X T W O O L (.Expr (.Call (.Attribute (.Name y py) nm apos) [a] [] cpos) pos) (muF m i fs) := fun {id nm r} sl ty mt ok => by
    refine PS.weak (base sl ty mt) fun D σ H ⟨G0, H0, Gs, G, e, r, gs, p⟩ => ?_
    obtain ⟨d0, q, o0, h1, h2, h3, h4, h5, h6⟩ := r.own i hi
    unfold muF look at p
    rw [h1] at p
    simp only [out_ok] at p
    cases d0 <;> try exact False.elim p
    rename_i l
    obtain ⟨xs, rfl, h6⟩ := h6
    refine ⟨.ref q, h2, .inl ⟨rfl, xs, SqL.of h3⟩, G0, H0, G, e, r, out_bind r gs p fun ds vs H1 G1 x1 r1 p1 => ?_⟩
    cases hmu : muD m l ds with
    | err c l => cases m <;> simp only [muD] at hmu <;> first | (split at hmu <;> first | cases hmu | (split at hmu <;> cases hmu)) | cases hmu
    | bad => rw [hmu] at p1; exact False.elim p1
    | ok l' =>
      rw [hmu] at p1
      simp only [out_ok] at p1
      exact ok H1 G1 q xs vs l ds l' _ x1.s (x1.h _ _ h3) (h6.mono x1.g) r1 hmu fun xs' rx => p1 _ _ _ ((r.ext x1).mut hi h2 (x1.h _ _ h3) rx) (gs.trans x1.g)
  rcases hm with rfl | rfl
  · refine go F.slot_list_append F.type_list_append mt_append fun H G p xs vs l ds l' Q s hp rl rd h q => ?_
    rcases ds with _ | ⟨d, _ | ⟨d2, ds⟩⟩ <;> try cases h
    obtain ⟨v, vr, rfl, r1, r2⟩ := rd.cons_inv
    rw [r2.nil_inv]
    simp only [muD] at h
    split at h <;> cases h
    rename_i hl
    rw [LIM_eq, rl.length] at hl
    exact ⟨p, xs, v, rfl, rfl, hp, hl, q _ (rl.append (.cons r1 .nil))⟩
  · refine go F.slot_list_extend F.type_list_extend mt_extend fun H G p xs vs l ds l' Q s hp rl rd h q => ?_
    rcases ds with _ | ⟨d, _ | ⟨d2, ds⟩⟩
    · cases h
    rotate_left
    · exact absurd (show Res.bad = Res.ok l' by cases d <;> exact h) (by simp)
    cases d <;> try cases h
    obtain ⟨v, vr, rfl, r1, r2⟩ := rd.cons_inv
    rw [r2.nil_inv]
    simp only [muD] at h
    split at h <;> cases h
    rename_i hl
    obtain ⟨b, zs, rfl, b1, b2⟩ := r1.lst
    rw [LIM_eq, rl.length, b2.length] at hl
    exact ⟨p, b, xs, zs, rfl, rfl, hp, s _ _ b1, hl, q _ (rl.append b2)⟩
theorem ss_rev {i : Nat} {y : Str} {py apos cpos pos : Pos} (hi : i ∈ O) (hN : X.N[i]? = some y) (hv : Vis X.env.scope y) (hd : (y == ("__debug__" : Str)) = false) (hcd : (y == ("__classdict__" : Str)) = false) (hline : (apos.endLine == cpos.line) = true) :
    SS X T W O O L (.Expr (.Call (.Attribute (.Name y py) "reverse" apos) [] [] cpos) pos) (muF .reverse i fun _ => .ok []) := by
  have pe := pe_bm0 F.plainAttrs_list F.slot_list_reverse F.type_list_reverse mt_reverse (pe_var (X := X) (pos := py) hN hv hd hcd) rfl hline
  refine PS.weak (ps_expr pe rfl) fun D σ H ⟨G0, H0, Gs, G, e, r, gs, p⟩ => ?_
  obtain ⟨d0, q, o0, h1, h2, h3, h4, h5, h6⟩ := r.own i hi
  unfold muF look at p
  rw [h1] at p
  simp only [out_ok] at p
  cases d0 <;> try exact False.elim p
  rename_i l
  obtain ⟨xs, rfl, h6⟩ := h6
  simp only [out_ok, muD] at p
  exact ⟨.ref q, h2, .inl ⟨rfl, xs, SqL.of h3⟩, q, xs, rfl, rfl, h3, p _ _ _ (r.mut hi h2 h3 h6.reverse) gs⟩
/-! ### xs[i] = x -/
theorem RepL.putL {G : Hp} {l l' : List D} {xs : List V} {d : D} {v : V} {j : Int} (r : RepL T X.K G l xs) (rv : Rep T X.K G d v) (h : E.putL l j d = some l') : ∃ k, ixN xs.length j = some k ∧ RepL T X.K G l' (xs.set k v) := by
  unfold E.putL at h
  rw [← r.length]
  rw [ixN_eq]
  cases q : ixOf l.length j with
  | none => rw [q] at h; cases h
  | some k =>
    rw [q] at h
    cases h
    exact ⟨k, rfl, r.set k rv⟩
def rSetLD : TSet := fun o i v H Q => rSetL o i v H Q ∨ rSetD o i v H Q
theorem set_ld (hu : X.A.units + 65 < cLine) : PSet X rSetLD := by
  intro pins s σ H o i v ov iv u Q I ro ri rv h
  rcases h with h | h
  · exact set_list pins s σ H o i v ov iv u Q I ro ri rv h
  · exact set_dict (by omega) pins s σ H o i v ov iv u Q I ro ri rv h
theorem ss_put (hu : X.A.units + 65 < cLine) {i : Nat} {y : Str} {a b : Expr} {py tp pos : Pos} {fa fb : Env → Res D} (hi : i ∈ O) (hN : X.N[i]? = some y) (hv : Vis X.env.scope y) (hd : (y == ("__debug__" : Str)) = false) (hcd : (y == ("__classdict__" : Str)) = false) (hpl : plainIx a = true) (ha : SE X T W O a fa) (hb : SE X T W O b fb) :
    SS X T W O O L (.Assign [.Subscript (.Name y py) a tp] b pos) (fun e => (fb e).out e fun y => (look i e).out e fun x => (fa e).out e fun k => match x, k with
    | .lst l, .int j => omO (putL l j y) fun l' => .nx (e.set i (some (.lst l')))
    | .dic ks vs, k => if isKey k = true ∧ ks.length < LIM then .nx (e.set i (some (dPut ks vs k y))) else .bad
    | _, _ => .bad) := by
  have pg := pg_sub (pos := tp) (pe_var (X := X) (pos := py) hN hv hd hcd) ha (set_ld hu) (by intro v; cases a <;> first | rfl | exact Bool.noConfusion (show false = true from hpl))
  refine PS.weak (ps_asg hb pg (by cases b <;> rfl) (by cases b <;> rfl) rfl) fun D σ H ⟨G0, H0, Gs, G, e, r, gs, p⟩ => ⟨G0, H0, G, e, r, out_bind r gs p fun d v H1 G1 x1 r1 p1 => ?_⟩
  have rl := r.ext x1
  obtain ⟨d0, q, o0, h1, h2, h3, h4, h5, h6⟩ := rl.own i hi
  unfold look at p1
  rw [h1] at p1
  simp only [out_ok] at p1
  refine ⟨.ref q, h2, G0, H0, G1, e, rl, out_bind rl (gs.trans x1.g) p1 fun k w H2 G2 x2 r2 p2 => ?_⟩
  cases d0 <;> try exact False.elim p2
  rotate_left
  · rename_i ks vs
    obtain ⟨kvs, rfl, h6, h7⟩ := h6
    have p3 : PostS T X.K W O L G0 H0 Gs D (if isKey k = true ∧ ks.length < LIM then .nx (e.set i (some (dPut ks vs k d))) else .bad) := p2
    by_cases hh : isKey k = true ∧ ks.length < LIM
    · rw [if_pos hh] at p3
      obtain ⟨kk, hk⟩ := isKey_k hh.1
      have e := kOf_v hk (RepR.of (rl.ext x2).sub r2)
      subst e
      have hlen : kvs.length < sizeLine := by
        have := congrArg List.length h6
        rw [List.length_map, List.length_map] at this
        rw [← LIM_eq]
        omega
      exact .inr ⟨q, _, rfl, DPut.k (x2.h _ _ h3) hlen, p3 _ _ _ ((rl.ext x2).mutO hi h2 (dPut_ok hk (r1.mono x2.g) h6 (h7.mono x2.g))) ((gs.trans x1.g).trans x2.g)⟩
    · rw [if_neg hh] at p3
      exact p3.elim
  rename_i l
  obtain ⟨xs, rfl, h6⟩ := h6
  cases k <;> try exact False.elim p2
  rename_i j
  have p3 : PostS T X.K W O L G0 H0 Gs D (omO (putL l j d) fun l' => .nx (e.set i (some (.lst l')))) := p2
  cases hq : putL l j d with
  | none => rw [hq] at p3; exact False.elim p3
  | some l' =>
    rw [hq] at p3
    obtain ⟨k, hk, rk⟩ := (h6.mono x2.g).putL (r1.mono x2.g) hq
    exact .inl ⟨q, xs, j, k, rfl, r2.int, x2.h _ _ h3, hk, p3 _ _ _ ((rl.ext x2).mut hi h2 (x2.h _ _ h3) rk) ((gs.trans x1.g).trans x2.g)⟩
end
end E

set_option autoImplicit false
set_option linter.all false
set_option Elab.async false
set_option maxRecDepth 100000
/-! E12p: new dicts, for x in a[xs.pop()]. -/
namespace E
open PySem PySem.Spec PyProof.Rows L2
section
variable {T : Tb} {K : PySem.W.Frag} {O : List Nat} {G0 H0 : Hp} {σ : L2.St} {H G : Hp} {e : Env}
/-- an object that nobody has is changed -/
theorem Rel.scratch {p : Addr} {o : HO} (r : Rel T K O G0 H0 σ H G e) (hg : G p = none) (h0 : H0 p = none) (hd : ∀ j ∈ O, ∀ q, σ[j]? = some (some (.ref q)) → q ≠ p) : Rel T K O G0 H0 σ (upd H p o) G e where
  x := ⟨fun b u q => by
      have hb : b ≠ p := fun z => by rw [z, h0] at q; cases q
      rw [upd_ne hb]
      exact r.x.h _ _ q, r.x.g, fun b u q => by
      have hb : b ≠ p := fun z => by rw [z, hg] at q; cases q
      rw [upd_ne hb]
      exact r.sub _ _ q, r.x.n⟩
  s0 := r.s0
  z := r.z
  ze := r.ze
  po := r.po
  len := r.len
  val := r.val
  own := fun j hj => by
    obtain ⟨d, q, o', h1, h2, h3, h4, h5, h6⟩ := r.own j hj
    exact ⟨d, q, o', h1, h2, by rw [upd_ne (hd j hj q h2)]; exact h3, h4, h5, h6⟩
  dis := r.dis
end
section
variable {X : Cx} {T : Tb} {W : WX} {O L Lx : List Nat}
theorem fresh_own {G0 H0 : Hp} {σ : L2.St} {H G : Hp} {e : Env} {q : Addr} (r : Rel T X.K O G0 H0 σ H G e) (hq : H q = none) : G q = none ∧ H0 q = none ∧ ∀ j ∈ O, ∀ p, σ[j]? = some (some (.ref p)) → p ≠ q := by
  refine ⟨Same.none r.sub hq, ?_, fun j hj b hb => ?_⟩
  · cases z : H0 q with
    | none => rfl
    | some o => rw [r.x.h _ _ z] at hq; cases hq
  · obtain ⟨_, p', _, _, h2, h3, _⟩ := r.own j hj
    rw [h2] at hb
    cases hb
    intro z
    rw [z, hq] at h3
    cases h3
theorem ss_dnew {i : Nat} {y : Str} {pos py pd : Pos} (hN : X.N.Nodup) (h1 : X.N[i]? = some y) (h2 : Loc X.env.scope y) (h3 : X.fn y = true ∨ X.env.scope.names.lookup y = some .local) (hpr : i ∉ T.pr) :
    SS X T W O (i :: O.filter (· != i)) L (.Assign [.Name y py] (.Dict [] [] pd) pos) (fun e => .nx (e.set i (some (.dic [] [])))) := by
  have key := ps_set (pos := pos) (pos' := py) hN h1 h2 (pe_dnewK (X := X) (pos := pd)) rfl h3
  refine ⟨fun pins s σ H D I ⟨G0, H0, Gs, G, e, r, gs, p⟩ => key.run pins s σ H D I fun q hq => ?_⟩
  obtain ⟨f1, f2, f3⟩ := fresh_own r hq
  obtain ⟨G2, s2, r2⟩ := (r.ext (Ext.mine (o := .dK []) r.sub hq)).setO (i := i) (d0 := .dic [] []) upd_same f1 f2 f3 ⟨[], rfl, rfl, .nil⟩ (by rw [← r.len, I.len]; exact (List.getElem?_eq_some_iff.mp h1).1) hpr
  exact p _ _ _ r2 (gs.trans s2)
theorem ss_dnew1 {i : Nat} {y : Str} {k v : Expr} {fk fv : Env → Res D} {pos py pd : Pos} (hN : X.N.Nodup) (h1 : X.N[i]? = some y) (h2 : Loc X.env.scope y) (h3 : X.fn y = true ∨ X.env.scope.names.lookup y = some .local) (hpr : i ∉ T.pr) (hk : SE X T W O k fk) (hv : SE X T W O v fv) :
    SS X T W O (i :: O.filter (· != i)) L (.Assign [.Name y py] (.Dict [some k] [v] pd) pos) (fun e => (fk e).out e fun x => (fv e).out e fun y => if isKey x = true then .nx (e.set i (some (.dic [x] [y]))) else .bad) := by
  have key := ps_set (pos := pos) (pos' := py) hN h1 h2 (pe_disp (X := X) (pos := pd) (pps_cons hk hv pps_nil) rfl rfl (by simp) (by simp)) rfl h3
  refine ⟨fun pins s σ H D I ⟨G0, H0, Gs, G, e, r, gs, p⟩ => key.run pins s σ H D I fun q hq => ?_⟩
  obtain ⟨f1, f2, f3⟩ := fresh_own r hq
  have r0 := r.ext (Ext.mine (o := .dK []) r.sub hq)
  refine ⟨G0, H0, G, e, r0, out_bind r0 gs p fun x vx H1 G1 x1 rx p1 => ?_⟩
  have r1 := r0.ext x1
  refine ⟨G0, H0, G1, e, r1, out_bind r1 (gs.trans x1.g) p1 fun z vz H2 G2 x2 rz p2 => ?_⟩
  have r2 := r1.ext x2
  by_cases hx : isKey x = true
  · rw [if_pos hx] at p2
    obtain ⟨kk, hkk⟩ := isKey_k hx
    have e1 := kOf_v hkk (RepR.of r1.sub rx)
    subst e1
    have q1 : H1 q = some (.dK []) := x1.h _ _ upd_same
    have q2 : H2 q = some (.dK []) := x2.h _ _ q1
    have g1 : G1 q = none := x1.n q (by rw [upd_same]; simp) f1
    have g2 : G2 q = none := x2.n q (by rw [q1]; simp) g1
    refine ⟨q2, [(kk, vz)], rfl, by simp, ?_⟩
    obtain ⟨G3, s3, r3⟩ := (r2.scratch (o := .dK (mergeK [] [(kk, vz)])) g2 f2 f3).setO (i := i) (d0 := .dic [x] [z]) upd_same g2 f2 f3 ⟨[(kk, vz)], rfl, by simp [hkk], .cons rz .nil⟩ (by rw [← r.len, I.len]; exact (List.getElem?_eq_some_iff.mp h1).1) hpr
    exact p2 _ _ _ r3 (((gs.trans x1.g).trans x2.g).trans s3)
  · rw [if_neg hx] at p2
    exact p2.elim
/-! ### for x in a[xs.pop()] -/
theorem list_last {l : List D} {j : D} (h : l.getLast? = some j) : l[l.length - 1]? = some j := by rw [← h, List.getLast?_eq_getElem?]
theorem RepL.dropLast {G : Hp} {l : List D} {xs : List V} (r : RepL T X.K G l xs) : RepL T X.K G l.dropLast xs.dropLast := by
  rw [List.dropLast_eq_take, List.dropLast_eq_take, r.length]
  exact r.take _
theorem dIdx_ne (x y : D) (c : Nat) (l : List D) : dIdx x y ≠ .err c l := by
  intro h
  cases x <;> cases y <;> simp only [dIdx] at h <;> first
    | (cases h; done)
    | (rename_i z w; cases q : at_ z w <;> rw [q] at h <;> cases h)
    | (split at h <;> first | (cases h; done) | (rename_i z w _; cases q : at_ z w <;> rw [q] at h <;> cases h))
/-- the loop itself -/
theorem for_go {t : List Nat} {one : Bool} {fb : Env → Out} {G0 H0 Gs H1 G1 : Hp} {σ : L2.St} {e : Env} {l : List D} {J : It} {D : Ends} (ho : ∀ i ∈ t, i ∉ L ∧ i ∉ T.pr) (r : Rel T X.K L G0 H0 σ H1 G1 e) (gs : Same Gs G1) (it : IterOf T X.K J H1 G1 l)
    (p1 : PostS T X.K W L Lx G0 H0 Gs D (forL (fun d e => omO (asg t one d e) fb) l e)) :
    ∃ V1 : Nat → Nat → L2.St → Hp → Prop, (∃ m, V1 0 m σ H1) ∧ ∀ i m σ H, V1 i m σ H → (J.stop i H ∧ D.nx σ H) ∨ (J.go i H ∧ ∃ N : L2.St → Hp → Prop, (∀ σ' H', N σ' H' → ∃ m', m' < m ∧ V1 (i + 1) m' σ' H') ∧ ∀ x H', J.yld i H x H' → gA X.K t one x σ H' fun σ2 H2 => cS X T W L L L fb { D with nx := N, ct := N, bk := D.nx } σ2 H2) := by
  refine ⟨fun i m σ' H' => m = l.length - i ∧ i ≤ l.length ∧ ∃ G' e', Rel T X.K L G0 H0 σ' H' G' e' ∧ Same G1 G' ∧ PostS T X.K W L Lx G0 H0 Gs D (forL (fun d e => omO (asg t one d e) fb) (l.drop i) e'),
    ⟨l.length, by simp, Nat.zero_le _, G1, e, r, Same.refl _, by simpa using p1⟩, ?_⟩
  rintro i m σ' H' ⟨rfl, hi, G', e', r', g', p'⟩
  by_cases hlt : i < l.length
  · refine .inr ⟨it.go i _ _ ⟨g', r'.sub⟩ hlt, fun σ2 H2 => ∃ G2 e2, Rel T X.K L G0 H0 σ2 H2 G2 e2 ∧ Same G1 G2 ∧ PostS T X.K W L Lx G0 H0 Gs D (forL (fun d e => omO (asg t one d e) fb) (l.drop (i + 1)) e2), ?_, ?_⟩
    · rintro σ2 H2 ⟨G2, e2, a, b, c⟩
      exact ⟨l.length - (i + 1), by omega, rfl, hlt, G2, e2, a, b, c⟩
    · intro x H2 y
      obtain ⟨G2, d, x2, hd, rd⟩ := it.yld i _ _ x H2 ⟨g', r'.sub⟩ hlt y
      have hdrop : l.drop i = d :: l.drop (i + 1) := by
        rw [List.drop_eq_getElem_cons hlt]
        congr 1
        exact (List.getElem?_eq_some_iff.mp hd).2
      rw [hdrop] at p'
      unfold forL at p'
      cases ha : asg t one d e' with
      | none => rw [ha] at p'; exact False.elim p'
      | some e2 =>
        rw [ha] at p'
        simp only [omO_some] at p'
        refine asg_ok (r'.ext x2) rd ha ho rfl (fun _ _ => rfl) fun xs _ r2 => ⟨G0, H0, G1, G2, e2, r2, g'.trans x2.g, ?_⟩
        cases q : fb e2 with
        | nx e3 => rw [q] at p'; exact fun σ3 H3 G3 r3 g3 => ⟨G3, e3, r3, g3, p'⟩
        | ct e3 => rw [q] at p'; exact fun σ3 H3 G3 r3 g3 => ⟨G3, e3, r3, g3, p'⟩
        | bk e3 => rw [q] at p'; exact fun σ3 H3 G3 r3 g3 => p' σ3 H3 G3 r3 (gs.trans g3)
        | rt d => rw [q] at p'; exact p'
        | ex e3 c l => rw [q] at p'; exact fun od σ3 H3 G3 r3 g3 w => p' od σ3 H3 G3 r3 (gs.trans g3) w
        | bad => rw [q] at p'; exact p'
  · have e3 : l.length = i := by omega
    rw [List.drop_eq_nil_of_le (by omega)] at p'
    exact .inl ⟨it.stop i _ _ ⟨g', r'.sub⟩ e3, p' σ' H' G' r' (gs.trans g')⟩
theorem ss_fpop {t : List Nat} {one : Bool} {tg a : Expr} {i : Nat} {y : Str} {py apos cpos spos pos : Pos} {body : List Stmt} {fa : Env → Res D} {fb : Env → Out} (hp : PassesOwn (model X.prog X.w) X.A X.env X.xe) (hc : X.calm = true) (ha : SE X T W L a fa) (hi : i ∈ L)
    (hN : X.N[i]? = some y) (hv : Vis X.env.scope y) (hd : (y == ("__debug__" : Str)) = false) (hcd : (y == ("__classdict__" : Str)) = false) (hline : (apos.endLine == cpos.line) = true) (hg : PG X tg (gA X.K t one)) (ho : ∀ i ∈ t, i ∉ L ∧ i ∉ T.pr) (hb : SSs X T W L L L body fb) :
    SS X T W L L Lx (.For tg (.Subscript a (.Call (.Attribute (.Name y py) "pop" apos) [] [] cpos) spos) body [] pos) (fun e => (fa e).out e fun x => (look i e).out e fun z => match z with
    | .lst l => omO l.getLast? fun j => (dIdx x j).out e fun y => omO (items y) fun ys => forL (fun d e => omO (asg t one d e) fb) ys (e.set i (some (.lst l.dropLast)))
    | _ => .bad) := by
  have pop := pe_bm0 F.plainAttrs_list F.slot_list_pop F.type_list_pop mt_pop (pe_var (X := X) (pos := py) hN hv hd hcd) rfl hline
  have ix := pe_ix (pos := spos) ix_all ha pop (fun _ _ => rfl)
  refine PS.weak (ps_for hp hc (pi_any (tg := tg) ix) hg hb (fun _ => rfl)) fun D σ H ⟨G0, H0, Gs, G, e, r, gs, p⟩ => ⟨G0, H0, G, e, r, out_bind r gs p fun x v H1 G1 x1 rx p1 => ?_⟩
  have r1 := r.ext x1
  obtain ⟨d0, q, o0, h1, h2, h3, h4, h5, h6⟩ := r1.own i hi
  unfold look at p1
  rw [h1] at p1
  simp only [out_ok] at p1
  cases d0 <;> try exact False.elim p1
  rename_i l
  obtain ⟨xs, rfl, h6⟩ := h6
  have p1 : PostS T X.K W L Lx G0 H0 Gs D (omO l.getLast? fun j => (dIdx x j).out e fun y => omO (items y) fun ys => forL (fun d e => omO (asg t one d e) fb) ys (e.set i (some (.lst l.dropLast)))) := p1
  cases hlast : l.getLast? with
  | none => rw [hlast] at p1; exact False.elim p1
  | some j =>
    rw [hlast] at p1
    simp only [omO_some] at p1
    obtain ⟨u, hu, ru⟩ := h6.get (list_last hlast)
    rw [h6.length] at hu
    refine ⟨.ref q, h2, .inl ⟨rfl, xs, SqL.of h3⟩, q, xs, u, rfl, rfl, h3, hu, ?_⟩
    have r2 := r1.mut hi h2 h3 h6.dropLast
    cases hix : dIdx x j with
    | err c l2 => exact absurd hix (dIdx_ne x j c l2)
    | bad => rw [hix] at p1; exact p1.elim
    | ok d =>
      rw [hix] at p1
      simp only [out_ok] at p1
      refine idx_ok (W := W) (σ := σ) r2.sub (RepR.of r2.sub rx) (RepR.of r2.sub ru) (show Pv T X.K W σ _ G1 (dIdx x j) _ from ?_)
      rw [hix]
      intro w H3 G3 x3 r3
      cases hit : items d with
      | none => rw [hit] at p1; exact False.elim p1
      | some ys =>
        rw [hit] at p1
        simp only [omO_some] at p1
        have rl3 := r2.ext x3
        have s3 := rl3.sub
        have g3 := (gs.trans x1.g).trans x3.g
        cases d <;> first | (cases hit; done) | skip
        · cases hit
          exact .inr (.inr ⟨_, r3.str, for_go ho rl3 g3 iter_str p1⟩)
        · cases hit
          obtain ⟨b, zs, rfl, q1, q2⟩ := r3.tup
          exact .inr (.inl ⟨b, rfl, ⟨zs, Same.sqt s3 q1⟩, for_go ho rl3 g3 (iter_tup q1 q2) p1⟩)
        · cases hit
          obtain ⟨b, zs, rfl, q1, q2⟩ := r3.lst
          exact .inl ⟨b, rfl, ⟨zs, SqL.of (s3 _ _ q1)⟩, for_go ho rl3 g3 (iter_list q1 q2) p1⟩
        · cases hit
          obtain ⟨b, rfl, q1⟩ := r3.scr
          exact .inl ⟨b, rfl, ⟨_, Same.seq s3 q1⟩, for_go ho rl3 g3 (iter_scr s3 q1) p1⟩
end
end E

set_option autoImplicit false
set_option linter.all false
set_option Elab.async false
set_option maxRecDepth 100000
/-! E13: calls of defs. -/
namespace E
open PySem PySem.Spec PyProof.Rows L2

section
variable {T T' : Tb} {K : PySem.W.Frag} {H G : Hp}
mutual
theorem rep_T (h1 : T.ca = T'.ca) (h2 : T.fl = T'.fl) : ∀ (d : D) (v : V), Rep T K G d v → Rep T' K G d v
  | .non, _, h => by simpa only [Rep] using h
  | .bl _, _, h => by simpa only [Rep] using h
  | .int _, _, h => by simpa only [Rep] using h
  | .str _, _, h => by simpa only [Rep] using h
  | .tup l, v, h => by
    simp only [Rep] at h ⊢
    obtain ⟨a, xs, q1, q2, q3⟩ := h
    exact ⟨a, xs, q1, q2, repL_T h1 h2 l xs q3⟩
  | .lst l, v, h => by
    simp only [Rep] at h ⊢
    obtain ⟨a, xs, q1, q2, q3⟩ := h
    exact ⟨a, xs, q1, q2, repL_T h1 h2 l xs q3⟩
  | .scr l, v, h => by simpa only [Rep] using h
  | .ins c l, v, h => by
    simp only [Rep] at h ⊢
    obtain ⟨a, dx, fs, q1, q2, q3, q4⟩ := h
    exact ⟨a, dx, fs, q1, by rw [← h1]; exact q2, by rw [← h2]; exact q3, repL_T h1 h2 l _ q4⟩
  | .dic ks vs, v, h => by
    simp only [Rep] at h ⊢
    obtain ⟨a, kvs, q1, q2, q3, q4⟩ := h
    exact ⟨a, kvs, q1, q2, q3, repL_T h1 h2 vs _ q4⟩
  | .set _, _, h => by simp only [Rep] at h
  | .exc _ _, _, h => by simp only [Rep]
theorem repL_T (h1 : T.ca = T'.ca) (h2 : T.fl = T'.fl) : ∀ (l : List D) (xs : List V), RepL T K G l xs → RepL T' K G l xs
  | [], _, h => by simpa only [RepL] using h
  | d :: ds, v, h => by
    simp only [RepL] at h ⊢
    obtain ⟨x, xs, q1, q2, q3⟩ := h
    exact ⟨x, xs, q1, rep_T h1 h2 d x q2, repL_T h1 h2 ds xs q3⟩
end
theorem exc_T (h1 : T.ca = T'.ca) (h2 : T.fl = T'.fl) {c : Nat} {l : List D} {od : Option Addr} (h : ExcAt T K G c l od) : ExcAt T' K G c l od := by
  rcases h with ⟨a, b, c⟩ | ⟨dd, fs, q1, q2, q3, q4⟩
  · exact .inl ⟨by rw [← h2]; exact a, b, c⟩
  · refine .inr ⟨dd, fs, q1, q2, by rw [← h2]; exact q3, fun j nm d a b => ?_⟩
    obtain ⟨v, r1, r2⟩ := q4 j nm d (by rw [h2]; exact a) b
    exact ⟨v, r1, rep_T h1 h2 _ _ r2⟩
/-- what a def does, as the kit's word of it -/
def spOf (T : Tb) (K : PySem.W.Frag) (F : List D → Res D) (n : Nat) : Sp := fun vs H Q E => vs.length = n ∧ ∃ G ds, Same G H ∧ RepL T K G ds vs ∧ PostG T K (RV T K) (fun c d _ H => E c d H) [] H G (F ds) Q
theorem spOf_len {F : List D → Res D} {n : Nat} (vs : List V) (H : Hp) (Q : VK) (E : XK) (h : spOf T K F n vs H Q E) : vs.length = n := h.1
/-- a call in this context does what F says -/
structure CallOk (X : Cx) (T : Tb) (W : WX) (F : List D → Res D) (x : Str) (n : Nat) : Prop where
  c0 : n = 0 → Gl X x → ∀ (O : List Nat) (q pos : Pos), SE X T W O (.Call (.Name x q) [] [] pos) (fun _ => F [])
  c1 : Gl X x → ∀ (O : List Nat) (e : Expr) (es : List Expr) (q pos : Pos) (f : Env → Res (List D)), (∀ e' xs, f e' = .ok xs → xs.length = n) → noStar e = true → es.all noStar = true → SA X T W O (e :: es) f → SE X T W O (.Call (.Name x q) (e :: es) [] pos) (fun e => (f e).bd F)
theorem post_call {F : Res D} {W : WX} {σ : L2.St} {Q : VK} (h1 : T.ca = T'.ca) (h2 : T.fl = T'.fl) (p : PostG T' K (RV T' K) W σ H G F Q) : PostG T K (RV T K) (fun c d _ H => W c d σ H) [] H G F Q := by
  cases F with
  | ok d => exact fun v H' G' x r => p v H' G' x (rep_T h1 h2 _ _ r)
  | err c l =>
    intro od H' G' x q
    show W (.ref (T.ca c)) od σ H'
    rw [h1]
    exact p od H' G' x (exc_T h1 h2 q)
  | bad => exact p
theorem callOk {X : Cx} {W : WX} {F : List D → Res D} {x : Str} {n k : Nat} {f : Addr} {fd : FuncData} {ps : List Str} (Fn : FnOk X.prog X.w X.K X.mg X.base (L2N.CX X.prog X.w) k f fd ps (spOf T X.K F n)) (h1 : T.ca = T'.ca) (h2 : T.fl = T'.fl)
    (hr : Room k X.A) (hm : X.mg x = some (.ref f)) (hk : PySem.W.keepIn X.K (.ref f) = true) (hb : Binds X.K fd ps []) (tk : L2N.Takes X W) (hdb : (x == ("__debug__" : Str)) = false) : CallOk X T' W F x n where
  c0 := fun hn hg O q pos => by
    subst hn
    have pe : PE X (.Call (.Name x q) [] [] pos) (tCallS (spOf T X.K F 0) (WE W) tNil) := ⟨fun pins s σ H Q I h => wpAny_Call_Name_kw (ld_glob I hg hm (PySem.W.callWith_K0 I.kIn hk (run_fnS (us := []) Fn hr hb (L2N.passAt tk σ) I .nil h)) hdb)⟩
    exact PE.weak pe fun σ H Q ⟨G0, H0, G, e, rl, p⟩ => ⟨rfl, G, [], rl.sub, .nil, post_call h1 h2 p⟩
  c1 := fun hg O e es q pos f hl hn hns ha =>
    PE.weak (pe_callS (E := WE W) Fn hr hg hm hk hb (fun σ => L2N.passAt tk σ) ha hdb (star_cons hn) (star_any hns)) fun σ H Q ⟨G0, H0, G, e, rl, p⟩ => ⟨G0, H0, G, e, rl, by
      cases q : f e with
      | err c l => simp only [q] at p; exact p
      | bad => simp only [q] at p; exact p
      | ok ds =>
        simp only [q, bd_ok] at p
        intro vs H1 G1 x1 r1
        exact ⟨by rw [← r1.length]; exact hl e ds q, G1, ds, (rl.ext x1).sub, repL_T h1.symm h2.symm _ _ r1, post_call h1 h2 (p.ext x1)⟩⟩
/-- the same within the suite of a caught exception -/
theorem callOkH {X : Cx} {W : WX} {F : List D → Res D} {x : Str} {n k : Nat} {f : Addr} {fd : FuncData} {ps : List Str} (Fn : L2H.FnH X.prog X.w X.K X.mg X.base (L2N.CX X.prog X.w) k f fd ps (spOf T X.K F n)) (h1 : T.ca = T'.ca) (h2 : T.fl = T'.fl)
    (hr : L2H.RoomH k X.A) (hh : L2H.HotC X) (hm : X.mg x = some (.ref f)) (hk : PySem.W.keepIn X.K (.ref f) = true) (hb : Binds X.K fd ps []) (tk : L2N.Takes X W) (hdb : (x == ("__debug__" : Str)) = false) : CallOk X T' W F x n where
  c0 := fun hn hg O q pos => by
    subst hn
    have pe : PE X (.Call (.Name x q) [] [] pos) (tCallS (spOf T X.K F 0) (WE W) tNil) := ⟨fun pins s σ H Q I h => wpAny_Call_Name_kw (ld_glob I hg hm (PySem.W.callWith_K0 I.kIn hk (L2H.run_fnH (us := []) Fn hr hh hb (L2N.passAt tk σ) I .nil h)) hdb)⟩
    exact PE.weak pe fun σ H Q ⟨G0, H0, G, e, rl, p⟩ => ⟨rfl, G, [], rl.sub, .nil, post_call h1 h2 p⟩
  c1 := fun hg O e es q pos f hl hn hns ha =>
    PE.weak (L2H.pe_callH (E := WE W) Fn hr hh hg hm hk hb (fun σ => L2N.passAt tk σ) ha hdb (star_cons hn) (star_any hns)) fun σ H Q ⟨G0, H0, G, e, rl, p⟩ => ⟨G0, H0, G, e, rl, by
      cases q : f e with
      | err c l => simp only [q] at p; exact p
      | bad => simp only [q] at p; exact p
      | ok ds =>
        simp only [q, bd_ok] at p
        intro vs H1 G1 x1 r1
        exact ⟨by rw [← r1.length]; exact hl e ds q, G1, ds, (rl.ext x1).sub, repL_T h1.symm h2.symm _ _ r1, post_call h1 h2 (p.ext x1)⟩⟩
/-! ### a def's body -/
theorem start_rel {N : List Str} {ds : List D} {vs : List V} (s : Same G H) (hz : T.z G) (hze : ∀ e σ, T.ze e σ) (hpr : T.pr = []) (r : RepL T K G ds vs) (n : Nat) (hn : n = N.length) : Rel T K [] G H (L2.start N vs) H G (ds.map some ++ List.replicate (n - ds.length) none) where
  x := .refl s
  s0 := s
  z := hz
  ze := hze _ _
  po := fun i hi => by rw [hpr] at hi; simp at hi
  len := by
    unfold L2.start
    subst hn
    simp [r.length]
  val := fun i d h _ => by
    by_cases hi : i < ds.length
    · rw [List.getElem?_append_left (by simpa using hi), List.getElem?_map] at h
      cases q : ds[i]? with
      | none => rw [q] at h; cases h
      | some d' =>
        rw [q] at h
        cases h
        obtain ⟨v, h1, h2⟩ := r.get q
        refine ⟨v, ?_, h2⟩
        unfold L2.start
        rw [List.getElem?_append_left (by rw [List.length_map, ← r.length]; exact hi), List.getElem?_map, h1]
        rfl
    · rw [List.getElem?_append_right (by simp; omega), List.getElem?_replicate] at h
      split at h <;> cases h
  own := fun i hi => by simp at hi
  dis := fun i hi => by simp at hi
end
section
variable {P : Program} {w : World} {K : PySem.W.Frag} {mg : Str → Option Value} {base : Heap}
theorem okN {x qual : Str} {st : Stmt} {f : Addr} {fd : FuncData} {N ps : List Str} {k : Nat} {sp : Sp} (F : Fun K x qual st f fd) (S : FnScope N ps (defScope st)) (len : ∀ vs H Q E, sp vs H Q E → vs.length = ps.length)
    (hb : ∀ (c : Value) (A : Around) (outer : List PySem.Env) (s : Shared) (H : Hp) (vs : List V) (Q : VK) (E : XK), Room k (A.deeper (envOfC qual (defScope st) s.heap.objs.size f c)) → sp vs H Q E →
      ∃ t, PSs (cxOf (L2N.CX P w) P w K mg base N qual (defScope st) f c A outer s H E) (defBody st) t ∧ t { nx := fun _ H' => Q .non H', rt := Q } (L2.start N vs) H) : FnOk P w K mg base (L2N.CX P w) (k + 1) f fd ps sp := by
  obtain ⟨x1, x2, x3, x4, x5, x6, c, x8, x9, rfl, lk, hc⟩ := F.ex
  exact fn_of lk hc S len fun A outer s H vs Q E hr hsp => hb c A outer s H vs Q E hr hsp
theorem fn_body {T : Tb} {x qual : Str} {st : Stmt} {f : Addr} {fd : FuncData} {N ps : List Str} {k n : Nat} {g : Env → Out} (F : Fun K x qual st f fd) (S : FnScope N ps (defScope st)) (hz : ∀ G, T.z G) (hze : ∀ e σ, T.ze e σ) (hpr : T.pr = []) (hn : n = N.length)
    (h : ∀ (cdv : Value) (A : Around) (outer : List PySem.Env) (s : Shared) (H : Hp) (E : XK), Room k (A.deeper (envOfC qual (defScope st) s.heap.objs.size f cdv)) →
      SSs (cxOf (L2N.CX P w) P w K mg base N qual (defScope st) f cdv A outer s H E) T (fun cls d _ H => E cls d H) [] [] [] (defBody st) g) :
    FnOk P w K mg base (L2N.CX P w) (k + 1) f fd ps (spOf T K (fun ds => fin (g (ds.map some ++ List.replicate (n - ds.length) none))) ps.length) :=
  okN F S (fun vs H Q E h => h.1) fun cdv A outer s H vs Q E hr ⟨hl, G, ds, sm, r, p⟩ => ⟨_, h cdv A outer s H E hr, G, H, G, G, _, start_rel sm (hz G) hze hpr r n hn, Same.refl _, by
    replace p : PostG T K (RV T K) (fun c d _ H => E c d H) [] H G (fin (g (ds.map some ++ List.replicate (n - ds.length) none))) Q := p
    cases q : g (ds.map some ++ List.replicate (n - ds.length) none) with
    | nx e' =>
      rw [q] at p
      exact fun σ' H' G' r' _ => p .non H' G' r'.x (by simp)
    | rt d =>
      rw [q] at p
      exact fun v H' G' x rv => p v H' G' x rv
    | ex e' c l =>
      rw [q] at p
      exact fun od σ' H' G' r' _ ea => p od H' G' r'.x ea
    | bk e' => rw [q] at p; exact p.elim
    | ct e' => rw [q] at p; exact p.elim
    | bad => rw [q] at p; exact p.elim⟩
theorem fn_bodyH {T : Tb} {x qual : Str} {st : Stmt} {f : Addr} {fd : FuncData} {N ps : List Str} {k n : Nat} {g : Env → Out} (F : Fun K x qual st f fd) (S : FnScope N ps (defScope st)) (hz : ∀ G, T.z G) (hze : ∀ e σ, T.ze e σ) (hpr : T.pr = []) (hn : n = N.length)
    (h : ∀ (cdv : Value) (A : Around) (outer : List PySem.Env) (s : Shared) (H : Hp) (E : XK) (p : Addr × Obj), L2H.Hot1 A p → L2H.RoomH k (A.deeper (envOfC qual (defScope st) s.heap.objs.size f cdv)) →
      SSs (L2H.cxH (L2N.CX P w) P w K mg base N qual (defScope st) f cdv A outer s H E p) T (fun cls d _ H => E cls d H) [] [] [] (defBody st) g) :
    L2H.FnH P w K mg base (L2N.CX P w) (k + 1) f fd ps (spOf T K (fun ds => fin (g (ds.map some ++ List.replicate (n - ds.length) none))) ps.length) := by
  obtain ⟨oc, od, kV, doc, pm, an, cdv, ct, osl, rfl, lk, hcd⟩ := F.ex
  refine L2H.fn_ofH lk hcd S (fun vs H Q E h => h.1) fun A outer s H vs Q E p hot hr ⟨hl, G, ds, sm, r, p2⟩ => ⟨_, h cdv A outer s H E p hot hr, G, H, G, G, _, start_rel sm (hz G) hze hpr r n hn, Same.refl _, ?_⟩
  replace p2 : PostG T K (RV T K) (fun c d _ H => E c d H) [] H G (fin (g (ds.map some ++ List.replicate (n - ds.length) none))) Q := p2
  cases q : g (ds.map some ++ List.replicate (n - ds.length) none) with
  | nx e' =>
    rw [q] at p2
    exact fun σ' H' G' r' _ => p2 .non H' G' r'.x (by simp)
  | rt d =>
    rw [q] at p2
    exact fun v H' G' x rv => p2 v H' G' x rv
  | ex e' c l =>
    rw [q] at p2
    exact fun od σ' H' G' r' _ ea => p2 od H' G' r'.x ea
  | bk e' => rw [q] at p2; exact p2.elim
  | ct e' => rw [q] at p2; exact p2.elim
  | bad => rw [q] at p2; exact p2.elim
end
end E

set_option autoImplicit false
set_option linter.all false
set_option Elab.async false
set_option maxRecDepth 100000
/-! E13o: objects of plain classes: C(..), __init__, o.m(..). -/
namespace E
open PySem PySem.Spec PyProof.Rows L2
/-- C(..), an exception may come out of __init__ -/
def tMakeS (C : Addr) (sp : Sp) (E : L2.St → XK) (t : TA) : TE := fun σ H Q => t σ H fun vs H1 => ∀ y dy, H1 y = none → H1 dy = none → dy ≠ y → sp (.ref y :: vs) (upd (upd H1 dy (.own y)) y (.ins C dy [])) (fun v H2 => v = .non ∧ Q (.ref y) H2) (E σ)
section
variable {X : Cx} {A0 : CXT} {k : Nat} {C f : Addr} {fd : FuncData} {ps : List Str} {sp : Sp} {E1 : L2.St → XK} {x : Str} {q pos : Pos} {e : Expr} {es : List Expr} {t : TA}
theorem run_mkS {ip : List (Addr × Obj)} {σ : L2.St} {H : Hp} {s : Shared} {Q : VK} {us : List Value} {vs : List V} (M : Mk X.K C f) (F : FnOk X.prog X.w X.K X.mg X.base A0 k f fd ps sp) (hr : Room (k + 1) X.A) (hb : Binds X.K fd ps []) (hx : PassesAt A0 X σ (E1 σ)) (I : Inv X ip σ H s) (r : Vals vs us)
    (h : ∀ y dy, H y = none → H dy = none → dy ≠ y → sp (.ref y :: vs) (upd (upd H dy (.own y)) y (.ins C dy [])) (fun v H2 => v = .non ∧ Q (.ref y) H2) (E1 σ)) : wpAny (model X.prog X.w) X.A (call (.ref C) us) (EP X ip σ Q) X.xe s := by
  have hq := h _ _ (I.hok.fresh (Nat.le_succ _)) (I.hok.fresh (Nat.le_refl _)) (Nat.ne_of_lt (Nat.lt_succ_self s.heap.objs.size))
  have I2 := Inv.made (C := C) I
  have r2 : Vals (V.ref (s.heap.objs.size + 1) :: vs) (Value.ref (s.heap.objs.size + 1) :: us) := .cons rfl r
  have hl : (Value.ref (s.heap.objs.size + 1) :: us ++ []).length = ps.length := by rw [List.append_nil, ← r2.length]; exact F.len _ _ _ _ hq
  have b2 := hb _ (Value.ref (s.heap.objs.size + 1) :: us) I2.kIn hl
  rw [List.append_nil] at b2
  refine wpAny_call (make_map (f := f) I.kIn M.makes M.init (beq_iff_eq.mp M.fn) (codeAny_mono (F.run _ X.stack _ _ ⟨Value.ref (s.heap.objs.size + 1) :: us, []⟩ (Value.ref (s.heap.objs.size + 1) :: us) _ _ (E1 σ) (hr.make C us []) (I2.env0.make C us []) b2 r2 hq) fun rr t1 hq1 => ?_))
  cases rr with
  | error er => exact hx ip _ _ er t1 I2 hq1
  | ok fl =>
    cases fl with
    | ret u =>
      obtain ⟨v, Hn, I3, rv, ev, q3⟩ := I2.after hq1
      subst ev
      exact ⟨rv, V.ref (s.heap.objs.size + 1), Hn, I3, rfl, q3⟩
    | next => cases hq1
    | brk => cases hq1
    | cont => cases hq1
theorem pe_mkS (M : Mk X.K C f) (F : FnOk X.prog X.w X.K X.mg X.base A0 k f fd ps sp) (hr : Room (k + 1) X.A) (hg : Gl X x) (hm : X.mg x = some (.ref C)) (hb : Binds X.K fd ps []) (hx : ∀ σ, PassesAt A0 X σ (E1 σ)) (ha : PA X (e :: es) t)
    (hdb : (x == ("__debug__" : Str)) = false) (he : starEach (e :: es) X.env = (false, eval e X.env) :: starEach es X.env) (hpl : (backTo pos (starEach es X.env)).any (·.1) = false) : PE X (.Call (.Name x q) (e :: es) [] pos) (tMakeS C sp E1 t) :=
  ⟨fun ip s σ H Q I h => wpAny_Call_Name_kw (ld_glob I hg hm (PySem.W.callWith_K (h₀ := X.base) I.ok.mod.kin M.kp (thn (ha.run pos ip s σ H _ I h) fun us s1 ⟨vs, H1, I1, r, q1⟩ => ⟨I1.kIn, run_mkS M F hr hb (hx σ) I1 r q1⟩) he hpl) hdb)⟩
end
/-- __init__'s word: what F says, the object in the heap ahead of it -/
def spI (T : Tb) (K : PySem.W.Frag) (C : Addr) (F : List D → Res D) (n : Nat) : Sp := fun vs H Q E => vs.length = n + 1 ∧ ∃ (H1 G : Hp) (ds : List D) (a dx : Addr) (us : List V), vs = .ref a :: us ∧ H = upd (upd H1 dx (.own a)) a (.ins C dx []) ∧ H1 a = none ∧ H1 dx = none ∧ dx ≠ a ∧ Same G H1 ∧ RepL T K G ds us ∧
  PostG T K (RV T K) (fun c d _ H => E c d H) [] H1 G (F ds) (fun v H2 => v = .ref a → Q .non H2)
theorem mkOk {X : Cx} {T T' : Tb} {W : WX} {F : List D → Res D} {x : Str} {n k : Nat} {C f : Addr} {fd : FuncData} {ps : List Str} (M : Mk X.K C f) (Fn : FnOk X.prog X.w X.K X.mg X.base (L2N.CX X.prog X.w) k f fd ps (spI T X.K C F n)) (h1 : T.ca = T'.ca) (h2 : T.fl = T'.fl)
    (hn0 : n ≠ 0) (hr : Room (k + 1) X.A) (hm : X.mg x = some (.ref C)) (hb : Binds X.K fd ps []) (tk : L2N.Takes X W) (hdb : (x == ("__debug__" : Str)) = false) : CallOk X T' W F x n where
  c0 := fun hn => absurd hn hn0
  c1 := fun hg O e es q pos f hl hn hns ha =>
    PE.weak (pe_mkS (E1 := WE W) M Fn hr hg hm hb (fun σ => L2N.passAt tk σ) ha hdb (star_cons hn) (star_any hns)) fun σ H Q ⟨G0, H0, G, e, rl, p⟩ => ⟨G0, H0, G, e, rl, by
      cases q : f e with
      | err c l => simp only [q] at p; exact p
      | bad => simp only [q] at p; exact p
      | ok ds =>
        simp only [q, bd_ok] at p
        intro vs H1 G1 x1 r1 y dy hy hdy hne
        exact ⟨by rw [List.length_cons, ← r1.length, hl e ds q], H1, G1, ds, y, dy, vs, rfl, rfl, hy, hdy, hne, (rl.ext x1).sub, repL_T h1.symm h2.symm _ _ r1, (post_call h1 h2 (p.ext x1)).imp fun v H2 qv ev => ⟨rfl, ev ▸ qv⟩⟩⟩
/-! ### __init__ -/
/-- the table while __init__ runs: slot 0 holds the object -/
def inT (T : Tb) (a : Addr) : Tb := { T with ze := fun _ σ => σ[0]? = some (some (.ref a)), pr := [0], zs := fun h q => by rw [(h 0 (by simp)).2]; exact q }
section
variable {T : Tb} {K : PySem.W.Frag} {H G H1 G1 : Hp}
/-- what is new since H1, but for a and dx -/
structure Since (H1 G1 H G : Hp) (a dx : Addr) : Prop where
  h : ∀ b o, H1 b = some o → H b = some o
  g : Same G1 G
  s : Same G H
  n : ∀ b, H1 b ≠ none → G1 b = none → G b = none
  ga : G a = none
  gd : G dx = none
  hd : H dx = some (.own a)
theorem Since.ext {a dx : Addr} {H' G' : Hp} (x : Since H1 G1 H G a dx) (y : Ext H G H' G') (ha : ∃ o, H a = some o) : Since H1 G1 H' G' a dx where
  h := fun b o z => y.h _ _ (x.h b o z)
  g := x.g.trans y.g
  s := y.s
  n := fun b h1 h2 => y.n b (by
    cases q : H1 b with
    | none => exact absurd q h1
    | some o => rw [x.h b o q]; simp) (x.n b h1 h2)
  ga := y.n a (by obtain ⟨o, e⟩ := ha; rw [e]; simp) x.ga
  gd := y.n dx (by rw [x.hd]; simp) x.gd
  hd := y.h _ _ x.hd
theorem Since.put {a dx : Addr} {o : HO} (x : Since H1 G1 H G a dx) (h1 : H1 a = none) (hne : dx ≠ a) : Since H1 G1 (upd H a o) G a dx where
  h := fun b u z => by
    have : b ≠ a := fun e => by rw [e, h1] at z; cases z
    rw [upd_ne this]; exact x.h b u z
  g := x.g
  s := fun b u z => by
    have : b ≠ a := fun e => by rw [e, x.ga] at z; cases z
    rw [upd_ne this]; exact x.s b u z
  n := x.n
  ga := x.ga
  gd := x.gd
  hd := by rw [upd_ne hne]; exact x.hd
theorem Since.toExt {a dx : Addr} (x : Since H1 G1 H G a dx) : Ext H1 G1 H G := ⟨x.h, x.g, x.s, x.n⟩
/-- the same slots, the heap as it stands for the beginning -/
theorem Rel.reset {O : List Nat} {G0 H0 : Hp} {σ : L2.St} {e : Env} (hO : O = []) (r : Rel T K O G0 H0 σ H G e) : Rel T K [] G H σ H G e where
  x := .refl r.sub
  s0 := r.sub
  z := r.z
  ze := r.ze
  po := fun i _ h => by simp at h
  len := r.len
  val := fun i d h _ => r.val i d h (by rw [hO]; simp)
  own := fun i hi => by simp at hi
  dis := fun i hi => by simp at hi
theorem Rel.putA {σ : L2.St} {e : Env} {a : Addr} {o : HO} (r : Rel T K [] G H σ H G e) (hg : G a = none) : Rel T K [] G (upd H a o) σ (upd H a o) G e where
  x := .refl fun b u z => by
    have : b ≠ a := fun q => by rw [q, hg] at z; cases z
    rw [upd_ne this]; exact r.sub b u z
  s0 := fun b u z => by
    have : b ≠ a := fun q => by rw [q, hg] at z; cases z
    rw [upd_ne this]; exact r.sub b u z
  z := r.z
  ze := r.ze
  po := r.po
  len := r.len
  val := r.val
  own := fun i hi => by simp at hi
  dis := fun i hi => by simp at hi
theorem putF_new {f : Str} {v : V} : ∀ {fs : List (Str × V)}, f ∉ fs.map (·.1) → putF f v fs = fs ++ [(f, v)]
  | [], _ => rfl
  | (g, x) :: r, h => by
    simp only [List.map_cons, List.mem_cons, not_or] at h
    have : ¬ g = f := fun e => h.1 e.symm
    rw [putF, if_neg this, putF_new h.2]
    rfl
end
/-- self.f = e -/
def stoSt : Stmt → Option (Str × Str × Expr)
  | .Assign [.Attribute (.Name s _) f _] x _ => some (s, f, x)
  | _ => none
theorem stoSt_inv {st : Stmt} {s f : Str} {x : Expr} (h : stoSt st = some (s, f, x)) : ∃ p1 p2 p3, st = .Assign [.Attribute (.Name s p1) f p2] x p3 := by
  unfold stoSt at h
  split at h
  · cases h
    exact ⟨_, _, _, rfl⟩
  · cases h
/-- the field stores, from the j-th field on -/
inductive Stos (X : Cx) (T : Tb) (W : WX) (C : Addr) : List Str → List Stmt → (Env → Res (List D)) → Prop
  | nil : Stos X T W C [] [] (fun _ => .ok [])
  | cons {s f : Str} {x : Expr} {p1 p2 p3 : Pos} {fl : List Str} {ss : List Stmt} {fe : Env → Res D} {fr : Env → Res (List D)} (hs : PE X (.Name s p1) (tVar 0)) (hn : NoAttr X.K C f) (hx : SE X T W [] x fe) (hw : swapsWith x (some (.Attribute (.Name s p1) f p2)) p3.line X.env = pure false) (r : Stos X T W C fl ss fr) :
      Stos X T W C (f :: fl) (.Assign [.Attribute (.Name s p1) f p2] x p3 :: ss) (fun e => (fe e).bd fun d => (fr e).bd fun l => .ok (d :: l))
/-- what is asked of the fields' values -/
def PostI (T : Tb) (K : PySem.W.Frag) (W : WX) (C : Addr) (H1 G1 : Hp) (a dx : Addr) (names : List Str) (l : List D) (Dn : Ends) (σ : L2.St) : Res (List D) → Prop
  | .ok rest => ∀ H' G' fs, Since H1 G1 H' G' a dx → H' a = some (.ins C dx fs) → fs.map (·.1) = names → RepL T K G' (l ++ rest) (fs.map (·.2)) → Dn.nx σ H'
  | .err c ld => ∀ od H' G', Since H1 G1 H' G' a dx → ExcAt T K G' c ld od → W (.ref (T.ca c)) od σ H'
  | .bad => False
def tSto (X : Cx) (T : Tb) (W : WX) (C a : Addr) (fl : List Str) (g : Env → Res (List D)) : TS := fun Dn σ H => ∃ (H1 G1 G : Hp) (dx : Addr) (fs : List (Str × V)) (l : List D) (e : Env), Rel T X.K [] G H σ H G e ∧ Since H1 G1 H G a dx ∧ H1 a = none ∧ dx ≠ a ∧ H a = some (.ins C dx fs) ∧ RepL T X.K G l (fs.map (·.2)) ∧
  (fs.map (·.1) ++ fl).Nodup ∧ (fs.map (·.1) ++ fl).length ≤ 900 ∧ PostI T X.K W C H1 G1 a dx (fs.map (·.1) ++ fl) l Dn σ (g e)
theorem stos_ok {X : Cx} {T : Tb} {W : WX} {C a : Addr} (cl : Cls X.K C) (hze : ∀ e σ, T.ze e σ → σ[0]? = some (some (.ref a))) {fl : List Str} {ss : List Stmt} {g : Env → Res (List D)} (h : Stos X T W C fl ss g) : PSs X ss (tSto X T W C a fl g) := by
  induction h with
  | nil => exact PSs.weak pss_nil fun Dn σ H ⟨H1, G1, G, dx, fs, l, e, r, sc, n1, n2, ha, rl, nd, len, p⟩ => p H G fs sc ha (by simp) (by simpa using rl)
  | @cons s f x p1 p2 p3 fl ss fe fr hs hn hx hw r ih =>
    refine PSs.weak (pss_cons (ps_fld hs hx hw) ih) fun Dn σ H ⟨H1, G1, G, dx, fs, l, e, r, sc, n1, n2, ha, rl, nd, len, p0⟩ => ⟨G, H, G, e, r, ?_⟩
    have p : PostI T X.K W C H1 G1 a dx (fs.map (·.1) ++ f :: fl) l Dn σ ((fe e).bd fun d => (fr e).bd fun l => .ok (d :: l)) := p0
    clear p0
    cases q : fe e with
    | bad => rw [q] at p; exact p
    | err c ld => rw [q] at p; exact fun od H' G' y ea => p od H' G' (sc.ext y ⟨_, ha⟩) ea
    | ok d =>
      rw [q] at p
      simp only [bd_ok] at p
      intro v H' G' y rv
      have ha' := y.h _ _ ha
      have sc' := sc.ext y ⟨_, ha⟩
      have nf : f ∉ fs.map (·.1) := fun z => (List.nodup_append.1 nd).2.2 f z f List.mem_cons_self rfl
      have hl : fs.length < 1000 := by
        have := len
        simp only [List.length_append, List.length_map] at this
        omega
      refine ⟨.ref a, hze _ _ r.ze, a, C, dx, fs, rfl, ha', cl, hn, hl, H1, G1, G', dx, putF f v fs, l ++ [d], e, ((r.ext y).reset rfl).putA sc'.ga, sc'.put n1 n2, n1, n2, upd_same, ?_, ?_, ?_, ?_⟩
      · rw [putF_new nf, List.map_append]
        exact (rl.mono y.g).append (.cons rv .nil)
      · rw [putF_new nf, List.map_append]; simpa using nd
      · rw [putF_new nf, List.map_append]; simpa using len
      · have e1 : (putF f v fs).map (·.1) ++ fl = fs.map (·.1) ++ f :: fl := by rw [putF_new nf, List.map_append]; simp
        rw [e1]
        cases q2 : fr e with
        | bad => rw [q2] at p; exact p
        | err c ld => rw [q2] at p; exact p
        | ok rest =>
          rw [q2] at p
          simp only [bd_ok] at p
          exact fun H' G' fs' a1 a2 a3 a4 => p H' G' fs' a1 a2 a3 (by simpa using a4)
end E

set_option autoImplicit false
set_option linter.all false
set_option Elab.async false
set_option maxRecDepth 100000
/-! E14: own exceptions: __init__, raise. -/
namespace E
open PySem PySem.Spec PyProof.Rows L2

def spInit (C : Addr) (fl : List Str) : Sp := fun vs H Q _ => ∃ a us, vs = .ref a :: us ∧ us.length = fl.length ∧ H a = some (exo a C none) ∧ ∀ d, H d = none → d ≠ a → Q .non (upd (upd H d (exd d (fl.zip us).reverse)) a (exo a C (some d)))
/-- self.f = p -/
def iniSt : Stmt → Option (Str × Str × Str)
  | .Assign [.Attribute (.Name s _) f _] (.Name p _) _ => some (s, f, p)
  | _ => none
theorem iniSt_inv {st : Stmt} {s f p : Str} (h : iniSt st = some (s, f, p)) : ∃ p1 p2 p3 p4, st = .Assign [.Attribute (.Name s p1) f p2] (.Name p p3) p4 := by
  unfold iniSt at h
  split at h
  · cases h
    exact ⟨_, _, _, _, rfl⟩
  · cases h
def okNm (sc : Scope) (p : Str) : Bool := decide (sc.names.lookup p = some .local) && !(p == ("__debug__" : Str)) && !(p == ("__classdict__" : Str))
def chkInit (N : List Str) (sc : Scope) : Nat → List Str → List Stmt → Bool
  | _, [], [] => true
  | j, f :: fl, st :: rest => (match iniSt st with
    | some (s, f', p) => decide (N[0]? = some s) && decide (f' = f) && decide (N[j]? = some p) && okNm sc s && okNm sc p
    | none => false) && chkInit N sc (j + 1) fl rest
  | _, _, _ => false
section
variable {X : Cx} {C : Addr}
theorem okNm_inv {p : Str} {j : Nat} {pos : Pos} (hN : X.N[j]? = some p) (h : okNm X.env.scope p = true) : PE X (.Name p pos) (tVar j) := by
  unfold okNm at h
  simp only [Bool.and_eq_true, decide_eq_true_eq, Bool.not_eq_true'] at h
  exact pe_var hN (.inl h.1.1) h.1.2 h.2
def tIni (C : Addr) (j : Nat) (fl : List Str) : TS := fun D σ H => ∃ a d fs us, σ[0]? = some (some (.ref a)) ∧ a ≠ d ∧ H a = some (exo a C (some d)) ∧ H d = some (exd d fs) ∧ fs.length + fl.length ≤ 900 ∧ us.length = fl.length ∧ (∀ i u, us[i]? = some u → σ[j + i]? = some (some u)) ∧ D.nx σ (upd H d (exd d ((fl.zip us).reverse ++ fs)))
theorem ini_step {f : Str} {fl : List Str} {st : Stmt} {rest : List Stmt} {j : Nat} (h : chkInit X.N X.env.scope j (f :: fl) (st :: rest) = true) :
    ∃ s p p1 p2 p3 p4, st = .Assign [.Attribute (.Name s p1) f p2] (.Name p p3) p4 ∧ PE X (.Name s p1) (tVar 0) ∧ PE X (.Name p p3) (tVar j) ∧ chkInit X.N X.env.scope (j + 1) fl rest = true := by
  unfold chkInit at h
  cases q : iniSt st with
  | none => rw [q] at h; cases h
  | some z =>
    obtain ⟨s, f', p⟩ := z
    rw [q] at h
    simp only [Bool.and_eq_true, decide_eq_true_eq] at h
    obtain ⟨⟨⟨⟨⟨h1, h2⟩, h3⟩, h4⟩, h5⟩, h6⟩ := h
    subst h2
    obtain ⟨p1, p2, p3, p4, e⟩ := iniSt_inv q
    exact ⟨s, p, p1, p2, p3, p4, e, okNm_inv h1 h4, okNm_inv h3 h5, h6⟩
theorem ini_old (T : OexC X.K C) : ∀ (fl : List Str) (body : List Stmt) (j : Nat), (∀ f ∈ fl, PySem.W.findIn X.K (.ref C) f = some none) → chkInit X.N X.env.scope j fl body = true → PSs X body (tIni C j fl)
  | [], [], j, _, _ => PSs.weak pss_nil fun D σ H ⟨a, d, fs, us, h1, hne, h2, h3, h4, h5, h6, q⟩ => by
    have e : us = [] := List.length_eq_zero_iff.mp h5
    subst e
    have q' : D.nx σ (upd H d (exd d fs)) := by simpa using q
    rw [upd_self h3] at q'
    exact q'
  | [], _ :: _, _, _, h => by cases h
  | f :: fl, [], _, _, h => by cases h
  | f :: fl, st :: rest, j, hno, h => by
    obtain ⟨s, p, p1, p2, p3, p4, e, es, ep, hr⟩ := ini_step h
    subst e
    refine PSs.weak (pss_cons (ps_ost es ep rfl) (ini_old T fl rest (j + 1) (fun g hg => hno g (List.mem_cons_of_mem _ hg)) hr)) fun D σ H ⟨a, d, fs, us, h1, hne, h2, h3, h4, h5, h6, q⟩ => ?_
    cases us with
    | nil => simp at h5
    | cons u us =>
      have hd : (upd H d (exd d ((f, u) :: fs))) d = some (exd d ((f, u) :: fs)) := upd_same
      refine ⟨u, h6 0 u rfl, .ref a, h1, a, C, rfl, T, hno f List.mem_cons_self, .inr ⟨d, fs, h2, h3, by simp at h4; omega, a, d, (f, u) :: fs, us, h1, hne, by rw [upd_ne hne]; exact h2, hd, by simp at h4 ⊢; omega, by simpa using h5, fun i w hw => ?_, ?_⟩⟩
      · have := h6 (i + 1) w (by simpa using hw)
        rw [show j + 1 + i = j + (i + 1) by omega]
        exact this
      · rw [upd_upd]
        have q' := q
        simp only [List.zip_cons_cons, List.reverse_cons, List.append_assoc, List.cons_append, List.nil_append] at q'
        exact q'
def tIniN (C : Addr) (fl : List Str) : TS := fun D σ H => ∃ a us, σ[0]? = some (some (.ref a)) ∧ H a = some (exo a C none) ∧ fl.length ≤ 900 ∧ us.length = fl.length ∧ (∀ i u, us[i]? = some u → σ[1 + i]? = some (some u)) ∧ ∀ d, H d = none → d ≠ a → D.nx σ (upd (upd H d (exd d (fl.zip us).reverse)) a (exo a C (some d)))
theorem ini_new (T : OexC X.K C) {f : Str} {fl : List Str} {body : List Stmt} (hno : ∀ g ∈ f :: fl, PySem.W.findIn X.K (.ref C) g = some none) (h : chkInit X.N X.env.scope 1 (f :: fl) body = true) : PSs X body (tIniN C (f :: fl)) := by
  cases body with
  | nil => cases h
  | cons st rest =>
    obtain ⟨s, p, p1, p2, p3, p4, e, es, ep, hr⟩ := ini_step h
    subst e
    refine PSs.weak (pss_cons (ps_ost es ep rfl) (ini_old T fl rest 2 (fun g hg => hno g (List.mem_cons_of_mem _ hg)) hr)) fun D σ H ⟨a, us, h1, h2, h4, h5, h6, q⟩ => ?_
    cases us with
    | nil => simp at h5
    | cons u us =>
      refine ⟨u, h6 0 u rfl, .ref a, h1, a, C, rfl, T, hno f List.mem_cons_self, .inl ⟨h2, fun d hd hda => ⟨a, d, [(f, u)], us, h1, Ne.symm hda, upd_same, by rw [upd_ne hda]; exact upd_same, by simp at h4 ⊢; omega, by simpa using h5, fun i w hw => ?_, ?_⟩⟩⟩
      · have := h6 (i + 1) w (by simpa using hw)
        rw [show 2 + i = 1 + (i + 1) by omega]
        exact this
      · have q' := q d hd hda
        simp only [List.zip_cons_cons, List.reverse_cons] at q'
        have e : upd (upd (upd H d (exd d [(f, u)])) a (exo a C (some d))) d (exd d ((fl.zip us).reverse ++ [(f, u)])) = upd (upd H d (exd d ((fl.zip us).reverse ++ [(f, u)]))) a (exo a C (some d)) := by
          funext b
          by_cases hb : b = d
          · subst hb
            rw [upd_same, upd_ne hda, upd_same]
          · rw [upd_ne hb]
            by_cases hb2 : b = a
            · subst hb2; rw [upd_same, upd_same]
            · rw [upd_ne hb2, upd_ne hb2, upd_ne hb, upd_ne hb]
        rw [e]
        exact q'
end
section
variable {P : Program} {w : World} {K : PySem.W.Frag} {mg : Str → Option Value} {base : Heap}
theorem init_fn {C : Addr} {x qual : Str} {st : Stmt} {f : Addr} {fd : FuncData} {N ps : List Str} {k : Nat} {g : Str} {fl : List Str} (F : Fun K x qual st f fd) (S : FnScope N ps (defScope st)) (T : OexC K C) (hno : ∀ h ∈ g :: fl, PySem.W.findIn K (.ref C) h = some none)
    (hc : chkInit N (defScope st) 1 (g :: fl) (defBody st) = true) (hl : (g :: fl).length ≤ 900) (hps : ps.length = (g :: fl).length + 1) : FnOk P w K mg base CX0 (k + 1) f fd ps (spInit C (g :: fl)) :=
  Fun.ok F S (fun vs H Q E ⟨a, us, e, h, _⟩ => by subst e; simp only [List.length_cons] at h ⊢; rw [hps, h]; rfl) fun cdv A outer s H vs Q E hr ⟨a, us, e, h1, h2, q⟩ => ⟨_, ini_new (X := (cxOf CX0 P w K mg base N qual (defScope st) f cdv A outer s H E).nox) T hno hc, by
    subst e
    refine ⟨a, us, rfl, h2, hl, h1, fun i u hu => ?_, fun d hd hda => q d hd hda⟩
    unfold L2.start
    have hi : i < us.length := (List.getElem?_eq_some_iff.mp hu).1
    rw [List.getElem?_append_left (by simp; omega), List.getElem?_map, show 1 + i = i + 1 by omega, List.getElem?_cons_succ, hu]
    rfl⟩
end
/-! ### raise C(..) -/
theorem pmk_oexN {X : Cx} {A0 : CXT} {x : Str} {e : Expr} {es : List Expr} {ta : TA} {p pos : Pos} {C fI : Addr} {k : Nat} {fd : FuncData} {ps : List Str} {sp : Sp} (T : OexC X.K C) (iC : PySem.W.findIn X.K (.ref C) "__init__" = some (some (.ref fI))) (tI : PySem.W.typeIn X.K (.ref fI) = some (.type "function"))
    (F1 : FnOk X.prog X.w X.K X.mg X.base A0 k fI fd ps sp) (hr : Room (k + 1) X.A) (hb : Binds X.K fd ps []) (hx : Passes A0 X (fun _ _ _ => False)) (hg : Gl X x) (hm : X.mg x = some (.ref C)) (ha : PA X (e :: es) ta)
    (hdb : (x == ("__debug__" : Str)) = false) (he : starEach (e :: es) X.env = (false, eval e X.env) :: starEach es X.env) (hpl : (backTo pos (starEach es X.env)).any (·.1) = false) : L2N.PMk X (.Call (.Name x p) (e :: es) [] pos) (tMkO C sp [] ta) := by
  intro ip s0 st0 Hq Qq Iv hh
  obtain ⟨n1, n2, n3, n4, bm, n5, n6, n7, n8, n9, m0, m1, m2, m3, m5, hC, hbm⟩ := T.cls
  refine wpAny_Call_Name_kw (ld_glob Iv hg hm (PySem.W.callWith_K (h₀ := X.base) Iv.ok.mod.kin T.kC (thn (ha.run pos ip s0 st0 Hq _ Iv hh) fun us s1 ⟨vs, H1, I1, r1, hz, q1⟩ => ⟨I1.kIn, ?_⟩) he hpl) hdb)
  show wpAny _ _ (call (.ref C) us) _ _ _
  obtain ⟨hp, g, dr, tk, os⟩ := s1
  have hsz : hp.objs.size ≤ hp.objs.size + 1 := Nat.le_succ _
  have hn : H1 (hp.objs.size + 1) = none := I1.hok.fresh hsz
  have hq := q1 _ hn
  rw [List.append_nil] at hq
  have kk : ∀ b o, hp.get? b = some o → ((hp.push (PySem.W.kdv_tup us)).push (PySem.HandSPX.excO C hp.objs.size)).get? b = some o := fun b o z => Heap.get?_push_of_some _ (Heap.get?_push_of_some _ z)
  have I2 := I1.laid (t' := tk) (a := hp.objs.size + 1) (o := exo (hp.objs.size + 1) C none) (h' := (hp.push (PySem.W.kdv_tup us)).push (PySem.HandSPX.excO C hp.objs.size)) kk hsz (exo_ok (by heap_get))
  have r2 : Vals (V.ref (hp.objs.size + 1) :: vs) (Value.ref (hp.objs.size + 1) :: us) := .cons rfl r1
  have hl : (Value.ref (hp.objs.size + 1) :: us ++ []).length = ps.length := by rw [List.append_nil, ← r2.length]; exact F1.len _ _ _ _ hq
  have b2 := hb _ (Value.ref (hp.objs.size + 1) :: us) I2.kIn hl
  rw [List.append_nil] at b2
  refine wpAny_call (PySem.HandSPX.call_own F.excBase_ValueError (fun Y => PySem.HandSPX.refsVE_contains Y bm hbm) (I1.kIn _ _ hC) (PySem.W.looks_findIn I1.kIn iC) (fun self => PySem.W.bind_fn I1.kIn self tI) (by rw [← Paired.length r1, sizeLine_eq]; omega)
    (codeAny_mono (F1.run _ X.stack _ _ ⟨Value.ref (hp.objs.size + 1) :: us, []⟩ (Value.ref (hp.objs.size + 1) :: us) _ _ (fun _ _ _ => False) (hr.make C us []) (I2.env0.make C us []) b2 r2 hq) fun rr s3 hq3 => ?_))
  cases rr with
  | error er => exact hx ip st0 _ _ er s3 I2 hq3
  | ok fl =>
    cases fl with
    | ret u =>
      obtain ⟨v, H2, os2, ba2, un2, ok2, rv, ev, d, fs, ea, ed, hd1, q2⟩ := hq3
      subst ev
      obtain ⟨h2, g2, d2, t2, os3⟩ := s3
      obtain ⟨t0, G, J, kG, ge, hoe, na⟩ := mk_end0 (d2 := d2) (t2 := t2) I1 hsz kk un2 ok2 os2 ba2 ea ed hd1
      exact ⟨rv, hp.objs.size + 1, _, _, ⟨G, g2, d2, t2, os3⟩, _, .ref C, some d, rfl, J, kG, ge, hoe, ⟨rfl, rfl, fun vs hv => by cases hv; rfl⟩, rfl, rfl, na, rfl, ba2, raises_own T.exC T.tyC, q2⟩
    | next => cases hq3
    | brk => cases hq3
    | cont => cases hq3
structure RaiseOk (X : Cx) (T : Tb) (x : Str) (c : Nat) : Prop where
  pm : Gl X x → ∀ (e : Expr) (es : List Expr) (ta : TA) (p pos : Pos), PA X (e :: es) ta → noStar e = true → es.all noStar = true → L2N.PMk X (.Call (.Name x p) (e :: es) [] pos) (tMkO (T.ca c) (spInit (T.ca c) (T.fl c)) [] ta)
  nd : (T.fl c).Nodup
  len : (T.fl c).length ≤ 900
section
variable {X : Cx} {T : Tb} {W : WX} {O O' L : List Nat}
theorem raiseOk {x : Str} {c k : Nat} {fI : Addr} {fd : FuncData} {ps : List Str} (Tc : OexC X.K (T.ca c)) (iC : PySem.W.findIn X.K (.ref (T.ca c)) "__init__" = some (some (.ref fI))) (tI : PySem.W.typeIn X.K (.ref fI) = some (.type "function"))
    (F1 : FnOk X.prog X.w X.K X.mg X.base CX0 k fI fd ps (spInit (T.ca c) (T.fl c))) (hr : Room (k + 1) X.A) (hb : Binds X.K fd ps []) (hm : X.mg x = some (.ref (T.ca c))) (hd : (x == ("__debug__" : Str)) = false) (nd : (T.fl c).Nodup) (len : (T.fl c).length ≤ 900) : RaiseOk X T x c where
  pm := fun hg e es ta p pos ha hn hns => pmk_oexN Tc iC tI F1 hr hb (fun _ _ _ _ _ _ _ h => h.elim) hg hm ha hd (star_cons hn) (star_any hns)
  nd := nd
  len := len
theorem zip_look : ∀ {fl : List Str} {us : List V} {j : Nat} {nm : Str} {v : V}, fl.Nodup → fl[j]? = some nm → us[j]? = some v → (nm, v) ∈ fl.zip us
  | [], _, _, _, _, _, h, _ => by simp at h
  | _ :: _, [], _, _, _, _, _, h => by simp at h
  | f :: fl, u :: us, 0, nm, v, _, h1, h2 => by
    have e1 : f = nm := by simpa using h1
    have e2 : u = v := by simpa using h2
    subst e1 e2
    simp
  | f :: fl, u :: us, j + 1, nm, v, nd, h1, h2 => by
    rw [List.zip_cons_cons]
    exact List.mem_cons_of_mem _ (zip_look (List.nodup_cons.mp nd).2 (by simpa using h1) (by simpa using h2))
theorem look_mem : ∀ {fs : List (Str × V)} {nm : Str} {v : V}, (fs.map (·.1)).Nodup → (nm, v) ∈ fs → fs.lookup nm = some v
  | [], _, _, _, h => by simp at h
  | (f, u) :: fs, nm, v, nd, h => by
    simp only [List.map_cons, List.nodup_cons] at nd
    rcases List.mem_cons.mp h with e | h2
    · cases e; simp [List.lookup]
    · have hne : ¬ nm = f := by
        intro e
        subst e
        exact nd.1 (List.mem_map.mpr ⟨(nm, v), h2, rfl⟩)
      show List.lookup nm ((f, u) :: fs) = _
      rw [List.lookup, beq_eq_false_iff_ne.mpr hne]
      exact look_mem nd.2 h2
theorem ss_raise {x : Str} {c : Nat} {e : Expr} {es : List Expr} {p pos rp : Pos} {fs : Env → Res (List D)} (hc : X.calm = true) (tk : L2N.Takes X W) (R : RaiseOk X T x c) (hg : Gl X x) (hn : noStar e = true) (hns : es.all noStar = true) (hl : ∀ e' xs, fs e' = .ok xs → xs.length = (T.fl c).length)
    (ha : SA X T W O (e :: es) fs) : SS X T W O O' L (.Raise (some (.Call (.Name x p) (e :: es) [] pos)) none rp) (fun e => (fs e).out e fun xs => .ex e c xs) :=
  PS.weak (L2N.ps_raise hc tk (R.pm hg e es _ p pos ha hn hns)) fun D σ H ⟨G0, H0, Gs, G, e, r, gs, p⟩ => ⟨G0, H0, G, e, r, by
    replace p : PostS T X.K W O' L G0 H0 Gs D ((fs e).out e fun xs => .ex e c xs) := p
    cases q : fs e with
    | err c' l =>
      rw [q] at p
      intro od H' G' x q
      obtain ⟨G2, s2, r2⟩ := (r.ext x).weaken (O' := []) (by simp)
      exact p od σ H' G2 r2 ((gs.trans x.g).trans s2) (q.mono s2)
    | bad => rw [q] at p; exact p
    | ok ds =>
      rw [q] at p
      intro vs H1 G1 x1 r1
      have hlen : vs.length = (T.fl c).length := by rw [← r1.length]; exact hl e ds q
      have hle := R.len
      have rl := r.ext x1
      refine ⟨by omega, fun a ha => ⟨a, vs, by simp, hlen, upd_same, fun d hd hda => ⟨rfl, d, _, upd_same, by rw [upd_ne hda]; exact upd_same, ?_, ?_⟩⟩⟩
      · rw [upd_ne hda] at hd; exact hd
      · have hd1 : H1 d = none := by rw [upd_ne hda] at hd; exact hd
        have g1 : G1 d = none := Same.none rl.sub hd1
        obtain ⟨G2, s2, r2⟩ := rl.weaken (O' := []) (by simp)
        have g2 : G2 d = none := by
          cases z : G2 d with
          | none => rfl
          | some o => rw [r2.sub _ _ z] at hd1; cases hd1
        have xx : Ext H1 G2 (upd (del (upd (upd (upd H1 a (exo a (T.ca c) none)) d (exd d ((T.fl c).zip vs).reverse)) a (exo a (T.ca c) (some d))) a) d (.xd ((T.fl c).zip vs).reverse)) (upd G2 d (.xd ((T.fl c).zip vs).reverse)) := by
          have val : ∀ b, b ≠ a → b ≠ d → (upd (del (upd (upd (upd H1 a (exo a (T.ca c) none)) d (exd d ((T.fl c).zip vs).reverse)) a (exo a (T.ca c) (some d))) a) d (.xd ((T.fl c).zip vs).reverse)) b = H1 b := fun b hb1 hb2 => by
            rw [upd_ne hb2, del_ne hb1, upd_ne hb1, upd_ne hb2, upd_ne hb1]
          refine ⟨fun b o z => ?_, same_new g2, fun b o z => ?_, fun b hb hn => ?_⟩
          · have hb1 : b ≠ a := fun y => by rw [y, ha] at z; cases z
            have hb2 : b ≠ d := fun y => by rw [y, hd1] at z; cases z
            rw [val b hb1 hb2]; exact z
          · by_cases hb2 : b = d
            · subst hb2; rw [upd_same] at z ⊢; exact z
            · rw [upd_ne hb2] at z
              have z1 := r2.sub _ _ z
              have hb1 : b ≠ a := fun y => by rw [y, ha] at z1; cases z1
              rw [val b hb1 hb2]; exact z1
          · by_cases hb2 : b = d
            · subst hb2; exact absurd hd1 hb
            · rw [upd_ne hb2]; exact hn
        refine p (some d) σ _ _ (r2.ext xx) (((gs.trans x1.g).trans s2).trans xx.g) (.inr ⟨d, ((T.fl c).zip vs).reverse, rfl, upd_same, hl e ds q, fun j nm dd h1 h2 => ?_⟩)
        obtain ⟨v, hv, rv⟩ := r1.get h2
        refine ⟨v, look_mem ?_ (List.mem_reverse.mpr (zip_look R.nd h1 hv)), (rv.mono s2).mono xx.g⟩
        rw [List.map_reverse, List.map_fst_zip (by omega)]
        exact List.pairwise_reverse.mpr (R.nd.imp fun h => Ne.symm h)⟩
end
end E

set_option autoImplicit false
set_option linter.all false
set_option Elab.async false
set_option maxRecDepth 100000
/-! E15: try, except .. as e: isinstance(e, C), e.f. -/
namespace PySem.W
open PySem PySem.Spec PySem.Calls PyProof.Rows
section
variable {prog : Program} {w : World} {A : Around} {E : Value → Shared → Prop} {s : Shared} {K : Frag} {x D : Addr} {ox : Obj} {od : Option Obj}
theorem E_findObj {C : Addr} {name : Str} {a g : Value} (hc : (clsIn K C).isSome = true) (ha : findIn K (.ref C) name = some (some a)) (hg : specialIn K a "__get__" = some (some g)) (ht : takesIn K a = some true) : findObj K C od name = some (.bind g a) := by
  obtain ⟨cd, hc⟩ := Option.isSome_iff_exists.mp hc
  unfold findObj
  rw [hc, Option.bind_some, ha, Option.bind_some]
  simp [hg, ht]
theorem E_classE {Q : Option Value → Shared → Prop} (hga : findIn K (.ref D) "__getattribute__" = some (some (.builtin "BaseException.__getattribute__"))) (hgt : findIn K (.ref D) "__getattr__" = some none) (hsub : subIn K (.ref D) (.type "BaseException") = some true)
    (hdct : hasDictIn K D = true) (ha : findIn K (.ref D) "__class__" = some (some (.builtin "object.__class__")))
    (hn : specialIn K (.builtin "object.__class__") "__get__" = some (some (.builtin "getset_descriptor.__get__"))) (htk : takesIn K (.builtin "object.__class__") = some true) (hm : mroIn K D (.type "object") = some true)
    (X : K.In s.heap) (I : InstAt s.heap x ox D od) (h : Q (some (.ref D)) { s with toks := s.toks + 1 }) : wpAny (model prog w) A (getAttr? (.ref x) "__class__") Q E s := by
  have hf : findObj K D od "__class__" = some (.bind (.builtin "getset_descriptor.__get__") (.builtin "object.__class__")) := E_findObj (by obtain ⟨cd, hc, _⟩ := any_some hdct; rw [hc]; rfl) ha hn htk
  obtain ⟨hp, g, d, t, os⟩ := s
  have L0 := I.type (M := model prog w)
  have L1 := looks_findIn (M := model prog w) X hga
  have L2 := looks_findIn (M := model prog w) X hgt
  have L3 := looks_find (M := model prog w) X I hf
  have sub : Looks (model prog w) hp (isInstance (.ref x) (.type "BaseException")) true := L0.andThen (looks_subIn X hsub)
  have hx0 : (false && onTheHeap (Value.builtin "BaseException.__getattribute__")) = false := rfl
  have hx1 : (onTheHeap (Value.ref D) && Value.builtin "BaseException.__getattribute__" == Value.builtin "object.__getattribute__") = false := by
    rw [show (Value.builtin "BaseException.__getattribute__" == Value.builtin "object.__getattribute__") = false by decide +kernel]
    rfl
  unfold getAttr? getAttrBy? getAttrBy
  refine wpAny_bind (wpAny_mkText (wpAny_bind (wpAny_attempt (wpAny_holding (wpAny_bind (L0.at (wpAny_bind (L1.at ?_))))))))
  show wpAny _ _ (if (onTheHeap (Value.ref D) && Value.builtin "BaseException.__getattribute__" == Value.builtin "object.__getattribute__") = true then _ else _) _ _ _
  rw [hx1, if_neg Bool.false_ne_true]
  unfold getAttrByItsOwn hookBefore
  refine wpAny_bind ?_
  rw [if_pos (show onTheHeap (Value.ref D) = true from rfl)]
  refine L2.at ?_
  refine wpAny_bind (wpAny_attempt (wpAny_holding ?_))
  unfold callGetattribute
  rw [hx0, if_neg Bool.false_ne_true]
  unfold boundAndCalled
  rw [PySem.F.excAttr_ValueError.ga.bind (.ref x)]
  refine wpAny_bind (wpAny_pure ?_)
  show wpAny _ _ (call (.builtin "BaseException.__getattribute__") [.ref x, .str "__class__" t]) _ _ _
  refine wpAny_call (codeAny_call_builtin PySem.F.excAttr_ValueError.ga.plain PySem.F.entry_bexc_ga ?_)
  refine @check_slot (model prog w) _ _ ⟨hp, g, d, t + 1, os⟩ "BaseException.__getattribute__" "BaseException" "__getattribute__" (.ref x) [.str "__class__" t] [] _ (by decide +kernel) (by decide +kernel) sub (PySem.F.args_bexc_ga (.ref x) (.str "__class__" t)) ?_
  unfold Builtin.«object.__getattribute__»
  refine wpAny_bind (wpAny_of_eq (a := ((Value.ref x : Value), [Value.str "__class__" t])) (by first | rfl | (simp only [slotArgs]; rfl)) ?_)
  refine wpAny_bind (wpAny_pure (wpAny_bind (L0.at (wpAny_bind (L3.at ?_)))))
  show wpAny _ _ (holding [Value.builtin "object.__class__"] (call (.builtin "getset_descriptor.__get__") [.builtin "object.__class__", .ref x, .ref D]) >>= ret) _ _ _
  refine wpAny_bind (wpAny_holding (wpAny_call (class_get (s := ⟨hp, g, d, t + 1, os⟩) (ox := ox) (od := od) X I hm ?_)))
  refine wpAny_pure ?_
  show wpAny _ _ (handedOut (.ref D)) _ _ _
  rw [handedOut_of (v := .ref D) rfl]
  first
    | exact wpAny_pure (wpAny_pure h)
    | exact wpAny_pure h
    | exact wpAny_pure (wpAny_bind (wpAny_pure (wpAny_pure h)))
theorem E_kitx (hga : findIn K (.ref D) "__getattribute__" = some (some (.builtin "BaseException.__getattribute__"))) (hgt : findIn K (.ref D) "__getattr__" = some none) (hsub : subIn K (.ref D) (.type "BaseException") = some true) (hdct : hasDictIn K D = true) (ha : findIn K (.ref D) "__class__" = some (some (.builtin "object.__class__")))
    (hn : specialIn K (.builtin "object.__class__") "__get__" = some (some (.builtin "getset_descriptor.__get__"))) (htk : takesIn K (.builtin "object.__class__") = some true) (hm : mroIn K D (.type "object") = some true) :
    KitX K (.ref x) (.ref D) (fun h => InstAt h x ox D od) where
  ty := fun _ _ _ I => I.type
  it := fun _ _ X _ => by
    obtain ⟨cdD, hcD, _⟩ := any_some hdct
    unfold clsIn at hcD
    split at hcD
    · rename_i c' d' cd' sl' ho
      intro A' Q' E' s' k q
      unfold isType loadHead
      exact wpAny_bind (wpAny_loadPart (k _ _ (X _ _ ho)) (wpAny_pure q))
    · cases hcD
  ne := (handS_kitx_exc (x := x) (ox := ox) hga hgt hsub hdct ha hn htk hm).ne
  ca := fun X I k => E_classE hga hgt hsub hdct ha hn htk hm X I k
end
end PySem.W
namespace E
open PySem PySem.Spec PyProof.Rows L2

def rIsX (K : PySem.W.Frag) (C a : Addr) (d : Option Addr) : List V → Hp → VK → Prop := fun xs H Q => ∃ (c : V) (cv : Value) (b : Bool), xs = [.ref a, c] ∧ (∀ u, RelV c u → u = cv) ∧ PySem.W.kitOne K (.ref C) cv = some b ∧ (d = none ∨ ∃ dd fs, d = some dd ∧ H dd = some (.xd fs)) ∧ Q (.bl b) H
theorem call_isX {X : Cx} {a C : Addr} {d : Option Addr} {oe : Obj} {pn : List (Addr × Obj)} (c : ExcC X.K C) (hz : Zc (.ref C) d oe) (hf : ∃ vs, oe.data = .fields vs) : CallR (X.suite a ((a, oe) :: pn)) (.builtin "isinstance") (rIsX X.K C a d) := by
  intro pins s σ H xs us Q I r h
  obtain ⟨cc, cv, b, rfl, hcv, e, hd, q⟩ := h
  cases r with
  | cons rx rr =>
    cases rr with
    | cons rt rr =>
      cases rr
      cases rx
      have ec := hcv _ rt
      subst ec
      obtain ⟨hget, _⟩ := I.pin (a, oe) (List.mem_append.mpr (.inl List.mem_cons_self))
      obtain ⟨vs, hv⟩ := hf
      have J : ∃ o', PySem.W.InstAt s.heap a oe C o' := by
        rcases hd with hd | ⟨dd, fs, hd, ha⟩
        · refine ⟨none, hget, hz.1, by unfold PySem.W.notCls; rw [hv] <;> rfl, ?_⟩
          rw [hz.2, hd]
          trivial
        · have hx : ObjOk X.prog X.w H s.heap dd (.xd fs) := I.hok dd _ ha
          obtain ⟨mA, hns, hr⟩ := hx
          obtain ⟨od, ho, hl⟩ := lookIn_ns hns
          exact ⟨some od, hget, hz.1, by unfold PySem.W.notCls; rw [hv] <;> rfl, by rw [hz.2, hd]; exact ho⟩
      obtain ⟨o', J⟩ := J
      exact PySem.W.kia_one (PySem.W.E_kitx c.hg c.hk c.hs c.hd c.ha c.hn c.ht c.hm) I.kIn J e (fun z => nomatch z) fun tk => ⟨.bl b, H, I.kept (t' := tk) fun _ _ z => z, rfl, q⟩
/-- the table of the suite of a caught error -/
def suT (T : Tb) (K : PySem.W.Frag) (i : Nat) (a : Addr) (c : Nat) (l : List D) (od : Option Addr) : Tb :=
  { T with z := fun G => ExcAt T K G c l od, zm := fun s h => h.mono s, ze := fun e σ => e[i]? = some (some (.exc c l)) ∧ σ[i]? = some (some (.ref a)), pr := [i], zs := fun h q => ⟨(h i (by simp)).1.trans q.1, (h i (by simp)).2.trans q.2⟩ }
def efldF (i c j : Nat) : Env → Res D := fun e => match e[i]? with
    | some (some (.exc c' l)) => if c' = c then om l[j]? .ok else .bad
    | _ => .bad
def eisiF (sub : Nat → Nat → Option Bool) (i k : Nat) : Env → Res D := fun e => match e[i]? with
    | some (some (.exc c' _)) => om (sub c' k) fun b => .ok (.bl b)
    | _ => .bad
/-- what must be known of the names of the classes -/
structure ClsNm (X : Cx) (T : Tb) (sub : Nat → Nat → Option Bool) (x : Str) (k : Nat) : Prop where
  ex : ∃ cv v, RelV v cv ∧ (∀ u, RelV v u → u = cv) ∧ (x == ("__debug__" : Str)) = false ∧ (X.mg x = some cv ∨ (X.mg x = none ∧ bootBuiltins x = some cv ∧ x ≠ "__name__")) ∧
    ∀ c b, sub c k = some b → PySem.W.kitOne X.K (.ref (T.ca c)) cv = some b ∧ PySem.W.exmOne X.K (.ref (T.ca c)) cv = some b
structure ExcF (K : PySem.W.Frag) (T : Tb) (c : Nat) : Prop where
  e : ExcC K (T.ca c)
  x : XfC K (T.ca c)
  na : ∀ f ∈ T.fl c, PySem.W.findIn K (.ref (T.ca c)) f = some none
section
variable {X : Cx} {T : Tb} {W : WX} {O O' L : List Nat}
theorem se_efld {i c j c' : Nat} {l : List D} {nm f : Str} {a : Addr} {oe : Obj} {od : Option Addr} {pn : List (Addr × Obj)} {p pos : Pos} (F : ExcF X.K T c') (hj : (T.fl c)[j]? = some f) (hz : Zc (.ref (T.ca c')) od oe) (hf : ∃ vs, oe.data = .fields vs)
    (hN : X.N[i]? = some nm) (hv : Vis X.env.scope nm) (hd : (nm == ("__debug__" : Str)) = false) (hcd : (nm == ("__classdict__" : Str)) = false) :
    SE (X.suite a ((a, oe) :: pn)) (suT T X.K i a c' l od) W O (.Attribute (.Name nm p) f pos) (efldF i c j) := by
  by_cases hc : c' = c
  · subst hc
    refine PE.weak (pe_xf F.x (F.na f (List.mem_of_getElem? hj)) hz hf (pe_var (X := X.suite a ((a, oe) :: pn)) hN hv hd hcd) rfl) fun σ H Q ⟨G0, H0, G, e, r, p⟩ => ?_
    obtain ⟨e1, e2⟩ := r.ze
    unfold efldF at p
    rw [e1] at p
    simp only [if_true] at p
    refine ⟨.ref a, e2, rfl, rfl, ?_⟩
    obtain ⟨d, hd, p⟩ := pmat p
    have z : ExcAt T X.K G c' l od := r.z
    rcases z with ⟨q1, q2, q3⟩ | ⟨dd, fs, q1, q2, q3, q4⟩
    · rw [q1] at hj; simp at hj
    · obtain ⟨v, v1, v2⟩ := q4 j f d hj hd
      exact ⟨dd, fs, v, q1, r.sub _ _ q2, v1, p.ok r.sub (rep_T (T := T) (T' := suT T X.K i a c' l od) rfl rfl _ _ v2)⟩
  · refine ⟨fun pins s σ H Q I ⟨G0, H0, G, e, r, p⟩ => ?_⟩
    obtain ⟨e1, e2⟩ := r.ze
    unfold efldF at p
    rw [e1] at p
    simp only [if_neg hc] at p
    exact p.elim
theorem pe_cls {X : Cx} {x : Str} {cv : Value} {v : V} {pos : Pos} (hg : Gl X x) (hv : RelV v cv) (hd : (x == ("__debug__" : Str)) = false) (h : X.mg x = some cv ∨ (X.mg x = none ∧ bootBuiltins x = some cv ∧ x ≠ "__name__")) : PE X (.Name x pos) (tC v) := by
  rcases h with h | ⟨h1, h2, h3⟩
  · exact pe_glob hg h hv hd
  · exact ⟨fun _ _ _ H _ I h => ld_blt I hg h1 h2 ⟨v, H, I, hv, h⟩ h3 hd⟩
theorem se_eisi {sub : Nat → Nat → Option Bool} {i k c' : Nat} {l : List D} {nm x : Str} {a : Addr} {oe : Obj} {od : Option Addr} {pn : List (Addr × Obj)} {p p2 p3 pos : Pos} (F : ExcF X.K T c') (C : ClsNm X T sub x k) (hz : Zc (.ref (T.ca c')) od oe) (hf : ∃ vs, oe.data = .fields vs)
    (hN : X.N[i]? = some nm) (hv : Vis X.env.scope nm) (hd : (nm == ("__debug__" : Str)) = false) (hcd : (nm == ("__classdict__" : Str)) = false) (hg : Gl X "isinstance") (hm : X.mg "isinstance" = none) (hgx : Gl X x) :
    SE (X.suite a ((a, oe) :: pn)) (suT T X.K i a c' l od) W O (.Call (.Name "isinstance" p) [.Name nm p2, .Name x p3] [] pos) (eisiF sub i k) := by
  obtain ⟨cv, v, h1, h2, h3, h4, h5⟩ := C.ex
  refine PE.weak (pe_callB (X := X.suite a ((a, oe) :: pn)) (call_isX F.e hz hf) hg hm boot_isinstance (pa_cons (pe_var (X := X.suite a ((a, oe) :: pn)) hN hv hd hcd) (pa_cons (pe_cls (X := X.suite a ((a, oe) :: pn)) hgx h1 h3 h4) pa_nil))) fun σ H Q ⟨G0, H0, G, e, r, p⟩ => ?_
  obtain ⟨e1, e2⟩ := r.ze
  unfold eisiF at p
  rw [e1] at p
  have p' : PostG (suT T X.K i a c' l od) X.K (RV (suT T X.K i a c' l od) X.K) W σ H G (om (sub c' k) fun b => .ok (.bl b)) Q := p
  obtain ⟨b, hb, p2⟩ := pmat (X := X) p'
  refine ⟨.ref a, e2, v, cv, b, rfl, h2, (h5 c' b hb).1, ?_, pv_bl p2 r.sub⟩
  have z : ExcAt T X.K G c' l od := r.z
  rcases z with ⟨q1, q2, q3⟩ | ⟨dd, fs, q1, q2, _⟩
  · exact .inl q3
  · exact .inr ⟨dd, fs, q1, r.sub _ _ q2⟩
/-! ### try: body, except x as nm: suite, .. -/
/-- one handler, the ones behind it -/
def hdStep (sub : Nat → Nat → Option Bool) (i k : Nat) (fh : Env → Out) (fr : Nat → List D → Env → Out) : Nat → List D → Env → Out := fun c l e' => omO (sub c k) fun z => if z = true then (if i < e'.length then (match fh (e'.set i (some (.exc c l))) with
      | .nx e' => .nx (e'.set i none)
      | .bk e' => .bk (e'.set i none)
      | .ct e' => .ct (e'.set i none)
      | .ex _ _ _ => .bad
      | o => o) else .bad)
    else fr c l e'
def tryF (fb : Env → Out) (fr : Nat → List D → Env → Out) : Env → Out := fun e => match fb e with
  | .ex e' c l => fr c l e'
  | o => o
theorem Rel.toSu {K : PySem.W.Frag} {G0 H0 : Hp} {σ : L2.St} {H G : Hp} {e : Env} {i : Nat} {a : Addr} {c : Nat} {l : List D} {od : Option Addr} (r : Rel T K [] G0 H0 σ H G e) (hi : i < e.length) (x : ExcAt T K G c l od) : Rel (suT T K i a c l od) K [] G0 H0 (σ.set i (some (.ref a))) H G (e.set i (some (.exc c l))) where
  x := r.x
  s0 := r.s0
  z := x
  ze := ⟨List.getElem?_set_self hi, List.getElem?_set_self (by rw [r.len]; exact hi)⟩
  po := fun j hj z => by simp at z
  len := by simpa using r.len
  val := fun j d h _ => by
    by_cases hij : i = j
    · subst hij
      rw [List.getElem?_set_self hi] at h
      cases h
      exact ⟨.ref a, List.getElem?_set_self (by rw [r.len]; exact hi), by simp only [Rep]⟩
    · rw [List.getElem?_set_ne hij] at h ⊢
      obtain ⟨v, h1, h2⟩ := r.val j d h (by simp)
      exact ⟨v, h1, rep_T (T := T) (T' := suT T K i a c l od) rfl rfl _ _ h2⟩
  own := fun j hj => by simp at hj
  dis := fun j hj => by simp at hj
theorem Rel.fromSu {K : PySem.W.Frag} {G0 H0 : Hp} {σ : L2.St} {H G : Hp} {e : Env} {i : Nat} {a : Addr} {c : Nat} {l : List D} {od : Option Addr} (r : Rel (suT T K i a c l od) K [] G0 H0 σ H G e) (hz : ∀ G, T.z G) (hze : ∀ e σ, T.ze e σ) : Rel T K [] G0 H0 (σ.set i none) H G (e.set i none) where
  x := r.x
  s0 := r.s0
  z := hz _
  ze := hze _ _
  po := fun j hj z => by simp at z
  len := by simpa using r.len
  val := fun j d h _ => by
    by_cases hij : i = j
    · subst hij
      have hl : i < e.length := (List.getElem?_eq_some_iff.mp r.ze.1).1
      rw [List.getElem?_set_self hl] at h
      cases h
    · rw [List.getElem?_set_ne hij] at h ⊢
      obtain ⟨v, h1, h2⟩ := r.val j d h (by simp)
      exact ⟨v, h1, rep_T (T := suT T K i a c l od) (T' := T) rfl rfl _ _ h2⟩
  own := fun j hj => by simp at hj
  dis := fun j hj => by simp at hj
abbrev HdT := Value × Nat × (Addr → Value → Option Addr → TS)
def gone (i : Nat) (D : Ends) : Ends := { nx := fun σ H => D.nx (σ.set i none) H, rt := D.rt, bk := fun σ H => D.bk (σ.set i none) H, ct := fun σ H => D.ct (σ.set i none) H }
/-- what the handlers ask of an exception, one after the other -/
def wAll (K : PySem.W.Frag) (W0 : WX) (D : Ends) : List HdT → WX
  | [] => W0
  | (c, i, ts) :: r => fun cls d σ H => ∃ b, PySem.W.exmOne K cls c = some b ∧ (b = true → ∀ a, H a = none → ts a cls d (gone i D) (σ.set i (some (.ref a))) H) ∧ (b = false → wAll K W0 D r cls d σ H)
inductive HdsA (X : Cx) : List ExceptHandler → List HdT → Prop
  | nil : HdsA X [] []
  | cons {x nm : Str} {c : Value} {i : Nat} {ts : Addr → Value → Option Addr → TS} {b0 : Stmt} {suite : List Stmt} {np hp : Pos} {hds : List ExceptHandler} {l : List HdT} (hc : Names X x c) (hi : X.N[i]? = some nm) (hln : X.env.kindOf nm = some .local)
      (hsu : ∀ (a : Addr) (oe : Obj) (cls : Value) (d : Option Addr) (pn : List (Addr × Obj)), L2N.Zn cls d oe → (∃ vs, oe.data = .fields vs) → PSs (X.suite a ((a, oe) :: pn)) (b0 :: suite) (ts a cls d)) (r : HdsA X hds l) :
      HdsA X (.ExceptHandler (some (.Name x np)) (some nm) (b0 :: suite) hp :: hds) ((c, i, ts) :: l)
theorem ps_tryA {body : List Stmt} {h0 : ExceptHandler} {hds : List ExceptHandler} {l : List HdT} {pos : Pos} {tb : WX → TS} (hs : X.stack = X.env :: X.outer) (hf : X.env.frame = some X.env.locals) (hN : X.N.Nodup) (tk : L2N.Takes X W)
    (hb : ∀ (W : WX) (pn : List (Addr × Obj)) (xe : Value → Shared → Prop), L2N.Takes (X.tr pn xe) W → PassesOwn (model X.prog X.w) X.A X.env xe → PSs (X.tr pn xe) body (tb W)) (hh : HdsA X (h0 :: hds) l) :
    PS X (.Try body (h0 :: hds) [] [] pos) (fun D σ H => tb (wAll X.K W D l) D σ H) := by
  refine ⟨fun ip s st Hq D Iv hq0 => wpAny_Try_except (wpAny_mono ((hb (wAll X.K W D l) (X.pn ++ ip) (fun e z1 => wpAny (model X.prog X.w) X.A (noteFrame e X.env) (fun _ z2 => wpAny (model X.prog X.w) X.A (setFlight e none) (fun _ z3 =>
    wpAny (model X.prog X.w) X.A (handleBy e X.env (h0 :: hds)) (L2.SP X ip D) X.xe z3) X.xe z2) X.xe z1) (fun u t xx => ?_) PassesOwn.looking).run [] s st Hq D (Iv.toTry _) hq0) (fun fw t hsp => ?_) (fun _ _ he => he))⟩
  · obtain ⟨a, B, sI, jp, st1, H1, cls, d, rfl, J0, nb, up, sk, na, os, ag, w⟩ := xx
    have ok := Iv.ok
    have J : Inv X ip st1 H1 sI := J0.ofTry ok
    have fr0 : X.A.frames = some (X.env :: X.outer) := by rw [ok.frames, hs]
    have sk2 : Sky B (X.env :: X.outer) a (L2N.Zn cls d) X.env.locals t.heap := by rw [← hs]; exact sk
    show wpAny (model X.prog X.w) X.A (noteFrame (.ref a) X.env) _ _ _
    refine L2N.Sky.land L2N.Zn.steady fr0 hf sk2 fun g fl ug => ?_
    have Jg : Inv X ip st1 H1 { t with heap := g } := J.landed nb fl.1 (up.trans ug) os ag
    obtain ⟨og, vg, eg, zg, dg⟩ := fl.there
    have nfr : a ∉ frs (X.env :: X.outer) := fun hm => by
      obtain ⟨_, o2, e2, hnf⟩ := fl.2.2.1.mem hm
      rw [eg] at e2
      cases e2
      exact hnf _ dg
    have nL : a ≠ X.env.locals := fun z => nfr (List.mem_filterMap.mpr ⟨X.env, List.mem_cons_self, by rw [hf, z]⟩)
    have nF : a ∉ X.fs := fun hm => by
      obtain ⟨ev, hev, q⟩ := List.mem_filterMap.mp hm
      exact nfr (List.mem_filterMap.mpr ⟨ev, List.mem_cons_of_mem _ hev, q⟩)
    have Sg := Jg.suite eg dg na nL nF
    have go : ∀ {hs2 : List ExceptHandler} {l2 : List HdT}, HdsA X hs2 l2 → wAll X.K W D l2 cls d st1 H1 → wpAny (model X.prog X.w) X.A (handleBy (.ref a) X.env hs2) (L2.SP X ip D) X.xe { t with heap := g } := by
      intro hs2 l2 hk
      induction hk with
      | nil =>
        intro w2
        refine wpAny_handleBy_nil ?_
        obtain ⟨k1, k2, k3, oe, vs, T0, oT, ts0, he, hz, hd, h1, hr⟩ := id fl
        unfold PySem.passOn
        refine wpAny_bind (wpAny_field he hd h1 ?_)
        rw [if_neg (show ¬ ((Value.ref T0 == Value.none) = true) from by simp)]
        have lst : wpAny (model X.prog X.w) X.A (setFlight (.ref a) X.env.frame) (fun _ z4 => wpAny (model X.prog X.w) X.A (throw (.ref a) : Sem Flow) (L2.SP X ip D) X.xe z4) X.xe { t with heap := g } := by
          rw [hf]
          exact HandSPX.setFlight_upZ fl fun g4 fg4 u4 => wpAny_throw (tk _ _ ⟨a, B, sI, ip, st1, H1, cls, d, rfl, J, nb, (up.trans ug).trans u4, .inr (.inr (by rw [hs]; exact fg4)), na, os, ag, w2⟩)
        first
          | exact wpAny_bind (wpAny_pure (wpAny_bind lst))
          | exact wpAny_bind lst
      | @cons x nm c i ts b0 suite np hp hds2 l2 hc hi hln hsu r ih =>
        intro ⟨b, hb1, hyes, hno⟩
        refine wpAny_handleBy_cons (codeAny_handlers_test ?_) (by intro q; cases q)
        have LM := PySem.W.exm_one (M := model X.prog X.w) Jg.kIn (fun A Q E z k q => wpAny_typeOf_ref (k _ _ eg) (by rw [zg.1]; exact q)) hb1
        have tst : ∀ {Q : Value → Shared → Prop} {E : Value → Shared → Prop}, Q c { t with heap := g } → wpAny (model X.prog X.w) (X.A.mark (some (.ref a))) (eval (.Name x np) X.env) Q E { t with heap := g } := fun {Q E} q => by
          obtain ⟨hg, hdb, hm | ⟨hm, hv, hnn⟩⟩ := hc
          · exact ld_glob (X := X.suite a ((a, og) :: (X.pn ++ ip))) Sg hg hm q hdb
          · exact ld_blt (X := X.suite a ((a, og) :: (X.pn ++ ip))) Sg hg hm hv q hnn hdb
        refine tst (LM.here ?_)
        cases b with
        | true =>
          refine codeAny_handlers_suite_as (HandSPX.lands_againZ fl fun g4 f4 u4 => ?_)
          have J4 : Inv X ip st1 H1 { t with heap := g4 } := J.landed nb f4.1 ((up.trans ug).trans u4) os ag
          obtain ⟨o4, v4, e4, z4, d4⟩ := f4.there
          have S4 := J4.suite e4 d4 na nL nF
          refine store_ok (X := X.suite a ((a, o4) :: (X.pn ++ ip))) (v := .ref a) S4 hN hi (.inl hln) rfl (fun s5 S5 => wpAny_mono ((hsu a o4 cls d (X.pn ++ ip) z4 ⟨_, d4⟩).run [] s5 _ H1 _ S5 (hyes rfl a na)) (fun fw s6 hsp => ?_) (fun _ _ z => False.elim z)) (.inr hln)
          have end_ : ∀ {σ6 : L2.St} {H6 : Hp} {Q : Shared → Prop}, Inv (X.suite a ((a, o4) :: (X.pn ++ ip))) [] σ6 H6 s6 → (∀ s7, Inv X ip (σ6.set i none) H6 s7 → Q s7) → wpAny (model X.prog X.w) X.A (do bindName X.env nm .none; unbindBehindTheSuite X.env nm hp) (fun _ s7 => Q s7) X.xe s6 :=
            fun {σ6 H6 Q} S6 hq => gone_ok (S6.unsuite ok) hN hi hln hq
          cases fw with
          | next => exact (fun ⟨_, _, S6, q6⟩ => end_ S6 fun _ J7 => ⟨_, _, J7, q6⟩ : (∃ σ H, _ ∧ _) → _) hsp
          | brk => exact (fun ⟨_, _, S6, q6⟩ => end_ S6 fun _ J7 => ⟨_, _, J7, q6⟩ : (∃ σ H, _ ∧ _) → _) hsp
          | cont => exact (fun ⟨_, _, S6, q6⟩ => end_ S6 fun _ J7 => ⟨_, _, J7, q6⟩ : (∃ σ H, _ ∧ _) → _) hsp
          | ret u => exact (fun ⟨_, _, _, S6, r6, q6⟩ => end_ S6 fun _ J7 => ⟨_, _, _, J7, r6, q6⟩ : (∃ v σ H, _ ∧ _ ∧ _) → _) hsp
        | false => exact ih (hno rfl)
    exact go hh w
  · have ok := Iv.ok
    cases fw with
    | next => exact (fun ⟨_, _, J1, q⟩ => wpAny_execs_nil ⟨_, _, J1.ofTry ok, q⟩ : (∃ σ H, _ ∧ _) → _) hsp
    | brk => exact (fun ⟨_, _, J1, q⟩ => ⟨_, _, J1.ofTry ok, q⟩ : (∃ σ H, _ ∧ _) → _) hsp
    | cont => exact (fun ⟨_, _, J1, q⟩ => ⟨_, _, J1.ofTry ok, q⟩ : (∃ σ H, _ ∧ _) → _) hsp
    | ret u => exact (fun ⟨_, _, _, J1, r, q⟩ => ⟨_, _, _, J1.ofTry ok, r, q⟩ : (∃ v σ H, _ ∧ _ ∧ _) → _) hsp
/-- the handlers do what fr says -/
def HdOk (X : Cx) (T : Tb) (W : WX) (hds : List ExceptHandler) (fr : Nat → List D → Env → Out) : Prop :=
  ∃ l, HdsA X hds l ∧ ∀ (D : Ends) (e : Env) (c : Nat) (ds : List E.D) (od : Option Addr) (σ : L2.St) (G0 H0 Gs H G : Hp), Rel T X.K [] G0 H0 σ H G e → Same Gs G → ExcAt T X.K G c ds od → PostS T X.K W [] [] G0 H0 Gs D (fr c ds e) → wAll X.K W D l (.ref (T.ca c)) od σ H
theorem hd_nil : HdOk X T W [] (fun c l e => .ex e c l) := ⟨[], .nil, fun D e c ds od σ G0 H0 Gs H G r g ea p => p od σ H G r g ea⟩
theorem hd_cons {sub : Nat → Nat → Option Bool} {i k : Nat} {x nm : Str} {suite : List Stmt} {b0 : Stmt} {np hp : Pos} {hds : List ExceptHandler} {fh : Env → Out} {fr : Nat → List D → Env → Out} (hi : X.N[i]? = some nm) (hln : X.env.kindOf nm = some .local)
    (C : ClsNm X T sub x k) (hg : Gl X x) (hz : ∀ G, T.z G) (hze : ∀ e σ, T.ze e σ)
    (hh : ∀ (a : Addr) (oe : Obj) (od : Option Addr) (pn : List (Addr × Obj)) (c : Nat) (l : List D), L2N.Zn (.ref (T.ca c)) od oe → (∃ vs, oe.data = .fields vs) → (∃ b, sub c k = some b) → SSs (X.suite a ((a, oe) :: pn)) (suT T X.K i a c l od) noW [] [] [] (b0 :: suite) fh)
    (hr : HdOk X T W hds fr) : HdOk X T W (.ExceptHandler (some (.Name x np)) (some nm) (b0 :: suite) hp :: hds) (hdStep sub i k fh fr) := by
  obtain ⟨lr, hlr, key⟩ := hr
  obtain ⟨cv, v, h1, h2, h3, h4, h5⟩ := C.ex
  refine ⟨(cv, i, fun a cls d D σ H => ∃ c l, cls = .ref (T.ca c) ∧ (∃ b, sub c k = some b) ∧ cS X (suT T X.K i a c l d) noW [] [] [] fh D σ H) :: lr,
    .cons ⟨hg, h3, h4⟩ hi hln (fun a oe cls d pn z f => ⟨fun pins s σ H D I ⟨c, l, e1, e2, q⟩ => (hh a oe d pn c l (by rw [← e1]; exact z) f e2).run pins s σ H D I q⟩) hlr, fun D e' c l od σ' G0 H0 Gs H' G' r' g' ea p => ?_⟩
  unfold hdStep at p
  cases hsub : sub c k with
  | none => simp only [hsub, omO_none] at p; exact p.elim
  | some b =>
    simp only [hsub, omO_some] at p
    refine ⟨b, (h5 c b hsub).2, fun hb a ha => ?_, fun hb => ?_⟩
    · subst hb
      rw [if_pos rfl] at p
      have hlt : i < e'.length := by
        apply Classical.byContradiction
        intro z
        rw [if_neg z] at p
        exact p
      rw [if_pos hlt] at p
      refine ⟨c, l, rfl, ⟨true, hsub⟩, G0, H0, Gs, G', e'.set i (some (.exc c l)), r'.toSu hlt ea, g', ?_⟩
      cases q2 : fh (e'.set i (some (.exc c l))) with
      | nx e2 =>
        rw [q2] at p
        exact fun σ2 H2 G2 r2 g2 => p _ _ _ (r2.fromSu hz hze) g2
      | rt d =>
        rw [q2] at p
        exact fun v H2 G2 x2 rv => p v H2 G2 x2 (rep_T (T := suT T X.K i a c l od) (T' := T) rfl rfl _ _ rv)
      | bk e2 =>
        rw [q2] at p
        exact fun σ2 H2 G2 r2 g2 => p _ _ _ (r2.fromSu hz hze) g2
      | ct e2 =>
        rw [q2] at p
        exact fun σ2 H2 G2 r2 g2 => p _ _ _ (r2.fromSu hz hze) g2
      | ex e2 c2 l2 => rw [q2] at p; exact p.elim
      | bad => rw [q2] at p; exact p.elim
    · subst hb
      rw [if_neg (by simp)] at p
      exact key D e' c l od σ' G0 H0 Gs H' G' r' g' ea p
theorem ss_try {body : List Stmt} {h0 : ExceptHandler} {hds : List ExceptHandler} {pos : Pos} {fb : Env → Out} {fr : Nat → List D → Env → Out} (hs : X.stack = X.env :: X.outer) (hf : X.env.frame = some X.env.locals) (hN : X.N.Nodup) (tk : L2N.Takes X W)
    (hb : ∀ (W : WX) (pn : List (Addr × Obj)) (xe : Value → Shared → Prop), L2N.Takes (X.tr pn xe) W → PassesOwn (model X.prog X.w) X.A X.env xe → SSs (X.tr pn xe) T W O [] L body fb)
    (hh : HdOk X T W (h0 :: hds) fr) (hL : L = []) : SS X T W O [] L (.Try body (h0 :: hds) [] [] pos) (tryF fb fr) := by
  subst hL
  obtain ⟨l, hl, key⟩ := hh
  have kk := ps_tryA (pos := pos) (tb := fun W => cS X T W O [] [] fb) hs hf hN tk hb hl
  refine ⟨fun pins s σ H D I ⟨G0, H0, Gs, G, e, r, gs, p⟩ => kk.run pins s σ H D I ⟨G0, H0, Gs, G, e, r, gs, ?_⟩⟩
  unfold tryF at p
  cases q : fb e with
  | nx e' => rw [q] at p; exact p
  | rt d => rw [q] at p; exact p
  | bk e' => rw [q] at p; exact p
  | ct e' => rw [q] at p; exact p
  | bad => rw [q] at p; exact p
  | ex e' c l2 =>
    rw [q] at p
    exact fun od σ' H' G' r' g' ea => key D e' c l2 od σ' G0 H0 Gs H' G' r' g' ea p
end
end E

set_option autoImplicit false
set_option linter.all false
set_option Elab.async false
set_option maxRecDepth 100000
/-! E16: the check of the small language against the program's form, and its soundness: expressions. -/
namespace E
open PySem PySem.Spec PyProof.Rows L2

structure Scp where
  N : List Str
  sc : Scope
  raw : Scope
  calm : Bool := true
  stm : Bool := true
  tr : Bool := true
  fns : List (Nat × Str × Nat) := []
  hot : List (Nat × Str × Nat) := []
  glb : List (Str × D) := []
  fl : List (List Str) := []
  ics : List Nat := []
  xcs : List (Str × Nat) := []
  cn : List (Str × Nat) := []
  ex : Option (Nat × Str) := none
  pr : List Nat := []
def bnames : List Str := ["len", "int", "min", "max", "sum", "sorted", "str", "tuple", "list", "all", "any", "range", "enumerate", "zip", "reversed", "abs", "bool", "isinstance", "set", "dict"]
def visN (sc : Scope) (x : Str) : Bool := decide (sc.names.lookup x = some .local) || decide (sc.names.lookup x = some .cell) || decide (sc.names.lookup x = some .free)
def gl (S : Scp) (x : Str) : Bool := decide (S.sc.names.lookup x = some .globalImplicit)
def ndb (x : Str) : Bool := !(x == ("__debug__" : Str)) && !(x == ("__classdict__" : Str))
def nameOk (S : Scp) (i : Nat) (x : Str) : Bool := decide (S.N[i]? = some x) && visN S.sc x && ndb x
def stoOk (S : Scp) (i : Nat) (x : Str) : Bool := decide (S.N[i]? = some x) && (decide (S.raw.names.lookup x = some .local) || decide (S.raw.names.lookup x = some .cell))
/-- contexts of one place in the run -/
structure Core (X X' : Cx) : Prop where
  prog : X'.prog = X.prog
  w : X'.w = X.w
  K : X'.K = X.K
  mg : X'.mg = X.mg
  base : X'.base = X.base
  A : X'.A = X.A
  pn : X.calm = true ∨ ∀ q ∈ X.pn, q ∈ X'.pn
theorem Core.refl (X : Cx) : Core X X := ⟨rfl, rfl, rfl, rfl, rfl, rfl, .inr fun _ h => h⟩
theorem Core.trans {X Y Z : Cx} (a : Core X Y) (b : Core Y Z) (hc : X.calm = true → Y.calm = true) (hc2 : Y.calm = true → X.calm = true) : Core X Z := ⟨b.prog.trans a.prog, b.w.trans a.w, b.K.trans a.K, b.mg.trans a.mg, b.base.trans a.base, b.A.trans a.A, by
  rcases a.pn with h | h
  · exact .inl h
  · rcases b.pn with h2 | h2
    · exact .inl (hc2 h2)
    · exact .inr fun q hq => h2 q (h q hq)⟩
structure Fx (X : Cx) (T : Tb) (W : WX) (Φ : Nat → List D → Res D) (sub : Nat → Nat → Option Bool) (S : Scp) : Prop where
  hN : X.N = S.N
  nd : X.N.Nodup
  sc : X.env.scope = S.sc
  stl : ∀ x, S.raw.names.lookup x = some .local → S.sc.names.lookup x = some .local
  stc : ∀ x, S.raw.names.lookup x = some .cell → X.fn x = true ∧ S.sc.names.lookup x = some .cell
  calm : S.calm = true → X.calm = true
  hu : X.A.units + 65 < cLine
  bi : ∀ x ∈ bnames, X.mg x = none
  glb : ∀ p ∈ S.glb, ∃ v u, X.mg p.1 = some u ∧ RelV v u ∧ ∀ G, Rep T X.K G p.2 v
  fl : ∀ c fs, S.fl[c]? = some fs → T.fl c = fs
  ins : ∀ c ∈ S.ics, ClsOk X.K (T.ca c) (T.fl c)
  fn : ∀ p ∈ S.fns, ∀ (X' : Cx) (W' : WX), Core X X' → L2N.Takes X' W' → CallOk X' T W' (Φ p.1) p.2.1 p.2.2
  tk : L2N.Takes X W
  pr : T.pr = S.pr
  efl : ∀ i nm, S.ex = some (i, nm) → ∀ (O : List Nat) (c j : Nat) (f : Str) (p pos : Pos), (T.fl c)[j]? = some f → Vis X.env.scope nm → X.N[i]? = some nm → ndb nm = true → SE X T W O (.Attribute (.Name nm p) f pos) (efldF i c j)
  eis : ∀ i nm, S.ex = some (i, nm) → ∀ q ∈ S.cn, ∀ (O : List Nat) (p p2 p3 pos : Pos), Vis X.env.scope nm → X.N[i]? = some nm → ndb nm = true → Gl X "isinstance" → Gl X q.1 → SE X T W O (.Call (.Name "isinstance" p) [.Name nm p2, .Name q.1 p3] [] pos) (eisiF sub i q.2)
section
variable {X : Cx} {T : Tb} {W : WX} {Φ : Nat → List D → Res D} {sub : Nat → Nat → Option Bool} {S : Scp}
theorem Fx.vis (F : Fx X T W Φ sub S) {x : Str} (h : visN S.sc x = true) : Vis X.env.scope x := by
  rw [F.sc]
  unfold visN at h
  simp only [Bool.or_eq_true, decide_eq_true_eq] at h
  rcases h with (h | h) | h
  · exact .inl h
  · exact .inr (.inl h)
  · exact .inr (.inr h)
theorem Fx.gl (F : Fx X T W Φ sub S) {x : Str} (h : E.gl S x = true) : Gl X x := by
  unfold E.gl at h
  show X.env.scope.names.lookup x = _
  rw [F.sc]
  exact of_decide_eq_true h
theorem Fx.nm (F : Fx X T W Φ sub S) {i : Nat} {x : Str} (h : nameOk S i x = true) : X.N[i]? = some x ∧ Vis X.env.scope x ∧ (x == ("__debug__" : Str)) = false ∧ (x == ("__classdict__" : Str)) = false := by
  unfold nameOk ndb at h
  simp only [Bool.and_eq_true, decide_eq_true_eq, Bool.not_eq_true'] at h
  exact ⟨by rw [F.hN]; exact h.1.1, F.vis h.1.2, h.2.1, h.2.2⟩
theorem Fx.sto (F : Fx X T W Φ sub S) {i : Nat} {x : Str} (h : stoOk S i x = true) : X.N[i]? = some x ∧ Loc X.env.scope x ∧ (X.fn x = true ∨ X.env.scope.names.lookup x = some .local) := by
  unfold stoOk at h
  simp only [Bool.and_eq_true, Bool.or_eq_true, decide_eq_true_eq] at h
  refine ⟨by rw [F.hN]; exact h.1, ?_⟩
  rw [F.sc]
  rcases h.2 with h | h
  · exact ⟨.inl (F.stl x h), .inr (F.stl x h)⟩
  · exact ⟨.inr (F.stc x h).2, .inl (F.stc x h).1⟩
end
def binOk : Op2 → Operator → Bool
  | .add, .Add => true | .sub, .Sub => true | .mul, .Mult => true | .fdiv, .FloorDiv => true | .mod, .Mod => true | .pow, .Pow => true | _, _ => false
theorem binOk_eq {o : Op2} {op : Operator} (h : binOk o op = true) : binO o = some op := by cases o <;> cases op <;> first | rfl | cases h
def cmpOk : Op2 → CmpOp → Bool
  | .eq, .Eq => true | .ne, .NotEq => true | .lt, .Lt => true | .le, .LtE => true | .gt, .Gt => true | .ge, .GtE => true | .in_, .In => true | .notIn, .NotIn => true | _, _ => false
theorem cmpOk_eq {o : Op2} {op : CmpOp} (h : cmpOk o op = true) : cmpO o = some op := by cases o <;> cases op <;> first | rfl | cases h
def notSet : Expr → Bool
  | .Set _ _ _ => false
  | _ => true
theorem notSet_ok {e : Expr} {env : PySem.Env} (h : notSet e = true) : ∀ x, foldedSetIterable e env x = pure x := by
  intro x
  cases e <;> first | rfl | cases h
/-- targets: names -/
def chkNs (S : Scp) : List Nat → List Expr → Bool
  | [], [] => true
  | i :: is, .Name x _ :: es => stoOk S i x && chkNs S is es
  | _, _ => false
def chkT (S : Scp) (t : List Nat) (one : Bool) (tg : Expr) : Bool := match tg with
  | .Name x _ => one && (match t with | [i] => stoOk S i x | _ => false)
  | .Tuple es _ _ => !one && S.calm && chkNs S t es
  | _ => false
def blkS (S : Scp) (scope : Scope) : Scp := { S with sc := relS scope S.sc, raw := scope, stm := false, ex := none }
def ownOf (S : Scp) (t : List Nat) : List (Str × Nat) := t.map fun i => (S.N.getD i (Str.ofString ""), i)
/-- fit as tests -/
def okT : C → Bool
  | .ite _ _ _ => false
  | .and a b => okT a && okT b
  | .or a b => okT a && okT b
  | .not a => okT a
  | .one a => okT a
  | _ => true
def disj (t O pr : List Nat) : Bool := t.all fun i => !O.contains i && !pr.contains i
mutual
def chkE (S : Scp) (O : List Nat) (rd : Bool) : C → Expr → Bool
  | .var i, x => match x with
    | .Name n _ => nameOk S i n && (rd || !O.contains i)
    | _ => false
  | .non, x => match x with
    | .Constant .none _ _ => true
    | _ => false
  | .bl b, x => match x with
    | .Constant (.bool c) _ _ => b == c
    | _ => false
  | .int i, x => match x with
    | .Constant (.int j) _ _ => i == j
    | _ => false
  | .str s, x => match x with
    | .Constant (.str y) _ _ => y.cps.toList == s
    | _ => false
  | .glb x d, e => match e with
    | .Name n _ => n.cps.toList == x && gl S n && S.glb.any (fun p => p.1 == n && eqD p.2 d) && ndb n
    | _ => false
  | .op o a b, x => match x with
    | .BinOp p op q _ => binOk o op && chkE S O true a p && chkE S O true b q
    | .Compare p [op] [q] _ => cmpOk o op && !behindInMarks op q && chkE S O true a p && chkE S O true b q
    | _ => false
  | .chn o1 o2 a b c, x => match x with
    | .Compare p [op, op'] [q, r] _ => cmpOk o1 op && cmpOk o2 op' && !lastMarks [op, op'] [q, r] && chkE S O true a p && chkE S O true b q && chkE S O true c r
    | _ => false
  | .neg a, x => match x with
    | .UnaryOp .USub p _ => chkE S O true a p
    | _ => false
  | .one a, x => match x with
    | .BoolOp _ [p] _ => chkE S O rd a p
    | _ => false
  | .and a b, x => match x with
    | .BoolOp .And (p :: q :: rest) pos => chkE S O rd a p && chkE S O rd b (.BoolOp .And (q :: rest) pos)
    | _ => false
  | .or a b, x => match x with
    | .BoolOp .Or (p :: q :: rest) pos => chkE S O rd a p && chkE S O rd b (.BoolOp .Or (q :: rest) pos)
    | _ => false
  | .not a, x => match x with
    | .UnaryOp .Not p _ => chkE S O true a p
    | _ => false
  | .ite c a b, x => match x with
    | .IfExp p q r _ => okT c && chkE S O true c p && chkE S O false a q && chkE S O false b r
    | _ => false
  | .is_ d neg a, x => match x with
    | .Compare p [op] [k] _ => isK d k && (match op with | .Is => !neg | .IsNot => neg | _ => false) && chkE S O true a p
    | _ => false
  | .isi a k, x => match x with
    | .Call (.Name f _) [p, .Name n _] [] _ => f == ("isinstance" : Str) && gl S f && isB k && n == kdN k && gl S n && noStar p && chkE S O true a p
    | _ => false
  | .isi2 a k k2, x => match x with
    | .Call (.Name f _) [p, .Tuple [.Name n _, .Name n2 _] _ _] [] _ => f == ("isinstance" : Str) && gl S f && isB k && isB k2 && n == kdN k && gl S n && n2 == kdN k2 && gl S n2 && noStar p && chkE S O true a p
    | _ => false
  | .call k nm as, x => match x with
    | .Call (.Name f _) es [] _ => f.cps.toList == nm && gl S f && S.fns.any (fun p => p.1 == k && p.2.1 == f && p.2.2 == es.length) && es.all noStar && chkL S O as es
    | _ => false
  | .bi f as, x => match x with
    | .Call (.Name n _) [p] [] _ => if f = .sset then (match p with
        | .Call (.Name m _) [q] [] _ => n == ("sorted" : Str) && m == ("set" : Str) && gl S n && gl S m && noStar q && S.calm && (match as with | .cons a .nil => chkE S O true a q | _ => false)
        | _ => false) else n == biN f && gl S n && noStar p && (b1s.contains f && (S.calm || f == .len || f == .int)) && (match as with | .cons a .nil => chkE S O true a p | _ => false)
    | .Call (.Name n _) [p, q] [] _ => n == biN f && gl S n && noStar p && noStar q && S.calm && (f == .min2 || f == .max2) && (match as with | .cons a (.cons b .nil) => chkE S O true a p && chkE S O true b q | _ => false)
    | _ => false
  | .mt m a as, x => match x with
    | .Call (.Attribute o n ap) [p] [] pos => n == mtN m && noStar p && noSup o && ap.endLine == pos.line && chkE S O true a o && (match as with | .cons b .nil => chkE S O true b p | _ => false)
    | _ => false
  | .idx a b, x => match x with
    | .Subscript p q _ => plainIx q && chkE S O true a p && chkE S O true b q
    | _ => false
  | .slc a lo hi, x => match x with
    | .Subscript p (.Slice l h none _) _ => chkE S O true a p && (match lo, l with
        | .nil, none => true
        | c, some e => chkE S O true c e
        | _, _ => false) && (match hi, h with
        | .nil, none => true
        | c, some e => chkE S O true c e
        | _, _ => false)
    | _ => false
  | .rev a, x => match x with
    | .Subscript p (.Slice none none (some (.UnaryOp .USub (.Constant (.int j) _ _) _)) _) _ => j == 1 && chkE S O true a p
    | _ => false
  | .tup as, x => match x with
    | .Tuple es _ _ => chkL S O as es
    | _ => false
  | .lst as, x => match x with
    | .List es _ => chkL S O as es
    | _ => false
  | .lc t one it cnd elt, x => match x with
    | .ListComp el [⟨tg, iter, ifs, z⟩] scope _ => z == 0 && S.calm && notSet iter && disj t O S.pr && blkC S.N S.sc scope (ownOf S t) && chkT (blkS S scope) t one tg &&
        (match it, iter with
          | .bi .rng1 (.cons a .nil), .Call (.Name n _) [p] [] _ => n == ("range" : Str) && gl S n && noStar p && chkE S O true a p
          | .bi .rng2 (.cons a (.cons b .nil)), .Call (.Name n _) [p, q] [] _ => n == ("range" : Str) && gl S n && noStar p && noStar q && chkE S O true a p && chkE S O true b q
          | .bi .enum (.cons a .nil), .Call (.Name n _) [p] [] _ => n == ("enumerate" : Str) && gl S n && noStar p && (match tg with | .Tuple _ _ _ => true | _ => false) && chkE S O false a p
          | c, y => chkE S O false c y) &&
        (match ifs with
          | [] => (match cnd with | .bl true => true | _ => false)
          | [c] => okT cnd && chkE (blkS S scope) O true cnd c
          | _ => false) && chkE (blkS S scope) O false elt el
    | _ => false
  | .fld c j a, x => match x with
    | .Attribute p n _ => S.ics.contains c && (match S.fl[c]? with | some fs => decide (fs[j]? = some n) | none => false) && noSup p && chkE S O true a p
    | _ => false
  | .efld i c j, x => match x with
    | .Attribute (.Name n _) f _ => (match S.ex with | some (i', nm) => i' == i && n == nm | none => false) && nameOk S i n && (match S.fl[c]? with | some fs => decide (fs[j]? = some f) | none => false)
    | _ => false
  | .eisi i k, x => match x with
    | .Call (.Name f _) [.Name n _, .Name cn _] [] _ => f == ("isinstance" : Str) && gl S f && (match S.ex with | some (i', nm) => i' == i && n == nm | none => false) && nameOk S i n && gl S cn && S.cn.any (fun q => q.1 == cn && q.2 == k)
    | _ => false
  | .mth _ _ _ _ _, _ => false
  | .nil, _ => false
  | .cons _ _, _ => false
def chkL (S : Scp) (O : List Nat) : C → List Expr → Bool
  | .nil, es => match es with | [] => true | _ => false
  | .cons a r, es => match es with
    | e :: es => noStar e && chkE S O false a e && chkL S O r es
    | _ => false
  | _, _ => false
end
end E

set_option autoImplicit false
set_option linter.all false
set_option Elab.async false
set_option maxRecDepth 100000
/-! E17: soundness of the check of expressions. -/
namespace E
open PySem PySem.Spec PyProof.Rows L2

mutual
theorem eqD_eq : ∀ (a b : D), eqD a b = true → a = b
  | .non, b, h => by cases b <;> first | rfl | cases h
  | .bl x, b, h => by cases b <;> first | cases h | skip; simp [eqD] at h; rw [h]
  | .int x, b, h => by cases b <;> first | cases h | skip; simp [eqD] at h; rw [h]
  | .str x, b, h => by cases b <;> first | cases h | skip; simp [eqD] at h; rw [h]
  | .tup x, b, h => by cases b <;> first | cases h | skip; rw [eqDL_eq x _ (by simpa [eqD] using h)]
  | .lst x, b, h => by cases b <;> first | cases h | skip; rw [eqDL_eq x _ (by simpa [eqD] using h)]
  | .dic _ _, b, h => by cases b <;> cases h
  | .set _, b, h => by cases b <;> cases h
  | .ins _ _, b, h => by cases b <;> cases h
  | .exc _ _, b, h => by cases b <;> cases h
  | .scr _, b, h => by cases b <;> cases h
theorem eqDL_eq : ∀ (a b : List D), eqDL a b = true → a = b
  | [], [], _ => rfl
  | [], _ :: _, h => by cases h
  | _ :: _, [], h => by cases h
  | x :: xs, y :: ys, h => by
    simp only [eqDL, Bool.and_eq_true] at h
    rw [eqD_eq x y h.1, eqDL_eq xs ys h.2]
end
theorem chk_mono {S : Scp} {O : List Nat} : ∀ (c : C) (x : Expr), chkE S O false c x = true → chkE S O true c x = true
  | .var i, x, h => by
    cases x <;> first | (cases h; done) | skip
    simp only [chkE, Bool.and_eq_true, Bool.false_or, Bool.true_or, Bool.and_true] at h ⊢
    exact h.1
  | .one a, x, h => by
    unfold chkE at h ⊢
    split at h
    · exact chk_mono a _ h
    · cases h
  | .non, x, h => h
  | .bl _, x, h => h
  | .int _, x, h => h
  | .str _, x, h => h
  | .glb _ _, x, h => h
  | .op _ _ _, x, h => h
  | .chn _ _ _ _ _, x, h => h
  | .neg _, x, h => h
  | .and a b, x, h => by
    unfold chkE at h ⊢
    split at h
    · simp only [Bool.and_eq_true] at h ⊢
      exact ⟨chk_mono a _ h.1, chk_mono b _ h.2⟩
    · cases h
  | .or a b, x, h => by
    unfold chkE at h ⊢
    split at h
    · simp only [Bool.and_eq_true] at h ⊢
      exact ⟨chk_mono a _ h.1, chk_mono b _ h.2⟩
    · cases h
  | .not _, x, h => h
  | .ite _ _ _, x, h => h
  | .is_ _ _ _, x, h => h
  | .isi _ _, x, h => h
  | .isi2 _ _ _, x, h => h
  | .call _ _ _, x, h => h
  | .bi _ _, x, h => by unfold chkE at h ⊢; exact h
  | .mt _ _ _, x, h => by unfold chkE at h ⊢; exact h
  | .idx _ _, x, h => h
  | .slc _ _ _, x, h => by unfold chkE at h ⊢; exact h
  | .rev _, x, h => h
  | .tup _, x, h => h
  | .lst _, x, h => h
  | .lc _ _ _ _ _, x, h => by unfold chkE at h ⊢; exact h
  | .fld _ _ _, x, h => h
  | .efld _ _ _, x, h => h
  | .eisi _ _, x, h => h
  | .mth _ _ _ _ _, x, h => h
  | .nil, x, h => h
  | .cons _ _, x, h => h
section
variable (Φ : Nat → List D → Res D) (sub : Nat → Nat → Option Bool)
theorem evL_len : ∀ (c : C) (e : Env) (xs : List D) (S : Scp) (O : List Nat) (es : List Expr), chkL S O c es = true → evL Φ sub c e = .ok xs → xs.length = es.length := by
  intro c
  induction c with
  | nil =>
    intro e xs S O es h h2
    cases es with
    | nil => simp only [evL] at h2; cases h2; rfl
    | cons _ _ => simp [chkL] at h
  | cons a r _ ih =>
    intro e xs S O es h h2
    cases es with
    | nil => simp [chkL] at h
    | cons y ys =>
      simp only [chkL, Bool.and_eq_true] at h
      simp only [evL] at h2
      cases q : ev Φ sub a e with
      | ok d =>
        rw [q] at h2
        simp only [bd_ok] at h2
        cases q2 : evL Φ sub r e with
        | ok ds =>
          rw [q2] at h2
          simp only [bd_ok] at h2
          cases h2
          simp [ih e ds S O ys h.2 q2]
        | err c l => rw [q2] at h2; cases h2
        | bad => rw [q2] at h2; cases h2
      | err c l => rw [q] at h2; cases h2
      | bad => rw [q] at h2; cases h2
  | _ => intro e xs S O es h; simp [chkL] at h
theorem noStar_all {S : Scp} {O : List Nat} : ∀ (c : C) (es : List Expr), chkL S O c es = true → es.all noStar = true := by
  intro c
  induction c with
  | nil =>
    intro es h
    cases es with
    | nil => rfl
    | cons _ _ => simp [chkL] at h
  | cons a r _ ih =>
    intro es h
    cases es with
    | nil => rfl
    | cons y ys =>
      simp only [chkL, Bool.and_eq_true] at h
      simp [h.1.1, ih ys h.2]
  | _ => intro es h; simp [chkL] at h
/-- what is shown of each -/
structure Pe (c : C) : Prop where
  e : ∀ (S : Scp) (X : Cx) (T : Tb) (W : WX) (O : List Nat), Fx X T W Φ sub S → ∀ (x : Expr) (rd : Bool), chkE S O rd c x = true → SR X T W O x (ev Φ sub c) ∧ (rd = false → SE X T W O x (ev Φ sub c))
  w : ∀ (S : Scp) (X : Cx) (T : Tb) (W : WX) (O : List Nat), Fx X T W Φ sub S → ∀ (op : BoolOp) (ys : List Expr) (pos : Pos), okT c = true → chkE S O true c (.BoolOp op ys pos) = true → SW X T W O (.BoolOp op ys pos) (fun e => (ev Φ sub c e).bd truth)
  b : ∀ (S : Scp) (X : Cx) (T : Tb) (W : WX) (O : List Nat), Fx X T W Φ sub S → ∀ (x : Expr), okT c = true → chkE S O true c x = true → SB X T W O x (fun e => (ev Φ sub c e).bd truth)
end
section
variable {Φ : Nat → List D → Res D} {sub : Nat → Nat → Option Bool}
theorem Pe.of {c : C} (e : ∀ (S : Scp) (X : Cx) (T : Tb) (W : WX) (O : List Nat), Fx X T W Φ sub S → ∀ (x : Expr) (rd : Bool), chkE S O rd c x = true → SE X T W O x (ev Φ sub c) ∧ truE x = true) : Pe Φ sub c where
  e := fun S X T W O F x rd h => ⟨(e S X T W O F x rd h).1.sr, fun _ => (e S X T W O F x rd h).1⟩
  w := fun S X T W O F op ys pos _ h => by have := (e S X T W O F _ true h).2; cases this
  b := fun S X T W O F x _ h => sb_truth (e S X T W O F x true h).1.sr (e S X T W O F x true h).2
theorem Pe.sr {c : C} (P : Pe Φ sub c) {S : Scp} {X : Cx} {T : Tb} {W : WX} {O : List Nat} (F : Fx X T W Φ sub S) {x : Expr} {rd : Bool} (h : chkE S O rd c x = true) : SR X T W O x (ev Φ sub c) := (P.e S X T W O F x rd h).1
theorem Pe.se {c : C} (P : Pe Φ sub c) {S : Scp} {X : Cx} {T : Tb} {W : WX} {O : List Nat} (F : Fx X T W Φ sub S) {x : Expr} (h : chkE S O false c x = true) : SE X T W O x (ev Φ sub c) := (P.e S X T W O F x false h).2 rfl
theorem pe_cvar (i : Nat) : Pe Φ sub (.var i) where
  e := fun S X T W O F x rd h => by
    cases x <;> first | (cases h; done) | skip
    simp only [chkE, Bool.and_eq_true] at h
    obtain ⟨h1, h2, h3, h4⟩ := F.nm h.1
    have e1 : ev Φ sub (.var i) = look i := by funext e; rw [ev]
    rw [e1]
    refine ⟨sr_own h1 h2 h3 h4, fun hr => se_var h1 h2 h3 h4 ?_⟩
    subst hr
    simpa using h.2
  w := fun S X T W O F op ys pos _ h => by cases h
  b := fun S X T W O F x _ h => by
    cases x <;> first | (cases h; done) | skip
    simp only [chkE, Bool.and_eq_true] at h
    obtain ⟨h1, h2, h3, h4⟩ := F.nm h.1
    have e1 : ev Φ sub (.var i) = look i := by funext e; rw [ev]
    rw [e1]
    exact sb_truth (sr_own h1 h2 h3 h4) rfl
theorem pe_cnon : Pe Φ sub .non := .of fun S X T W O F x rd h => by
  unfold chkE at h
  split at h
  · exact ⟨by rw [show ev Φ sub .non = fun _ => .ok .non by funext e; rw [ev]]; exact se_non, rfl⟩
  · cases h
theorem pe_cbl (b : Bool) : Pe Φ sub (.bl b) := .of fun S X T W O F x rd h => by
  unfold chkE at h
  split at h
  · rename_i c _ _
    have e : b = c := by simpa using h
    subst e
    exact ⟨by rw [show ev Φ sub (.bl b) = fun _ => .ok (.bl b) by funext e; rw [ev]]; exact se_bl, rfl⟩
  · cases h
theorem pe_cint (i : Int) : Pe Φ sub (.int i) := .of fun S X T W O F x rd h => by
  unfold chkE at h
  split at h
  · rename_i c _ _
    have e : i = c := by simpa using h
    subst e
    exact ⟨by rw [show ev Φ sub (.int i) = fun _ => .ok (.int i) by funext e; rw [ev]]; exact se_int, rfl⟩
  · cases h
theorem pe_cstr (s : List Nat) : Pe Φ sub (.str s) := .of fun S X T W O F x rd h => by
  unfold chkE at h
  split at h
  · exact ⟨by rw [show ev Φ sub (.str s) = fun _ => .ok (.str s) by funext e; rw [ev]]; exact se_str (by simpa using h), rfl⟩
  · cases h
theorem pe_cglb (n : List Nat) (d : D) : Pe Φ sub (.glb n d) := .of fun S X T W O F x rd h => by
  unfold chkE at h
  split at h
  · rename_i y pos
    simp only [Bool.and_eq_true, List.any_eq_true, beq_iff_eq] at h
    obtain ⟨⟨⟨h1, h2⟩, ⟨p, hp, e1, e2⟩⟩, h4⟩ := h
    obtain ⟨v, u, q1, q2, q3⟩ := F.glb p hp
    rw [e1] at q1
    rw [eqD_eq _ _ e2] at q3
    have h5 : (y == ("__debug__" : Str)) = false := by
      unfold ndb at h4
      simp only [Bool.and_eq_true, Bool.not_eq_true'] at h4
      exact h4.1
    refine ⟨by rw [show ev Φ sub (.glb n d) = fun _ => .ok d by funext e; rw [ev]]; exact se_glb (F.gl h2) q1 q2 q3 h5, rfl⟩
  · cases h
theorem pe_cop {o : Op2} {a b : C} (ha : Pe Φ sub a) (hb : Pe Φ sub b) : Pe Φ sub (.op o a b) := by
  have e1 : ev Φ sub (.op o a b) = fun e => (ev Φ sub a e).bd fun x => (ev Φ sub b e).bd fun y => op2 o x y := by funext e; rw [ev]
  refine ⟨fun S X T W O F x rd h => ?_, fun S X T W O F op ys pos _ h => (by cases h), fun S X T W O F x _ h => ?_⟩
  · unfold chkE at h
    rw [e1]
    split at h
    · simp only [Bool.and_eq_true] at h
      have := se_op (pos := ‹_›) (binOk_eq h.1.1) (ha.sr F h.1.2) (hb.sr F h.2)
      exact ⟨this.sr, fun _ => this⟩
    · simp only [Bool.and_eq_true, Bool.not_eq_true'] at h
      have := se_cmp (pos := ‹_›) F.hu (cmpOk_eq h.1.1.1) h.1.1.2 (ha.sr F h.1.2) (hb.sr F h.2)
      exact ⟨this.sr, fun _ => this⟩
    · cases h
  · unfold chkE at h
    rw [e1]
    split at h
    · simp only [Bool.and_eq_true] at h
      exact sb_truth (se_op (binOk_eq h.1.1) (ha.sr F h.1.2) (hb.sr F h.2)).sr rfl
    · simp only [Bool.and_eq_true, Bool.not_eq_true'] at h
      exact sb_cmp F.hu (cmpOk_eq h.1.1.1) h.1.1.2 (ha.sr F h.1.2) (hb.sr F h.2)
    · cases h
theorem pe_cchn {o1 o2 : Op2} {a b c : C} (ha : Pe Φ sub a) (hb : Pe Φ sub b) (hc : Pe Φ sub c) : Pe Φ sub (.chn o1 o2 a b c) := by
  have e1 : ev Φ sub (.chn o1 o2 a b c) = chnF o1 o2 (ev Φ sub a) (ev Φ sub b) (ev Φ sub c) := by funext e; rw [ev]; rfl
  refine ⟨fun S X T W O F x rd h => ?_, fun S X T W O F op ys pos _ h => (by cases h), fun S X T W O F x _ h => ?_⟩
  · unfold chkE at h
    rw [e1]
    split at h
    · simp only [Bool.and_eq_true, Bool.not_eq_true'] at h
      have := se_chn (pos := ‹_›) F.hu (cmpOk_eq h.1.1.1.1.1) (cmpOk_eq h.1.1.1.1.2) h.1.1.1.2 (ha.sr F h.1.1.2) (hb.sr F h.1.2) (hc.sr F h.2)
      exact ⟨this.sr, fun _ => this⟩
    · cases h
  · unfold chkE at h
    rw [e1]
    split at h
    · simp only [Bool.and_eq_true, Bool.not_eq_true'] at h
      exact sb_chn F.hu (cmpOk_eq h.1.1.1.1.1) (cmpOk_eq h.1.1.1.1.2) h.1.1.1.2 (ha.sr F h.1.1.2) (hb.sr F h.1.2) (hc.sr F h.2)
    · cases h
theorem Pe.ofR {c : C} (e : ∀ (S : Scp) (X : Cx) (T : Tb) (W : WX) (O : List Nat), Fx X T W Φ sub S → ∀ (x : Expr) (rd : Bool), chkE S O rd c x = true → SE X T W O x (ev Φ sub c) ∧ truE x = true) : Pe Φ sub c := .of e
theorem pe_cneg {a : C} (ha : Pe Φ sub a) : Pe Φ sub (.neg a) := .of fun S X T W O F x rd h => by
  unfold chkE at h
  split at h
  · exact ⟨by rw [show ev Φ sub (.neg a) = _ by funext e; rw [ev]]; exact se_neg (ha.sr F h), rfl⟩
  · cases h
theorem eval_b1 {op : BoolOp} {a : Expr} {pos : Pos} {env : PySem.Env} : eval (.BoolOp op [a] pos) env = eval a env := by rw [eval]; rfl
theorem pe_b1 {X : Cx} {op : BoolOp} {a : Expr} {pos : Pos} {t : TE} (h : PE X a t) : PE X (.BoolOp op [a] pos) t := ⟨fun pins s σ H Q I q => by
  rw [eval_b1]
  exact h.run pins s σ H Q I q⟩
theorem pe_cone {a : C} (ha : Pe Φ sub a) : Pe Φ sub (.one a) := by
  have e1 : ev Φ sub (.one a) = ev Φ sub a := by funext e; rw [ev]
  have key : ∀ (S : Scp) (X : Cx) (T : Tb) (W : WX) (O : List Nat), Fx X T W Φ sub S → ∀ (op : BoolOp) (ys : List Expr) (pos : Pos), okT (.one a) = true → chkE S O true (.one a) (.BoolOp op ys pos) = true → SW X T W O (.BoolOp op ys pos) (fun e => (ev Φ sub (.one a) e).bd truth) := fun S X T W O F op ys pos ht h => by
    rw [e1]
    unfold chkE at h
    split at h
    · rename_i op' p pos' heq
      cases heq
      have := ha.b S X T W O F p (by simpa [okT] using ht) h
      cases op
      · exact sw_and1 this
      · exact sw_or1 this
    · cases h
  refine ⟨fun S X T W O F x rd h => ?_, key, fun S X T W O F x ht h => ?_⟩
  · rw [e1]
    unfold chkE at h
    split at h
    · have := ha.e S X T W O F _ rd h
      exact ⟨pe_b1 this.1, fun hr => se_bool1 (this.2 hr)⟩
    · cases h
  · cases x <;> first | (exact (key S X T W O F _ _ _ ht h).sb) | (unfold chkE at h; cases h)
theorem pe_cand {a b : C} (ha : Pe Φ sub a) (hb : Pe Φ sub b) : Pe Φ sub (.and a b) := by
  have e1 : ev Φ sub (.and a b) = fun e => (ev Φ sub a e).bd fun x => (truth x).bd fun k => if k = true then ev Φ sub b e else .ok x := by funext e; rw [ev]
  have key : ∀ (S : Scp) (X : Cx) (T : Tb) (W : WX) (O : List Nat), Fx X T W Φ sub S → ∀ (op : BoolOp) (ys : List Expr) (pos : Pos), okT (.and a b) = true → chkE S O true (.and a b) (.BoolOp op ys pos) = true → SW X T W O (.BoolOp op ys pos) (fun e => (ev Φ sub (.and a b) e).bd truth) := fun S X T W O F op ys pos ht h => by
    rw [e1]
    simp only [okT, Bool.and_eq_true] at ht
    unfold chkE at h
    split at h
    · rename_i heq
      cases heq
      simp only [Bool.and_eq_true] at h
      simp only [bd_and]
      exact sw_and (ha.b S X T W O F _ ht.1 h.1) (hb.w S X T W O F _ _ _ ht.2 h.2)
    · cases h
  refine ⟨fun S X T W O F x rd h => ?_, key, fun S X T W O F x ht h => ?_⟩
  · rw [e1]
    unfold chkE at h
    split at h
    · simp only [Bool.and_eq_true] at h
      exact ⟨sr_and (ha.e S X T W O F _ rd h.1).1 (hb.e S X T W O F _ rd h.2).1, fun hr => se_and ((ha.e S X T W O F _ rd h.1).2 hr) ((hb.e S X T W O F _ rd h.2).2 hr)⟩
    · cases h
  · cases x <;> first | (exact (key S X T W O F _ _ _ ht h).sb) | (unfold chkE at h; cases h)
theorem pe_cor {a b : C} (ha : Pe Φ sub a) (hb : Pe Φ sub b) : Pe Φ sub (.or a b) := by
  have e1 : ev Φ sub (.or a b) = fun e => (ev Φ sub a e).bd fun x => (truth x).bd fun k => if k = true then .ok x else ev Φ sub b e := by funext e; rw [ev]
  have key : ∀ (S : Scp) (X : Cx) (T : Tb) (W : WX) (O : List Nat), Fx X T W Φ sub S → ∀ (op : BoolOp) (ys : List Expr) (pos : Pos), okT (.or a b) = true → chkE S O true (.or a b) (.BoolOp op ys pos) = true → SW X T W O (.BoolOp op ys pos) (fun e => (ev Φ sub (.or a b) e).bd truth) := fun S X T W O F op ys pos ht h => by
    rw [e1]
    simp only [okT, Bool.and_eq_true] at ht
    unfold chkE at h
    split at h
    · rename_i heq
      cases heq
      simp only [Bool.and_eq_true] at h
      simp only [bd_or]
      exact sw_or (ha.b S X T W O F _ ht.1 h.1) (hb.w S X T W O F _ _ _ ht.2 h.2)
    · cases h
  refine ⟨fun S X T W O F x rd h => ?_, key, fun S X T W O F x ht h => ?_⟩
  · rw [e1]
    unfold chkE at h
    split at h
    · simp only [Bool.and_eq_true] at h
      exact ⟨sr_or (ha.e S X T W O F _ rd h.1).1 (hb.e S X T W O F _ rd h.2).1, fun hr => se_or ((ha.e S X T W O F _ rd h.1).2 hr) ((hb.e S X T W O F _ rd h.2).2 hr)⟩
    · cases h
  · cases x <;> first | (exact (key S X T W O F _ _ _ ht h).sb) | (unfold chkE at h; cases h)
theorem pe_cnot {a : C} (ha : Pe Φ sub a) : Pe Φ sub (.not a) := by
  have e1 : ev Φ sub (.not a) = fun e => (ev Φ sub a e).bd fun x => (truth x).bd fun k => .ok (.bl (!k)) := by funext e; rw [ev]
  refine ⟨fun S X T W O F x rd h => ?_, fun S X T W O F op ys pos _ h => (by cases h), fun S X T W O F x ht h => ?_⟩
  · rw [e1]
    unfold chkE at h
    split at h
    · have := se_not (pos := ‹_›) (ha.sr F h)
      exact ⟨this.sr, fun _ => this⟩
    · cases h
  · rw [e1]
    unfold chkE at h
    split at h
    · simp only [bd_not]
      exact sb_not (ha.b S X T W O F _ (by simpa [okT] using ht) h)
    · cases h
theorem pe_cite {c a b : C} (hc : Pe Φ sub c) (ha : Pe Φ sub a) (hb : Pe Φ sub b) : Pe Φ sub (.ite c a b) := by
  have e1 : ev Φ sub (.ite c a b) = fun e => ((ev Φ sub c e).bd truth).bd fun k => if k = true then ev Φ sub a e else ev Φ sub b e := by funext e; rw [ev, bd_bd]
  refine ⟨fun S X T W O F x rd h => ?_, fun S X T W O F op ys pos _ h => (by cases h), fun S X T W O F x ht h => (by simp [okT] at ht)⟩
  rw [e1]
  unfold chkE at h
  split at h
  · simp only [Bool.and_eq_true] at h
    have := se_ite (pos := ‹_›) (hc.b S X T W O F _ h.1.1.1 h.1.1.2) (ha.se F h.1.2) (hb.se F h.2)
    exact ⟨this.sr, fun _ => this⟩
  · cases h
theorem pe_cis {d : D} {neg : Bool} {a : C} (ha : Pe Φ sub a) : Pe Φ sub (.is_ d neg a) := by
  have e1 : ev Φ sub (.is_ d neg a) = fun e => (ev Φ sub a e).bd fun x => dIs d neg x := by funext e; rw [ev]
  have key : ∀ (S : Scp) (X : Cx) (T : Tb) (W : WX) (O : List Nat), Fx X T W Φ sub S → ∀ (x : Expr) (rd : Bool), chkE S O rd (.is_ d neg a) x = true → SE X T W O x (ev Φ sub (.is_ d neg a)) ∧ SB X T W O x (fun e => (ev Φ sub (.is_ d neg a) e).bd truth) := fun S X T W O F x rd h => by
    rw [e1]
    unfold chkE at h
    split at h
    · rename_i p op k pos
      simp only [Bool.and_eq_true] at h
      obtain ⟨⟨h1, h2⟩, h3⟩ := h
      have ho : op = isO neg := by
        cases op <;> first | (exact Bool.noConfusion (show false = true from h2)) | skip
        · have : neg = false := by simpa using h2
          subst this; rfl
        · have : neg = true := by simpa using h2
          subst this; rfl
      subst ho
      exact se_is h1 (ha.sr F h3)
    · cases h
  exact ⟨fun S X T W O F x rd h => ⟨(key S X T W O F x rd h).1.sr, fun _ => (key S X T W O F x rd h).1⟩, fun S X T W O F op ys pos _ h => (by cases h), fun S X T W O F x _ h => (key S X T W O F x true h).2⟩
theorem pe_cisi {a : C} {k : Kd} (ha : Pe Φ sub a) : Pe Φ sub (.isi a k) := .of fun S X T W O F x rd h => by
  unfold chkE at h
  split at h
  · simp only [Bool.and_eq_true, beq_iff_eq] at h
    obtain ⟨⟨⟨⟨⟨⟨h1, h2⟩, h3⟩, h4⟩, h5⟩, h6⟩, h7⟩ := h
    subst h1 h4
    exact ⟨by rw [show ev Φ sub (.isi a k) = _ by funext e; rw [ev]]; exact se_isi h3 (F.gl h2) (F.bi _ (by decide)) (F.gl h5) (F.bi _ (by cases k <;> first | decide | cases h3)) h6 (ha.sr F h7), rfl⟩
  · cases h
theorem pe_cisi2 {a : C} {k k2 : Kd} (ha : Pe Φ sub a) : Pe Φ sub (.isi2 a k k2) := .of fun S X T W O F x rd h => by
  unfold chkE at h
  split at h
  · simp only [Bool.and_eq_true, beq_iff_eq] at h
    obtain ⟨⟨⟨⟨⟨⟨⟨⟨⟨h1, h2⟩, h3⟩, h4⟩, h5⟩, h6⟩, h7⟩, h8⟩, h9⟩, h10⟩ := h
    subst h1 h5 h7
    exact ⟨by rw [show ev Φ sub (.isi2 a k k2) = _ by funext e; rw [ev]]; exact se_isi2 h3 h4 (F.gl h2) (F.bi _ (by decide)) (F.gl h6) (F.bi _ (by cases k <;> first | decide | cases h3)) (F.gl h8) (F.bi _ (by cases k2 <;> first | decide | cases h4)) h9 (ha.sr F h10), rfl⟩
  · cases h
end
end E

set_option autoImplicit false
set_option linter.all false
set_option Elab.async false
set_option maxRecDepth 100000
/-! E18: soundness of the check of expressions, the rest. -/
namespace E
open PySem PySem.Spec PyProof.Rows L2
section
variable (Φ : Nat → List D → Res D) (sub : Nat → Nat → Option Bool)
def Pl (c : C) : Prop := ∀ (S : Scp) (X : Cx) (T : Tb) (W : WX) (O : List Nat), Fx X T W Φ sub S → ∀ (es : List Expr), chkL S O c es = true → SA X T W O es (evL Φ sub c)
end
section
variable {Φ : Nat → List D → Res D} {sub : Nat → Nat → Option Bool}
theorem pl_nil : Pl Φ sub .nil := fun S X T W O F es h => by
  unfold chkL at h
  split at h
  · rw [show evL Φ sub .nil = fun _ => .ok [] by funext e; rw [evL]]; exact sa_nil
  · cases h
theorem pl_cons {a r : C} (ha : Pe Φ sub a) (hr : Pl Φ sub r) : Pl Φ sub (.cons a r) := fun S X T W O F es h => by
  unfold chkL at h
  split at h
  · simp only [Bool.and_eq_true] at h
    rw [show evL Φ sub (.cons a r) = _ by funext e; rw [evL]]
    exact sa_cons h.1.1 (ha.se F h.1.2) (hr S X T W O F _ h.2)
  · cases h
theorem pe_ccall {k : Nat} {n : List Nat} {as : C} (ha : Pl Φ sub as) : Pe Φ sub (.call k n as) := .of fun S X T W O F x rd h => by
  have e1 : ev Φ sub (.call k n as) = fun e => (evL Φ sub as e).bd (Φ k) := by funext e; rw [ev]
  unfold chkE at h
  split at h
  · rename_i f fp es pos
    simp only [Bool.and_eq_true, List.any_eq_true, beq_iff_eq] at h
    obtain ⟨⟨⟨⟨h1, h2⟩, ⟨p, hp, ⟨e2, e3⟩, e4⟩⟩, h4⟩, h5⟩ := h
    have c := F.fn p hp X W (Core.refl X) F.tk
    rw [e2, e3, e4] at c
    rw [e1]
    refine ⟨?_, rfl⟩
    cases es with
    | nil =>
      have e5 : ∀ e, evL Φ sub as e = .ok [] := fun e => by
        cases as <;> first | (simp [chkL] at h5; done) | (rw [evL])
      simp only [e5, bd_ok]
      exact c.c0 rfl (F.gl h2) O _ _
    | cons y ys =>
      have h4' := h4
      rw [List.all_cons, Bool.and_eq_true] at h4'
      exact c.c1 (F.gl h2) O y ys _ _ _ (fun e' xs q => evL_len Φ sub as e' xs S O _ h5 q) h4'.1 h4'.2 (ha S X T W O F _ h5)
  · cases h
theorem pe_cbi {f : BI} {as : C} (hx : ∀ a r, as = .cons a r → Pe Φ sub a ∧ ∀ b r', r = .cons b r' → Pe Φ sub b) : Pe Φ sub (.bi f as) := .of fun S X T W O F x rd h => by
  have e1 : ev Φ sub (.bi f as) = fun e => (evL Φ sub as e).bd fun xs => biF f xs := by funext e; rw [ev]
  rw [e1]
  unfold chkE at h
  split at h
  · rename_i n np p pos
    by_cases hs : f = .sset
    · rw [if_pos hs] at h
      subst hs
      split at h
      · rename_i m mp q pos2
        simp only [Bool.and_eq_true, beq_iff_eq] at h
        obtain ⟨⟨⟨⟨⟨⟨h1, h2⟩, h3⟩, h4⟩, h5⟩, h6⟩, h7⟩ := h
        subst h1 h2
        cases as with
        | cons a r =>
          cases r with
          | nil =>
            have pa := (hx a .nil rfl).1
            have e2 : (fun e => (evL Φ sub (.cons a .nil) e).bd fun xs => biF .sset xs) = fun e => (ev Φ sub a e).bd fun x => biF .sset [x] := by
              funext e
              rw [evL, evL]
              cases ev Φ sub a e <;> rfl
            rw [e2]
            exact ⟨se_sset (F.calm h6) (F.gl h3) (F.bi _ (by decide)) (F.gl h4) (F.bi _ (by decide)) h5 (pa.sr F h7), rfl⟩
          | _ => cases h7
        | _ => cases h7
      · cases h
    rw [if_neg hs] at h
    simp only [Bool.and_eq_true, beq_iff_eq, Bool.or_eq_true, List.contains_eq_mem, decide_eq_true_eq] at h
    obtain ⟨⟨⟨⟨h1, h2⟩, h3⟩, h4, h5⟩, h6⟩ := h
    subst h1
    cases as with
    | cons a r =>
      cases r with
      | nil =>
        have pa := (hx a .nil rfl).1
        have e2 : (fun e => (evL Φ sub (.cons a .nil) e).bd fun xs => biF f xs) = fun e => (ev Φ sub a e).bd fun x => biF f [x] := by
          funext e
          rw [evL, evL]
          cases ev Φ sub a e <;> rfl
        rw [e2]
        refine ⟨?_, rfl⟩
        have hm : biN f ∈ bnames := by cases f <;> decide
        rcases h5 with (h5 | h5) | h5
        · exact se_b1 h4 (F.calm h5) (F.gl h2) (F.bi _ hm) h3 (pa.sr F h6)
        · exact se_b1h (.inl h5) (F.gl h2) (F.bi _ hm) h3 (pa.sr F h6)
        · exact se_b1h (.inr h5) (F.gl h2) (F.bi _ hm) h3 (pa.sr F h6)
      | _ => cases h6
    | _ => cases h6
  · rename_i n np p q pos
    simp only [Bool.and_eq_true, beq_iff_eq, Bool.or_eq_true] at h
    obtain ⟨⟨⟨⟨⟨⟨h1, h2⟩, h3⟩, h4⟩, h5⟩, h7⟩, h6⟩ := h
    subst h1
    cases as with
    | cons a r =>
      cases r with
      | cons b r' =>
        cases r' with
        | nil =>
          obtain ⟨pa, pb⟩ := hx a _ rfl
          have pb := pb b _ rfl
          have e2 : (fun e => (evL Φ sub (.cons a (.cons b .nil)) e).bd fun xs => biF f xs) = fun e => (ev Φ sub a e).bd fun x => (ev Φ sub b e).bd fun y => biF f [x, y] := by
            funext e
            rw [evL, evL, evL]
            cases ev Φ sub a e with
            | ok x => cases ev Φ sub b e <;> rfl
            | _ => rfl
          rw [e2]
          have hm : biN f ∈ bnames := by cases f <;> decide
          simp only [Bool.and_eq_true] at h6
          exact ⟨se_mm h7 (F.calm h5) (F.gl h2) (F.bi _ hm) h3 h4 (pa.sr F h6.1) (pb.sr F h6.2), rfl⟩
        | _ => cases h6
      | _ => cases h6
    | _ => cases h6
  · cases h
theorem pe_cmt {m : MT} {a as : C} (ha : Pe Φ sub a) (hx : ∀ b r, as = .cons b r → Pe Φ sub b) : Pe Φ sub (.mt m a as) := .of fun S X T W O F x rd h => by
  have e1 : ev Φ sub (.mt m a as) = fun e => (ev Φ sub a e).bd fun x => if isStr x = true then ((evL Φ sub as e).bd fun xs => meth m x xs) else .bad := by funext e; rw [ev]
  rw [e1]
  unfold chkE at h
  split at h
  · rename_i o n ap p pos
    simp only [Bool.and_eq_true, beq_iff_eq] at h
    obtain ⟨⟨⟨⟨⟨h1, h2⟩, h3⟩, h4⟩, h5⟩, h6⟩ := h
    subst h1
    cases as with
    | cons b r =>
      cases r with
      | nil =>
        have pb := hx b _ rfl
        have e2 : (fun e => (ev Φ sub a e).bd fun x => if isStr x = true then ((evL Φ sub (.cons b .nil) e).bd fun xs => meth m x xs) else .bad) = fun e => (ev Φ sub a e).bd fun x => if isStr x = true then ((ev Φ sub b e).bd fun y => meth m x [y]) else .bad := by
          funext e
          rw [evL, evL]
          cases ev Φ sub b e <;> rfl
        rw [e2]
        exact ⟨se_mt h2 h3 (by rw [h4]; simp) (ha.sr F h5) (pb.sr F h6), rfl⟩
      | _ => cases h6
    | _ => cases h6
  · cases h
theorem pe_cidx {a b : C} (ha : Pe Φ sub a) (hb : Pe Φ sub b) : Pe Φ sub (.idx a b) := .of fun S X T W O F x rd h => by
  unfold chkE at h
  split at h
  · simp only [Bool.and_eq_true] at h
    exact ⟨by rw [show ev Φ sub (.idx a b) = _ by funext e; rw [ev]]; exact se_ix h.1.1 (ha.sr F h.1.2) (hb.sr F h.2), rfl⟩
  · cases h
theorem pe_cslc {a lo hi : C} (ha : Pe Φ sub a) (hl : Pe Φ sub lo) (hh : Pe Φ sub hi) : Pe Φ sub (.slc a lo hi) := .of fun S X T W O F x rd h => by
  unfold chkE at h
  split at h
  · rename_i p l u p2 pos
    simp only [Bool.and_eq_true] at h
    have part : ∀ (c : C), Pe Φ sub c → ∀ (o : Option Expr), (match c, o with
        | .nil, none => true
        | c, some e => chkE S O true c e
        | _, _ => false) = true → SP X T W O o (fun e => (ev Φ sub c e).bd prt) := fun c pc o ho => by
      split at ho
      · rw [show (fun e => (ev Φ sub .nil e).bd prt) = fun _ => (Res.ok D.non).bd prt by funext e; rw [ev]]
        exact sp_none
      · exact sp_some (pc.sr F ho)
      · cases ho
    exact ⟨by rw [show ev Φ sub (.slc a lo hi) = _ by funext e; rw [ev]]; exact se_slc (ha.sr F h.1.1) (part lo hl l h.1.2) (part hi hh u h.2), rfl⟩
  · cases h
theorem pe_crev {a : C} (ha : Pe Φ sub a) : Pe Φ sub (.rev a) := .of fun S X T W O F x rd h => by
  unfold chkE at h
  split at h
  · simp only [Bool.and_eq_true, beq_iff_eq] at h
    obtain ⟨h1, h2⟩ := h
    subst h1
    exact ⟨by rw [show ev Φ sub (.rev a) = _ by funext e; rw [ev]]; exact se_rev (ha.sr F h2), rfl⟩
  · cases h
theorem pe_ctup {as : C} (ha : Pl Φ sub as) : Pe Φ sub (.tup as) := .of fun S X T W O F x rd h => by
  unfold chkE at h
  split at h
  · exact ⟨by rw [show ev Φ sub (.tup as) = _ by funext e; rw [ev]]; exact se_tup (ha S X T W O F _ h), rfl⟩
  · cases h
theorem pe_clst {as : C} (ha : Pl Φ sub as) : Pe Φ sub (.lst as) := .of fun S X T W O F x rd h => by
  unfold chkE at h
  split at h
  · exact ⟨by rw [show ev Φ sub (.lst as) = _ by funext e; rw [ev]]; exact se_lst (ha S X T W O F _ h), rfl⟩
  · cases h
theorem pe_cfld {c j : Nat} {a : C} (ha : Pe Φ sub a) : Pe Φ sub (.fld c j a) := .of fun S X T W O F x rd h => by
  unfold chkE at h
  split at h
  · rename_i p n pos
    simp only [Bool.and_eq_true, List.contains_eq_mem, decide_eq_true_eq] at h
    obtain ⟨⟨⟨h1, h2⟩, h3⟩, h4⟩ := h
    have hj : (T.fl c)[j]? = some n := by
      cases q : S.fl[c]? with
      | none => rw [q] at h2; cases h2
      | some fs =>
        rw [q] at h2
        rw [F.fl c fs q]
        exact of_decide_eq_true h2
    exact ⟨by rw [show ev Φ sub (.fld c j a) = _ by funext e; rw [ev]]; exact se_fld (F.ins c h1) hj h3 (ha.sr F h4), rfl⟩
  · cases h
theorem pe_cefld {i c j : Nat} : Pe Φ sub (.efld i c j) := .of fun S X T W O F x rd h => by
  have e1 : ev Φ sub (.efld i c j) = efldF i c j := by funext e; rw [ev]; rfl
  rw [e1]
  unfold chkE at h
  split at h
  · rename_i n np f pos
    simp only [Bool.and_eq_true] at h
    obtain ⟨⟨h1, h2⟩, h3⟩ := h
    cases q : S.ex with
    | none => rw [q] at h1; cases h1
    | some z =>
      obtain ⟨i', nm⟩ := z
      rw [q] at h1
      simp only [Bool.and_eq_true, beq_iff_eq] at h1
      obtain ⟨e2, e3⟩ := h1
      subst e2 e3
      obtain ⟨a1, a2, a3, a4⟩ := F.nm h2
      have hj : (T.fl c)[j]? = some f := by
        cases q : S.fl[c]? with
        | none => rw [q] at h3; cases h3
        | some fs =>
          rw [q] at h3
          rw [F.fl c fs q]
          exact of_decide_eq_true h3
      exact ⟨F.efl _ _ q O c j f _ _ hj a2 a1 (by unfold ndb; rw [a3, a4]; rfl), rfl⟩
  · cases h
theorem pe_ceisi {i k : Nat} : Pe Φ sub (.eisi i k) := .of fun S X T W O F x rd h => by
  have e1 : ev Φ sub (.eisi i k) = eisiF sub i k := by funext e; rw [ev]; rfl
  rw [e1]
  unfold chkE at h
  split at h
  · rename_i f fp n np cn cp pos
    simp only [Bool.and_eq_true, List.any_eq_true, beq_iff_eq] at h
    obtain ⟨⟨⟨⟨⟨h0, h00⟩, h1⟩, h2⟩, h3⟩, ⟨p, hp, e4, e5⟩⟩ := h
    subst h0
    cases q : S.ex with
    | none => rw [q] at h1; cases h1
    | some z =>
      obtain ⟨i', nm⟩ := z
      rw [q] at h1
      simp only [Bool.and_eq_true, beq_iff_eq] at h1
      obtain ⟨e2, e3⟩ := h1
      subst e2 e3
      obtain ⟨a1, a2, a3, a4⟩ := F.nm h2
      have := F.eis _ _ q p hp O fp np cp pos a2 a1 (by unfold ndb; rw [a3, a4]; rfl) (F.gl h00) (by rw [e4]; exact F.gl h3)
      rw [e4, e5] at this
      exact ⟨this, rfl⟩
  · cases h
/-! ### targets -/
theorem pgs_ok {S : Scp} {X : Cx} {T : Tb} {W : WX} (F : Fx X T W Φ sub S) : ∀ (t : List Nat) (es : List Expr), chkNs S t es = true →
    PGs X es (fun xs σ H Q => xs.length = t.length ∧ Q (setV t xs σ) H) ∧ (assignEach es X.env).length = t.length ∧ (assignEach es X.env).findIdx? (·.1) = none
  | [], [], _ => ⟨⟨fun pins s σ H vs us Q I r h => pgs_nil.run pins s σ H vs us Q I r ⟨List.length_eq_zero_iff.mp h.1, by
      have e : vs = [] := List.length_eq_zero_iff.mp h.1
      subst e
      exact h.2⟩⟩, rfl, rfl⟩
  | [], _ :: _, h => by cases h
  | _ :: _, [], h => by cases h
  | i :: is, e :: es, h => by
    cases e
    case Name x p =>
      simp only [chkNs, Bool.and_eq_true] at h
      obtain ⟨h1, h2, h3⟩ := F.sto h.1
      obtain ⟨g1, g2, g3⟩ := pgs_ok F is es h.2
      refine ⟨⟨fun pins s σ H vs us Q I r q => (pgs_cons (pg_name (pos := p) F.nd h1 h2 h3) g1).run pins s σ H vs us Q I r ?_⟩, ?_, ?_⟩
      · cases vs with
        | nil => simp at q
        | cons v vs => exact ⟨v, vs, rfl, by simpa using q.1, q.2⟩
      · show (assignEach es X.env).length + 1 = _
        rw [g2]; rfl
      · show List.findIdx? _ ((false, _) :: assignEach es X.env) = none
        rw [List.findIdx?_cons]
        simp [g3]
    all_goals exact Bool.noConfusion (show false = true from h)
theorem pg_ok {S : Scp} {X : Cx} {T : Tb} {W : WX} (F : Fx X T W Φ sub S) {t : List Nat} {one : Bool} {tg : Expr} (h : chkT S t one tg = true) : PG X tg (gA X.K t one) := by
  unfold chkT at h
  split at h
  · rename_i x p
    simp only [Bool.and_eq_true] at h
    obtain ⟨h1, h2⟩ := h
    subst h1
    split at h2
    · obtain ⟨h1, h3, h4⟩ := F.sto h2
      exact ⟨fun pins s σ H v u Q I r q => (pg_name (pos := p) F.nd h1 h3 h4).run pins s σ H v u Q I r q⟩
    · cases h2
  · rename_i es k p
    simp only [Bool.and_eq_true, Bool.not_eq_true'] at h
    obtain ⟨⟨h1, h2⟩, h3⟩ := h
    subst h1
    obtain ⟨g1, g2, g3⟩ := pgs_ok F t es h3
    refine ⟨fun pins s σ H v u Q I r ⟨a, xs, q1, q2, q3, q4⟩ => ?_⟩
    rcases q2 with q2 | q2
    · exact (pg_tup (pos := p) (k := k) (F.calm h2) g1 g2 g3).run pins s σ H v u Q I r ⟨a, xs, q1, q2, q3, q3, q4⟩
    · exact (pg_unl (pos := p) (k := k) (F.calm h2) g1 g2 g3).run pins s σ H v u Q I r ⟨a, xs, q1, q2, q3, q3, q4⟩
  · cases h
end
end E

set_option autoImplicit false
set_option linter.all false
set_option Elab.async false
set_option maxRecDepth 100000
/-! E19: comprehensions; all expressions. -/
namespace E
open PySem PySem.Spec PyProof.Rows L2

def relP (sc : Scope) (p : Str × NameKind) : Str × NameKind := if (p.2 == .free && sc.kind == .function && sc.names.lookup p.1 == some .cell) = true then (p.1, .cell) else p
theorem relP_eq (scope sc : Scope) : (relS scope sc).names = scope.names.map (relP sc) := by
  unfold relS
  show scope.names.map _ = _
  refine List.map_congr_left fun p _ => ?_
  obtain ⟨n, k⟩ := p
  rfl
theorem lookup_relP {sc : Scope} {x : Str} {k : NameKind} (hk : k ≠ .free) : ∀ (l : List (Str × NameKind)), l.lookup x = some k → (l.map (relP sc)).lookup x = some k
  | [], h => by cases h
  | (n, k') :: r, h => by
    rw [List.lookup_cons] at h
    have e0 : (relP sc (n, k')).1 = n := by unfold relP; split <;> rfl
    rw [List.map_cons]
    rw [show relP sc (n, k') = (n, (relP sc (n, k')).2) from Prod.ext e0 rfl, List.lookup_cons]
    cases hn : x == n with
    | true =>
      rw [hn] at h
      simp only [Option.some.injEq] at h
      subst h
      have e : (k' == NameKind.free) = false := by cases k' <;> first | rfl | exact absurd rfl hk
      show some (relP sc (n, k')).2 = _
      unfold relP
      simp [e]
    | false =>
      rw [hn] at h
      exact lookup_relP hk r h
theorem lookup_rel {scope sc : Scope} {x : Str} {k : NameKind} (hk : k ≠ .free) (h : scope.names.lookup x = some k) : (relS scope sc).names.lookup x = some k := by
  rw [relP_eq]
  exact lookup_relP hk _ h
section
variable {X : Cx} {T : Tb} {W : WX} {Φ : Nat → List D → Res D} {sub : Nat → Nat → Option Bool} {S : Scp}
theorem Fx.blk (F : Fx X T W Φ sub S) (hc : S.calm = true) (s : Shared) (H : Hp) (scope : Scope) (C : Addr) (cl : List (Str × Addr)) (fp : List Addr) : Fx (X.blk s H scope (compEnvC scope cl C X.env) fp) T noW Φ sub (blkS S scope) where
  hN := F.hN
  nd := F.nd
  sc := by
    show relS scope X.env.scope = relS scope S.sc
    rw [F.sc]
  stl := fun x h => lookup_rel (by simp) h
  stc := fun x h => ⟨by show (scope.names.lookup x == some .cell) = true; rw [show scope.names.lookup x = some .cell from h]; rfl, lookup_rel (by simp) h⟩
  calm := F.calm
  hu := F.hu
  bi := F.bi
  glb := F.glb
  fl := F.fl
  ins := F.ins
  fn := fun p hp X' W' c t => F.fn p hp X' W' ⟨c.prog, c.w, c.K, c.mg, c.base, c.A, .inl (F.calm hc)⟩ t
  tk := fun u s' x => by
    obtain ⟨a, B, sI, pins, σ, H, cls, d, e, I, nb, up, sky, na, os, ag, w⟩ := x
    exact w.elim
  pr := F.pr
  efl := fun i nm h => by cases h
  eis := fun i nm h => by cases h
theorem om_bd {α β γ : Type} (o : Option α) (f : α → Res β) (g : β → Res γ) : (om o f).bd g = om o fun a => (f a).bd g := by cases o <;> rfl
theorem disj_ok (F : Fx X T W Φ sub S) {t O : List Nat} (h : disj t O S.pr = true) : ∀ i ∈ t, i ∉ O ∧ i ∉ T.pr := fun i hi => by
  unfold disj at h
  have := List.all_eq_true.mp h i hi
  simp only [Bool.and_eq_true, Bool.not_eq_true', List.contains_eq_mem, decide_eq_false_iff_not] at this
  rw [F.pr]
  exact this
/-- what a comprehension or a for goes over -/
def chkI (S : Scp) (O : List Nat) (tg : Expr) : C → Expr → Bool := fun it iter => match it, iter with
          | .bi .rng1 (.cons a .nil), .Call (.Name n _) [p] [] _ => n == ("range" : Str) && gl S n && noStar p && chkE S O true a p
          | .bi .rng2 (.cons a (.cons b .nil)), .Call (.Name n _) [p, q] [] _ => n == ("range" : Str) && gl S n && noStar p && noStar q && chkE S O true a p && chkE S O true b q
          | .bi .enum (.cons a .nil), .Call (.Name n _) [p] [] _ => n == ("enumerate" : Str) && gl S n && noStar p && (match tg with | .Tuple _ _ _ => true | _ => false) && chkE S O false a p
          | c, y => chkE S O false c y
theorem si_ok (F : Fx X T W Φ sub S) {O : List Nat} {tg iter : Expr} {it : C} (ih : ∀ c, sizeOf c ≤ sizeOf it → Pe Φ sub c) (h : chkI S O tg it iter = true) : SI X T W O tg iter (fun e => (ev Φ sub it e).bd fun x => om (items x) .ok) := by
  unfold chkI at h
  split at h
  · rename_i a n np p pos
    simp only [Bool.and_eq_true, beq_iff_eq] at h
    obtain ⟨⟨⟨h1, h2⟩, h3⟩, h4⟩ := h
    subst h1
    have e2 : (fun e => (ev Φ sub (.bi .rng1 (.cons a .nil)) e).bd fun x => om (items x) .ok) = fun e => ((ev Φ sub a e).bd fun x => biF .rng1 [x]).bd fun x => om (items x) .ok := by
      funext e
      rw [ev, evL, evL]
      cases ev Φ sub a e <;> rfl
    rw [e2]
    exact si_rng1 (F.gl h2) (F.bi _ (by decide)) h3 ((ih a (by simp; omega)).sr F h4)
  · rename_i a b n np p q pos
    simp only [Bool.and_eq_true, beq_iff_eq] at h
    obtain ⟨⟨⟨⟨⟨h1, h2⟩, h3⟩, h4⟩, h5⟩, h6⟩ := h
    subst h1
    have e2 : (fun e => (ev Φ sub (.bi .rng2 (.cons a (.cons b .nil))) e).bd fun x => om (items x) .ok) = fun e => ((ev Φ sub a e).bd fun x => (ev Φ sub b e).bd fun y => biF .rng2 [x, y]).bd fun x => om (items x) .ok := by
      funext e
      rw [ev, evL, evL, evL]
      cases ev Φ sub a e with
      | ok x => cases ev Φ sub b e <;> rfl
      | _ => rfl
    rw [e2]
    exact si_rng2 (F.gl h2) (F.bi _ (by decide)) h3 h4 ((ih a (by simp; omega)).sr F h5) ((ih b (by simp; omega)).sr F h6)
  · rename_i a n np p pos
    simp only [Bool.and_eq_true, beq_iff_eq] at h
    obtain ⟨⟨⟨⟨h1, h2⟩, h3⟩, h4⟩, h5⟩ := h
    subst h1
    have e2 : (fun e => (ev Φ sub (.bi .enum (.cons a .nil)) e).bd fun x => om (items x) .ok) = fun e => ((ev Φ sub a e).bd fun x => biF .enum [x]).bd fun x => om (items x) .ok := by
      funext e
      rw [ev, evL, evL]
      cases ev Φ sub a e <;> rfl
    rw [e2]
    split at h4
    · exact si_enum (F.gl h2) (F.bi _ (by decide)) h3 ((ih a (by simp; omega)).se F h5)
    · cases h4
  · exact si_any ((ih it (Nat.le_refl _)).se F h)
def lcF (Φ : Nat → List D → Res D) (sub : Nat → Nat → Option Bool) (t : List Nat) (one : Bool) (it cnd elt : C) : Env → Res D := fun e => ((ev Φ sub it e).bd fun x => om (items x) .ok).bd fun l => if l.length < LIM then (lcL (fun d => om (asg t one d e) fun e' => ((ev Φ sub cnd e').bd truth).bd fun k => if k = true then (ev Φ sub elt e').bd fun y => .ok (some y) else .ok none) l).bd fun ys => .ok (.lst ys) else .bad
theorem lcF_ev {t : List Nat} {one : Bool} {it cnd elt : C} : ev Φ sub (.lc t one it cnd elt) = lcF Φ sub t one it cnd elt := by
  funext e
  rw [ev]
  unfold lcF
  simp only [bd_bd, om_bd, bd_ok]
theorem lcF_lst {t : List Nat} {one : Bool} {it cnd elt : C} (e : Env) (d : D) (h : lcF Φ sub t one it cnd elt e = .ok d) : ∃ l, d = .lst l := by
  unfold lcF at h
  cases q : (ev Φ sub it e).bd fun x => om (items x) .ok with
  | ok l =>
    rw [q] at h
    simp only [bd_ok] at h
    split at h
    · cases q2 : lcL (fun d => om (asg t one d e) fun e' => ((ev Φ sub cnd e').bd truth).bd fun k => if k = true then (ev Φ sub elt e').bd fun y => .ok (some y) else .ok none) l with
      | ok ys => rw [q2] at h; cases h; exact ⟨ys, rfl⟩
      | err c l => rw [q2] at h; cases h
      | bad => rw [q2] at h; cases h
    · cases h
  | err c l => rw [q] at h; cases h
  | bad => rw [q] at h; cases h
theorem sf_lc_ok (F : Fx X T W Φ sub S) {O : List Nat} {t : List Nat} {one : Bool} {it cnd elt : C} {x : Expr} {rd : Bool} (h : chkE S O rd (.lc t one it cnd elt) x = true) (ih : ∀ c, sizeOf c ≤ sizeOf it → Pe Φ sub c) (hc : Pe Φ sub cnd) (he : Pe Φ sub elt) : SF X T W O x (ev Φ sub (.lc t one it cnd elt)) ∧ truE x = true := by
  rw [lcF_ev]
  unfold chkE at h
  split at h
  · rename_i el tg iter ifs z scope pos
    simp only [Bool.and_eq_true, beq_iff_eq] at h
    obtain ⟨⟨⟨⟨⟨⟨⟨⟨h0, h1⟩, h2⟩, h3⟩, h4⟩, h5⟩, h6⟩, h7⟩, h8⟩ := h
    subst h0
    have hB : BlkOk X.N X.env.scope scope (ownOf S t) := by rw [F.hN, F.sc]; exact blkOk_by h4
    have hcond : ∀ (s : Shared) (H : Hp) (C : Addr) (cl : List (Str × Addr)) (fp : List Addr), STs (X.blk s H scope (compEnvC scope cl C X.env) fp) T noW O ifs (fun e' => (ev Φ sub cnd e').bd truth) := fun s H C cl fp => by
      have FB := F.blk h1 s H scope C cl fp
      split at h7
      · split at h7
        · rw [show (fun e' => (ev Φ sub (.bl true) e').bd truth) = fun _ => .ok true by funext e; rw [ev]; rfl]
          exact st_nil
        · cases h7
      · simp only [Bool.and_eq_true] at h7
        exact st_one (hc.b _ _ _ _ _ FB _ h7.1 h7.2)
      · cases h7
    refine ⟨se_lc (F.calm h1) F.nd (si_ok F ih (by unfold chkI; exact h6)) hB (by simp [ownOf, Function.comp_def]) (disj_ok F h3) (fun s H C cl fp => pg_ok (F.blk h1 s H scope C cl fp) h5) hcond (fun s H C cl fp => he.se (F.blk h1 s H scope C cl fp) h8) (notSet_ok h2), rfl⟩
  · cases h
theorem pe_clc {t : List Nat} {one : Bool} {it cnd elt : C} (ih : ∀ c, sizeOf c ≤ sizeOf it → Pe Φ sub c) (hc : Pe Φ sub cnd) (he : Pe Φ sub elt) : Pe Φ sub (.lc t one it cnd elt) := .of fun S X T W O F x rd h => by
  have := sf_lc_ok F h ih hc he
  exact ⟨this.1.se fun e d q => by rw [lcF_ev] at q; exact lcF_lst e d q, this.2⟩
end
section
variable (Φ : Nat → List D → Res D) (sub : Nat → Nat → Option Bool)
theorem no_check {c : C} (h : ∀ S O rd x, chkE S O rd c x = false) : Pe Φ sub c := .of fun S X T W O F x rd q => by rw [h] at q; cases q
theorem no_list {c : C} (h : ∀ S O x, chkL S O c x = false) : Pl Φ sub c := fun S X T W O F x q => by rw [h] at q; cases q
theorem sound_n : ∀ (n : Nat) (c : C), sizeOf c < n → Pe Φ sub c ∧ Pl Φ sub c := by
  intro n
  induction n with
  | zero => intro c h; omega
  | succ n ih =>
    intro c h
    cases c
    case nil => exact ⟨no_check Φ sub fun S O rd x => by unfold chkE; rfl, pl_nil⟩
    case cons a r => exact ⟨no_check Φ sub fun S O rd x => by unfold chkE; rfl, pl_cons (ih a (by simp at h; omega)).1 (ih r (by simp at h; omega)).2⟩
    all_goals refine ⟨?_, no_list Φ sub fun S O x => by simp [chkL]⟩
    case var i => exact pe_cvar i
    case non => exact pe_cnon
    case bl b => exact pe_cbl b
    case int i => exact pe_cint i
    case str s => exact pe_cstr s
    case glb x d => exact pe_cglb x d
    case op o a b => exact pe_cop (ih a (by simp at h; omega)).1 (ih b (by simp at h; omega)).1
    case chn o1 o2 a b c => exact pe_cchn (ih a (by simp at h; omega)).1 (ih b (by simp at h; omega)).1 (ih c (by simp at h; omega)).1
    case neg a => exact pe_cneg (ih a (by simp at h; omega)).1
    case one a => exact pe_cone (ih a (by simp at h; omega)).1
    case and a b => exact pe_cand (ih a (by simp at h; omega)).1 (ih b (by simp at h; omega)).1
    case or a b => exact pe_cor (ih a (by simp at h; omega)).1 (ih b (by simp at h; omega)).1
    case not a => exact pe_cnot (ih a (by simp at h; omega)).1
    case ite c a b => exact pe_cite (ih c (by simp at h; omega)).1 (ih a (by simp at h; omega)).1 (ih b (by simp at h; omega)).1
    case is_ d neg a => exact pe_cis (ih a (by simp at h; omega)).1
    case isi a k => exact pe_cisi (ih a (by simp at h; omega)).1
    case isi2 a k1 k2 => exact pe_cisi2 (ih a (by simp at h; omega)).1
    case call k x as => exact pe_ccall (ih as (by simp at h; omega)).2
    case bi f as =>
      refine pe_cbi fun a r e => ?_
      subst e
      refine ⟨(ih a (by simp at h; omega)).1, fun b r' e => ?_⟩
      subst e
      exact (ih b (by simp at h; omega)).1
    case mt m a as =>
      refine pe_cmt (ih a (by simp at h; omega)).1 fun b r e => ?_
      subst e
      exact (ih b (by simp at h; omega)).1
    case idx a b => exact pe_cidx (ih a (by simp at h; omega)).1 (ih b (by simp at h; omega)).1
    case slc a lo hi => exact pe_cslc (ih a (by simp at h; omega)).1 (ih lo (by simp at h; omega)).1 (ih hi (by simp at h; omega)).1
    case rev a => exact pe_crev (ih a (by simp at h; omega)).1
    case tup as => exact pe_ctup (ih as (by simp at h; omega)).2
    case lst as => exact pe_clst (ih as (by simp at h; omega)).2
    case lc t one it cnd elt => exact pe_clc (fun c hc => (ih c (by simp at h; omega)).1) (ih cnd (by simp at h; omega)).1 (ih elt (by simp at h; omega)).1
    case fld c j a => exact pe_cfld (ih a (by simp at h; omega)).1
    case efld i c j => exact pe_cefld
    case eisi i k => exact pe_ceisi
    case mth c k m a as => exact no_check Φ sub fun S O rd x => by unfold chkE; rfl
theorem sound (c : C) : Pe Φ sub c := (sound_n Φ sub _ c (Nat.lt_succ_self _)).1
theorem soundL (c : C) : Pl Φ sub c := (sound_n Φ sub _ c (Nat.lt_succ_self _)).2
end
end E

set_option autoImplicit false
set_option linter.all false
set_option Elab.async false
set_option maxRecDepth 100000
/-! E20: the check of statements, its soundness. -/
namespace E
open PySem PySem.Spec PyProof.Rows L2

def isLC : Expr → Bool
  | .ListComp _ _ _ _ => true
  | .SetComp _ _ _ _ => true
  | .DictComp _ _ _ _ _ => true
  | _ => false
def isTup : Expr → Bool
  | .Tuple _ _ _ => true
  | _ => false
def isNT : Expr → Bool
  | .Name _ _ => true
  | .Tuple _ _ _ => true
  | _ => false
def swc (S : Scp) (y : Str) (py pos : Pos) (scope : Scope) : Bool := (S.sc.names.lookup y == some .local) && py.line == pos.line && !(scope.names.any fun (n, k) => n == y && (k == .local || k == .cell))
def chkF (S : Scp) (O : List Nat) (c : C) (x : Expr) : Bool := match c with
  | .lst _ => chkE S O false c x
  | .lc _ _ _ _ _ => chkE S O false c x
  | .op .add _ _ => chkE S O false c x
  | .op .mul _ _ => chkE S O false c x
  | _ => false
def meet (a b : Option (List Nat)) : Option (List Nat) := match a, b with
  | none, x => x
  | x, none => x
  | some x, some y => some (x.filter fun i => y.contains i)
def subL (a b : List Nat) : Bool := a.all fun i => b.contains i
def suS (S : Scp) (i : Nat) (y : Str) : Scp := { S with calm := false, stm := false, tr := false, ex := some (i, y), pr := [i], fns := S.hot }
mutual
/-- none: not in order; some none: it does not go on; some (some O'): what is owned behind it -/
def chkS (S : Scp) (L : List Nat) : E.S → List Nat → Stmt → Option (Option (List Nat))
  | .skip, O, st => match st with
    | .Pass _ => some (some O)
    | _ => none
  | .frz i a, O, st => chkS S L a (O.filter (· != i)) st
  | .asg t one e, O, st => match st with
    | .Assign [tg] x _ => if chkE S O false e x && chkT S t one tg && disj t O S.pr && isNT tg && !(isTup tg && isTup x) && (!isLC x || (S.stm && one && (match e with | .lc _ _ _ _ _ => true | _ => false))) then some (some O) else none
    | _ => none
  | .own i e, O, st => match st with
    | .Assign [.Name y _] x _ => if chkF S O e x && stoOk S i y && !S.pr.contains i && (!isLC x || S.stm) then some (some (i :: O.filter (· != i))) else none
    | _ => none
  | .mu m i as, O, st => match st with
    | .Expr (.Call (.Attribute (.Name y _) n ap) args [] cp) _ => if O.contains i && nameOk S i y && ap.endLine == cp.line && (match m, args with
        | .append, [a] => n == ("append" : Str) && noStar a && chkL S O as [a]
        | .extend, [a] => n == ("extend" : Str) && noStar a && chkL S O as [a]
        | .reverse, [] => n == ("reverse" : Str) && chkL S O as []
        | _, _ => false) then some (some O) else none
    | _ => none
  | .put i a b, O, st => match st with
    | .Assign [.Subscript (.Name y _) p _] q _ => if O.contains i && nameOk S i y && plainIx p && chkE S O false a p && chkE S O false b q then some (some O) else none
    | _ => none
  | .aug _ _ _, _, _ => none
  | .dnew i, O, st => match st with
    | .Assign [.Name y _] (.Dict [] [] _) _ => if stoOk S i y && !S.pr.contains i then some (some (i :: O.filter (· != i))) else none
    | _ => none
  | .dnew1 i k v, O, st => match st with
    | .Assign [.Name y _] (.Dict [some p] [q] _) _ => if stoOk S i y && !S.pr.contains i && chkE S O false k p && chkE S O false v q then some (some (i :: O.filter (· != i))) else none
    | _ => none
  | .fpop M t one a i b, O, st => match st with
    | .For tg (.Subscript x (.Call (.Attribute (.Name y _) n ap) [] [] cp) _) p [] _ => if S.stm && S.calm && subL M O && chkE S M false a x && M.contains i && nameOk S i y && n == ("pop" : Str) && ap.endLine == cp.line && chkT S t one tg && disj t M S.pr then (match chkSs S M b M p with
        | some none => some (some M)
        | some (some r) => if subL M r then some (some M) else none
        | none => none) else none
    | _ => none
  | .if_ c a b, O, st => match st with
    | .If x p q _ => if okT c && chkE S O true c x then (match chkSs S L a O p, chkSs S L b O q with
        | some r1, some r2 => some (meet r1 r2)
        | _, _ => none) else none
    | _ => none
  | .while_ M c b, O, st => match st with
    | .While x p [] _ => if S.stm && subL M O && okT c && chkE S M true c x then (match chkSs S M b M p with
        | some none => some (some M)
        | some (some r) => if subL M r then some (some M) else none
        | none => none) else none
    | _ => none
  | .for_ M t one it b, O, st => match st with
    | .For tg x p [] _ => if S.stm && S.calm && subL M O && chkI S M tg it x && chkT S t one tg && disj t M S.pr && notSet x then (match chkSs S M b M p with
        | some none => some (some M)
        | some (some r) => if subL M r then some (some M) else none
        | none => none) else none
    | _ => none
  | .ret e, O, st => match st with
    | .Return (some x) _ => if chkE S O false e x then some none else none
    | _ => none
  | .retN, O, st => match st with
    | .Return none _ => some none
    | _ => none
  | .expr e, O, st => match st with
    | .Expr x _ => if chkE S O false e x && !isLC x then some (some O) else none
    | _ => none
  | .raise c n as, O, st => match st with
    | .Raise (some (.Call (.Name f _) (e :: es) [] _)) none _ => if S.stm && S.calm && gl S f && S.xcs.any (fun p => p.1 == f && p.2 == c) && noStar e && es.all noStar && chkL S O as (e :: es) && (match S.fl[c]? with | some fs => (e :: es).length == fs.length | none => false) then some none else none
    | _ => none
  | .try_ b h, O, st => match st with
    | .Try body (h0 :: hds) [] [] _ => if S.stm && S.calm && L.isEmpty && chkHs S h (h0 :: hds) && S.tr then (match chkSs S L b O body with
        | some r => some (some [])
        | none => none) else none
    | _ => none
  | .hnd _ _ _ _ _ _, _, _ => none
  | .brk, O, st => match st with
    | .Break _ => if subL L O then some none else none
    | _ => none
  | .cont, O, st => match st with
    | .Continue _ => if subL L O then some none else none
    | _ => none
  | .seq _ _, _, _ => none
def chkSs (S : Scp) (L : List Nat) : E.S → List Nat → List Stmt → Option (Option (List Nat))
  | .skip, O, l => match l with
    | [] => some (some O)
    | _ => none
  | .seq a b, O, l => match l with
    | st :: rest => match chkS S L a O st with
      | some (some O1) => chkSs S L b O1 rest
      | some none => (match b, rest with | .skip, [] => some none | _, _ => none)
      | none => none
    | _ => none
  | _, _, _ => none
def chkHs (S : Scp) : E.S → List ExceptHandler → Bool
  | .skip, hds => match hds with
    | [] => true
    | _ => false
  | .hnd k n i nm hb r, hds => match hds with
    | .ExceptHandler (some (.Name x _)) (some y) (b0 :: suite) _ :: rest => gl S x && decide (S.sc.names.lookup y = some .local) && decide (S.N[i]? = some y) && S.cn.any (fun q => q.1 == x && q.2 == k) && (chkSs (suS S i y) [] hb [] (b0 :: suite)).isSome && chkHs S r rest
    | _ => false
  | _, _ => false
end
/-- the stores of fields -/
def chkSt (S : Scp) : List Str → C → List Stmt → Bool
  | [], .nil, [] => true
  | f :: fl, .cons a r, st :: ss => (match stoSt st with
    | some (s, f', x) => nameOk S 0 s && f' == f && !isLC x && chkE S [] false a x
    | none => false) && chkSt S fl r ss
  | _, _, _ => false
end E

set_option autoImplicit false
set_option linter.all false
set_option Elab.async false
set_option maxRecDepth 100000
/-! E21: soundness of the check of statements. -/
namespace E
open PySem PySem.Spec PyProof.Rows L2

structure Gx (X : Cx) (T : Tb) (W : WX) (Φ : Nat → List D → Res D) (sub : Nat → Nat → Option Bool) (S : Scp) : Prop extends Fx X T W Φ sub S where
  po : S.stm = true → PassesOwn (model X.prog X.w) X.A X.env X.xe
  fr : S.stm = true → X.stack = X.env :: X.outer ∧ X.env.frame = some X.env.locals ∧ X.env.blockKind = .function
  rs : S.stm = true → ∀ p ∈ S.xcs, ∀ X', Core X X' → RaiseOk X' T p.1 p.2
  cn : ∀ q ∈ S.cn, ClsNm X T sub q.1 q.2
  zt : S.tr = true → (∀ G, T.z G) ∧ (∀ e σ, T.ze e σ)
  nx : S.stm = true → S.ex = none
  su : S.tr = true → ∀ (i : Nat) (y : Str) (a : Addr) (oe : Obj) (od : Option Addr) (pn : List (Addr × Obj)) (c : Nat) (l : List D), L2N.Zn (.ref (T.ca c)) od oe → (∃ vs, oe.data = .fields vs) → (∃ k b, sub c k = some b) → Fx (X.suite a ((a, oe) :: pn)) (suT T X.K i a c l od) noW Φ sub (suS S i y)
section
variable {X : Cx} {T : Tb} {W : WX} {Φ : Nat → List D → Res D} {sub : Nat → Nat → Option Bool} {S : Scp}
theorem Gx.tr (G : Gx X T W Φ sub S) (hs : S.stm = true) (hc : S.calm = true) {W' : WX} {pn : List (Addr × Obj)} {xe : Value → Shared → Prop} (tk : L2N.Takes (X.tr pn xe) W') (po : PassesOwn (model X.prog X.w) X.A X.env xe) : Gx (X.tr pn xe) T W' Φ sub S where
  hN := G.hN
  nd := G.nd
  sc := G.sc
  stl := G.stl
  stc := G.stc
  calm := G.calm
  hu := G.hu
  bi := G.bi
  glb := G.glb
  fl := G.fl
  ins := G.ins
  fn := fun p hp X' W' c t => G.fn p hp X' W' ⟨c.prog, c.w, c.K, c.mg, c.base, c.A, .inl (G.calm hc)⟩ t
  tk := tk
  pr := G.pr
  efl := fun i nm h => by rw [G.nx hs] at h; cases h
  eis := fun i nm h => by rw [G.nx hs] at h; cases h
  po := fun _ => po
  fr := G.fr
  rs := fun h p hp X' c => G.rs h p hp X' ⟨c.prog, c.w, c.K, c.mg, c.base, c.A, .inl (G.calm hc)⟩
  cn := fun q hq => ⟨(G.cn q hq).ex⟩
  zt := G.zt
  nx := G.nx
  su := G.su
/-! ### assignments -/
theorem swap_no {x tg : Expr} {line : Nat} {env : PySem.Env} (h : isLC x = false) : swapsWithSole [tg] x line env = pure false := by
  cases x <;> first | rfl | cases h
theorem swap_e {x : Expr} {line : Nat} {env : PySem.Env} (h : isLC x = false) : swapsWith x none line env = pure false := by
  cases x <;> first | rfl | cases h
theorem swapped_no {x tg : Expr} {env : PySem.Env} (h0 : isNT tg = true) (h : (isTup tg && isTup x) = false) : swappedStores [tg] x env = pure none := by
  cases tg <;> first | rfl | (cases h0; done) | skip
  cases x <;> first | rfl | cases h
theorem each_one {tg : Expr} {env : PySem.Env} (h0 : isNT tg = true) : (assignEach [tg] env).map (·.2) = [assign tg env] := by
  cases tg <;> first | rfl | cases h0
theorem swaps_lc {el : Expr} {gens : List Comprehension} {scope : Scope} {pos py : Pos} {y : Str} {line : Nat} (hb : X.env.blockKind = .function) (hsc : X.env.scope = S.sc) : swapsWith (.ListComp el gens scope pos) (some (.Name y py)) line X.env = pure (swc S y py pos scope) := by
  unfold swapsWith swc
  show (pure (X.env.blockKind == .function && X.env.scope.names.lookup y == some .local && py.line == pos.line && !(scope.names.any fun (n, k) => n == y && (k == .local || k == .cell))) : Sem Bool) = _
  rw [hb, hsc]
  rfl
theorem lc_shape {O : List Nat} {rd : Bool} {e : C} {x : Expr} (hx : isLC x = true) (h : chkE S O rd e x = true) : (∃ a, e = .one a) ∨ ∃ t one it cnd elt, e = .lc t one it cnd elt := by
  cases e <;> first
    | (exact .inr ⟨_, _, _, _, _, rfl⟩)
    | (exact .inl ⟨_, rfl⟩)
    | (cases x <;> first | (cases hx; done) | (unfold chkE at h; exact Bool.noConfusion (show false = true from h)))
/-- a comprehension's value in a name, by the rule that fits the line -/
theorem ps_lc (G : Gx X T W Φ sub S) (hs : S.stm = true) {O t : List Nat} {one : Bool} {it cnd elt : C} {x : Expr} {rd : Bool} {i : Nat} {y : Str} {py pos : Pos} (hy : stoOk S i y = true) (h : chkE S O rd (.lc t one it cnd elt) x = true) :
    PS X (.Assign [.Name y py] x pos) (tAsg (cE X T W O (RF T X.K) fun e => (ev Φ sub (.lc t one it cnd elt) e).bd onlyL) (gName i)) := by
  have F := G.toFx
  obtain ⟨y1, y2, y3⟩ := F.sto hy
  have sf := (sf_lc_ok F h (fun c _ => sound Φ sub c) (sound Φ sub cnd) (sound Φ sub elt)).1
  have hx : ∃ el gens scope p, x = .ListComp el gens scope p := by
    unfold chkE at h
    split at h
    · exact ⟨_, _, _, _, rfl⟩
    · cases h
  obtain ⟨el, gens, scope, p, rfl⟩ := hx
  obtain ⟨f1, f2, f3⟩ := G.fr hs
  have hsw := swaps_lc (X := X) (S := S) (el := el) (gens := gens) (scope := scope) (pos := p) (py := py) (y := y) (line := pos.line) f3 F.sc
  cases q : swc S y py p scope with
  | false =>
    rw [q] at hsw
    exact ps_set F.nd y1 y2 sf hsw y3
  | true =>
    rw [q] at hsw
    have hloc : X.env.scope.names.lookup y = some .local := by
      rw [F.sc]
      unfold swc at q
      simp only [Bool.and_eq_true] at q
      exact (beq_iff_eq.mp q.1.1)
    rw [lcF_ev]
    unfold chkE at h
    split at h
    · rename_i el' tg iter ifs z scope' pos' heq
      cases heq
      simp only [Bool.and_eq_true, beq_iff_eq] at h
      obtain ⟨⟨⟨⟨⟨⟨⟨⟨h0, h1⟩, h2⟩, h3⟩, h4⟩, h5⟩, h6⟩, h7⟩, h8⟩ := h
      subst h0
      have hB : BlkOk X.N X.env.scope scope (ownOf S t) := by rw [F.hN, F.sc]; exact blkOk_by h4
      have hcond : ∀ (s : Shared) (H : Hp) (C : Addr) (cl : List (Str × Addr)) (fp : List Addr), STs (X.blk s H scope (compEnvC scope cl C X.env) fp) T noW O ifs (fun e' => (ev Φ sub cnd e').bd truth) := fun s H C cl fp => by
        have FB := F.blk h1 s H scope C cl fp
        split at h7
        · split at h7
          · rw [show (fun e' => (ev Φ sub (.bl true) e').bd truth) = fun _ => .ok true by funext e; rw [ev]; rfl]
            exact st_nil
          · cases h7
        · simp only [Bool.and_eq_true] at h7
          exact st_one ((sound Φ sub cnd).b _ _ _ _ _ FB _ h7.1 h7.2)
        · cases h7
      refine PS.weak (ps_setLc (g := gA X.K t one) (tt := cE X T noW O (fun _ => RB) fun e' => (ev Φ sub cnd e').bd truth) (te := cE X T noW O (fun _ => RV T X.K) (ev Φ sub elt)) (F.calm h1) F.nd y1 hloc hsw (si_ok F (fun c _ => sound Φ sub c) (by unfold chkI; exact h6)) hB (fun s H C cl fp => pg_ok (F.blk h1 s H scope C cl fp) h5) hcond (fun s H C cl fp => (sound Φ sub elt).se (F.blk h1 s H scope C cl fp) h8) (notSet_ok h2)) fun D σ H q => ?_
      exact lc_key (by simp [ownOf, Function.comp_def]) (disj_ok F h3) q
    · cases h
/-! ### new lists -/
theorem sf_ok (F : Fx X T W Φ sub S) {O : List Nat} {c : C} {x : Expr} (h : chkF S O c x = true) : SF X T W O x (ev Φ sub c) := by
  unfold chkF at h
  split at h
  · rename_i as
    unfold chkE at h
    split at h
    · rw [show ev Φ sub (.lst as) = _ by funext e; rw [ev]]
      exact sf_lst (soundL Φ sub as S X T W O F _ h)
    · cases h
  · rename_i t one it cnd elt
    exact (sf_lc_ok F h (fun c _ => sound Φ sub c) (sound Φ sub cnd) (sound Φ sub elt)).1
  · rename_i a b
    have e1 : (fun e => (ev Φ sub (.op .add a b) e).bd onlyL) = fun e => (ev Φ sub a e).bd fun x => (ev Φ sub b e).bd fun y => (op2 .add x y).bd onlyL := by funext e; rw [ev]; simp only [bd_bd]
    unfold chkE at h
    split at h
    · rename_i p op q pos
      simp only [Bool.and_eq_true] at h
      obtain ⟨⟨h1, h2⟩, h3⟩ := h
      cases op <;> first | (exact Bool.noConfusion (show false = true from h1)) | skip
      unfold SF
      rw [e1]
      exact PE.weak (pe_op op_cat ((sound Φ sub a).sr F h2) ((sound Φ sub b).sr F h3)) fun σ H Q q => two rfl rfl q fun G0 H0 G2 H2 e x y v w rl s rx ry p => addF_ok s rl.sub rx ry p
    · rename_i p op q pos
      simp only [Bool.and_eq_true] at h
      obtain ⟨⟨⟨h1, _⟩, _⟩, _⟩ := h
      cases op <;> exact Bool.noConfusion (show false = true from h1)
    · cases h
  · rename_i a b
    have e1 : (fun e => (ev Φ sub (.op .mul a b) e).bd onlyL) = fun e => (ev Φ sub a e).bd fun x => (ev Φ sub b e).bd fun y => (op2 .mul x y).bd onlyL := by funext e; rw [ev]; simp only [bd_bd]
    unfold chkE at h
    split at h
    · rename_i p op q pos
      simp only [Bool.and_eq_true] at h
      obtain ⟨⟨h1, h2⟩, h3⟩ := h
      cases op <;> first | (exact Bool.noConfusion (show false = true from h1)) | skip
      unfold SF
      rw [e1]
      exact PE.weak (pe_op op_rep ((sound Φ sub a).sr F h2) ((sound Φ sub b).sr F h3)) fun σ H Q q => two rfl rfl q fun G0 H0 G2 H2 e x y v w rl s rx ry p => mulF_ok s rl.sub rx ry p
    · rename_i p op q pos
      simp only [Bool.and_eq_true] at h
      obtain ⟨⟨⟨h1, _⟩, _⟩, _⟩ := h
      cases op <;> exact Bool.noConfusion (show false = true from h1)
    · cases h
  · cases h
end
/-! ### all statements -/
def good (r : Option (List Nat)) (P : List Nat → Prop) : Prop := match r with
  | none => ∀ O', P O'
  | some O1 => P O1
theorem subL_ok {a b : List Nat} (h : subL a b = true) : ∀ i ∈ a, i ∈ b := fun i hi => by
  unfold subL at h
  have := List.all_eq_true.mp h i hi
  simpa using this
section
variable (Φ : Nat → List D → Res D) (sub : Nat → Nat → Option Bool) (n : Nat)
structure Ps (s : E.S) : Prop where
  st : ∀ (S : Scp) (X : Cx) (T : Tb) (W : WX) (L O : List Nat), Gx X T W Φ sub S → ∀ (st : Stmt) (r : Option (List Nat)), chkS S L s O st = some r → good r fun O' => SS X T W O O' L st (evS Φ sub n s)
  ls : ∀ (S : Scp) (X : Cx) (T : Tb) (W : WX) (L O : List Nat), Gx X T W Φ sub S → ∀ (st : List Stmt) (r : Option (List Nat)), chkSs S L s O st = some r → good r fun O' => SSs X T W O O' L st (evS Φ sub n s)
  hd : ∀ (S : Scp) (X : Cx) (T : Tb) (W : WX), Gx X T W Φ sub S → S.stm = true → S.tr = true → ∀ (hds : List ExceptHandler), chkHs S s hds = true → HdOk X T W hds (fun c l e => evH Φ sub n c l s e)
end
section
variable {Φ : Nat → List D → Res D} {sub : Nat → Nat → Option Bool} {n : Nat}
theorem meet_ok {X : Cx} {T : Tb} {W : WX} {O L : List Nat} {p q : List Stmt} {f g : Env → Out} {r1 r2 : Option (List Nat)} (h1 : good r1 fun O' => SSs X T W O O' L p f) (h2 : good r2 fun O' => SSs X T W O O' L q g) : good (meet r1 r2) fun O' => SSs X T W O O' L p f ∧ SSs X T W O O' L q g := by
  cases r1 with
  | none =>
    cases r2 with
    | none => exact fun O' => ⟨h1 O', h2 O'⟩
    | some b => exact ⟨h1 b, h2⟩
  | some a =>
    cases r2 with
    | none => exact ⟨h1, h2 a⟩
    | some b => exact ⟨SSs.out h1 fun i hi => (List.mem_filter.mp hi).1, SSs.out h2 fun i hi => by simpa using (List.mem_filter.mp hi).2⟩
theorem good.imp {r : Option (List Nat)} {P Q : List Nat → Prop} (h : good r P) (k : ∀ O, P O → Q O) : good r Q := by
  cases r with
  | none => exact fun O => k O (h O)
  | some a => exact k a h
theorem noL {s : E.S} (h : ∀ S L O st, chkSs S L s O st = none) {S : Scp} {X : Cx} {T : Tb} {W : WX} {L O : List Nat} {st : List Stmt} {r : Option (List Nat)} (q : chkSs S L s O st = some r) : good r fun O' => SSs X T W O O' L st (evS Φ sub n s) := by rw [h] at q; cases q
theorem noH {s : E.S} (h : ∀ S hds, chkHs S s hds = false) {S : Scp} {X : Cx} {T : Tb} {W : WX} {hds : List ExceptHandler} (q : chkHs S s hds = true) : HdOk X T W hds (fun c l e => evH Φ sub n c l s e) := by rw [h] at q; cases q
theorem E_ifSome {c : Prop} {inst : Decidable c} {α : Type} {a : α} {r : α} (h : (if c then some a else none) = some r) : c ∧ a = r := by
  split at h
  · exact ⟨by assumption, by simpa using h⟩
  · cases h
theorem E_ifIn {c : Prop} {inst : Decidable c} {α : Type} {o : Option α} {r : α} (h : (if c then o else none) = some r) : c ∧ o = some r := by
  split at h
  · exact ⟨by assumption, h⟩
  · cases h
theorem slot_len {X : Cx} {pins : List (Addr × Obj)} {σ : L2.St} {H : Hp} {s : Shared} {i : Nat} {y : Str} (I : Inv X pins σ H s) (h : X.N[i]? = some y) : i < σ.length := by
  rw [I.len]
  exact (List.getElem?_eq_some_iff.mp h).1
theorem ps_sound : ∀ (m : Nat) (s : E.S), sizeOf s < m → Ps Φ sub n s := by
  intro m
  induction m with
  | zero => intro s h; omega
  | succ m ih =>
    intro s hsz
    cases s
    case skip =>
      refine ⟨fun S X T W L O G st r h => ?_, fun S X T W L O G st r h => ?_, fun S X T W G hs htr hds h => ?_⟩
      rotate_right
      · cases hds with
        | nil =>
          rw [show (fun c l e => evH Φ sub n c l .skip e) = fun c l e => .ex e c l by funext c l e; rw [evH]; exact fun _ _ _ _ _ _ z => nomatch z]
          exact hd_nil
        | cons a b => simp [chkHs] at h
      · unfold chkS at h
        split at h
        · cases h
          rw [show evS Φ sub n .skip = .nx by funext e; rw [evS]]
          exact ss_pass
        · cases h
      · cases st with
        | nil =>
          simp only [chkSs] at h
          cases h
          rw [show evS Φ sub n .skip = .nx by funext e; rw [evS]]
          exact ss_nil
        | cons a b => simp [chkSs] at h
    case seq a b =>
      refine ⟨fun S X T W L O G st r h => (by unfold chkS at h; cases h), fun S X T W L O G st r h => ?_, fun S X T W G hs htr hds h => noH (fun S hds => by unfold chkHs; rfl) h⟩
      have ha := ih a (by simp at hsz; omega)
      have hb := ih b (by simp at hsz; omega)
      have e1 : evS Φ sub n (.seq a b) = seqO (evS Φ sub n a) (evS Φ sub n b) := by funext e; rw [evS]; rfl
      rw [e1]
      cases st with
      | nil => simp [chkSs] at h
      | cons st rest =>
        simp only [chkSs] at h
        split at h
        · rename_i O1 q
          have h1 := ha.st S X T W L O G st _ q
          exact (hb.ls S X T W L O1 G rest r h).imp fun O' h2 => ss_cons h1 h2
        · rename_i q
          have h1 := ha.st S X T W L O G st _ q
          split at h
          · cases h
            intro O'
            rw [show evS Φ sub n .skip = .nx by funext e; rw [evS]]
            exact ss_cons (h1 O') ss_nil
          · cases h
        · cases h
    case hnd k nm' i nm hb' r' =>
      refine ⟨fun S X T W L O G st r h => (by unfold chkS at h; cases h), fun S X T W L O G st r h => noL (fun S L O st => by unfold chkSs; rfl) h, fun S X T W G h1 htr hds h => ?_⟩
      have hs := ih hb' (by simp at hsz; omega)
      have hr := ih r' (by simp at hsz; omega)
      unfold chkHs at h
      split at h
      · rename_i x np y b0 suite hp rest
        simp only [Bool.and_eq_true, List.any_eq_true, beq_iff_eq, decide_eq_true_eq] at h
        obtain ⟨⟨⟨⟨⟨h4, h5⟩, h6⟩, ⟨q, hq, e4, e5⟩⟩, h7⟩, h8⟩ := h
        have C := G.cn q hq
        rw [e4, e5] at C
        obtain ⟨z1, z2⟩ := G.zt htr
        obtain ⟨r2, q2⟩ := Option.isSome_iff_exists.mp h7
        rw [show (fun c l e => evH Φ sub n c l (.hnd k nm' i nm hb' r') e) = hdStep sub i k (evS Φ sub n hb') (fun c l e => evH Φ sub n c l r' e) by
          funext c l e
          rw [evH]
          rfl]
        refine hd_cons (by rw [G.hN]; exact h6) (by show X.env.scope.names.lookup y = _; rw [G.sc]; exact h5) C (G.gl h4) z1 z2 (fun a oe od pn c l hz hf ⟨b', hb''⟩ => ?_) (hr.hd S X T W G h1 htr rest h8)
        have FX := G.su htr i y a oe od pn c l hz hf ⟨k, b', hb''⟩
        have GX : Gx (X.suite a ((a, oe) :: pn)) (suT T X.K i a c l od) noW Φ sub (suS S i y) := { FX with
          po := fun h => by cases h
          fr := fun h => by cases h
          rs := fun h => by cases h
          cn := fun q hq => ⟨(G.cn q hq).ex⟩
          zt := fun h => by cases h
          nx := fun h => by cases h
          su := fun h => by cases h }
        have g := hs.ls (suS S i y) _ _ noW [] [] GX (b0 :: suite) r2 q2
        cases r2 with
        | none => exact g []
        | some O1 => exact SSs.out g (by simp)
      · cases h
    all_goals refine ⟨fun S X T W L O G st r h => ?_, fun S X T W L O G st r h => noL (fun S L O st => by unfold chkSs; rfl) h, fun S X T W G hs htr hds h => noH (fun S hds => by unfold chkHs; rfl) h⟩
    case frz i a =>
      have ha := ih a (by simp at hsz; omega)
      unfold chkS at h
      rw [show evS Φ sub n (.frz i a) = evS Φ sub n a by funext e; rw [evS]]
      exact (ha.st S X T W L _ G st r h).imp fun O' h2 => SS.inn h2 fun j hj => (List.mem_filter.mp hj).1
    case asg t one e =>
      unfold chkS at h
      split at h
      · rename_i tg x pos
        obtain ⟨hh, e2⟩ := E_ifSome h
        clear h
        subst e2
        simp only [Bool.and_eq_true, Bool.or_eq_true, Bool.not_eq_true'] at hh
        obtain ⟨⟨⟨⟨⟨h1, h2⟩, h3⟩, h4⟩, h5⟩, h6⟩ := hh
        rw [show evS Φ sub n (.asg t one e) = _ by funext e; rw [evS]]
        refine ss_asg (disj_ok G.toFx h3) ?_
        rcases h6 with h6 | ⟨⟨h6, h7⟩, h8⟩
        · exact ps_asg ((sound Φ sub e).se G.toFx h1) (pg_ok G.toFx h2) (swap_no h6) (swapped_no h4 h5) (each_one h4)
        · subst h7
          split at h8
          · rename_i t' one' it cnd elt
            unfold chkT at h2
            split at h2
            · rename_i y py
              simp only [Bool.true_and] at h2
              split at h2
              · rename_i i
                refine PS.weak (ps_lc G h6 (py := py) (pos := pos) h2 h1) fun D σ H q => rv_rf (fun e d q => by rw [lcF_ev] at q; exact lcF_lst e d q) ?_
                exact q
              · cases h2
            · simp at h2
            · cases h2
          · cases h8
      · cases h
    case own i e =>
      unfold chkS at h
      split at h
      · rename_i y py x pos
        obtain ⟨hh, e2⟩ := E_ifSome h
        clear h
        subst e2
        simp only [Bool.and_eq_true, Bool.or_eq_true, Bool.not_eq_true'] at hh
        obtain ⟨⟨⟨h1, h2⟩, h3⟩, h4⟩ := hh
        rw [show evS Φ sub n (.own i e) = _ by funext e; rw [evS]]
        obtain ⟨y1, y2, y3⟩ := G.toFx.sto h2
        refine ss_own ?_ (fun s σ H pins I => slot_len I y1) (by rw [G.pr]; simpa using h3)
        rcases h4 with h4 | h4
        · have := swap_no (tg := .Name y py) (line := pos.line) (env := X.env) h4
          exact ps_set G.nd y1 y2 (sf_ok G.toFx h1) this y3
        · by_cases hl : isLC x = true
          · unfold chkF at h1
            split at h1
            · obtain ⟨a, q⟩ | ⟨_, _, _, _, _, q⟩ := lc_shape hl h1 <;> cases q
            · exact ps_lc G h4 h2 h1
            · obtain ⟨a, q⟩ | ⟨_, _, _, _, _, q⟩ := lc_shape hl h1 <;> cases q
            · obtain ⟨a, q⟩ | ⟨_, _, _, _, _, q⟩ := lc_shape hl h1 <;> cases q
            · cases h1
          · have := swap_no (tg := .Name y py) (line := pos.line) (env := X.env) (by simpa using hl)
            exact ps_set G.nd y1 y2 (sf_ok G.toFx h1) this y3
      · cases h
    case mu m i as =>
      unfold chkS at h
      split at h
      · rename_i y py nm ap args cp pos
        obtain ⟨hh, e2⟩ := E_ifSome h
        clear h
        subst e2
        simp only [Bool.and_eq_true, beq_iff_eq] at hh
        obtain ⟨⟨⟨h1, h2⟩, h3⟩, h4⟩ := hh
        obtain ⟨y1, y2, y3, y4⟩ := G.toFx.nm h2
        have hi : i ∈ O := by simpa using h1
        have hline : (ap.endLine == cp.line) = true := by rw [h3]; simp
        have e1 : evS Φ sub n (.mu m i as) = muF m i (evL Φ sub as) := by funext e; rw [evS]; rfl
        rw [e1]
        split at h4
        · simp only [Bool.and_eq_true, beq_iff_eq] at h4
          obtain ⟨⟨h5, h6⟩, h7⟩ := h4
          subst h5
          exact ss_mu (m := .append) (.inl rfl) hi y1 y2 y3 y4 h6 hline (soundL Φ sub as S X T W O G.toFx _ h7)
        · simp only [Bool.and_eq_true, beq_iff_eq] at h4
          obtain ⟨⟨h5, h6⟩, h7⟩ := h4
          subst h5
          exact ss_mu (m := .extend) (.inr rfl) hi y1 y2 y3 y4 h6 hline (soundL Φ sub as S X T W O G.toFx _ h7)
        · simp only [Bool.and_eq_true, beq_iff_eq] at h4
          obtain ⟨h5, h7⟩ := h4
          subst h5
          have e2 : evL Φ sub as = fun _ => .ok [] := by
            funext e
            cases as <;> first | (simp [chkL] at h7; done) | (rw [evL])
          rw [e2]
          exact ss_rev hi y1 y2 y3 y4 hline
        · cases h4
      · cases h
    case put i a b =>
      unfold chkS at h
      split at h
      · rename_i y py p tp q pos
        obtain ⟨hh, e2⟩ := E_ifSome h
        clear h
        subst e2
        simp only [Bool.and_eq_true] at hh
        obtain ⟨⟨⟨⟨h1, h2⟩, h3⟩, h4⟩, h5⟩ := hh
        obtain ⟨y1, y2, y3, y4⟩ := G.toFx.nm h2
        rw [show evS Φ sub n (.put i a b) = _ by funext e; rw [evS]]
        exact ss_put G.hu (by simpa using h1) y1 y2 y3 y4 h3 ((sound Φ sub a).se G.toFx h4) ((sound Φ sub b).se G.toFx h5)
      · cases h
    case aug o i c => unfold chkS at h; cases h
    case dnew i =>
      unfold chkS at h
      split at h
      · rename_i y py dp pos
        obtain ⟨hh, e2⟩ := E_ifSome h
        clear h
        subst e2
        simp only [Bool.and_eq_true, Bool.not_eq_true'] at hh
        obtain ⟨y1, y2, y3⟩ := G.toFx.sto hh.1
        rw [show evS Φ sub n (.dnew i) = _ by funext e; rw [evS]]
        exact ss_dnew G.nd y1 y2 y3 (by rw [G.pr]; simpa using hh.2)
      · cases h
    case dnew1 i k v =>
      unfold chkS at h
      split at h
      · rename_i y py p q dp pos
        obtain ⟨hh, e2⟩ := E_ifSome h
        clear h
        subst e2
        simp only [Bool.and_eq_true, Bool.not_eq_true'] at hh
        obtain ⟨⟨⟨h1, h2⟩, h3⟩, h4⟩ := hh
        obtain ⟨y1, y2, y3⟩ := G.toFx.sto h1
        rw [show evS Φ sub n (.dnew1 i k v) = _ by funext e; rw [evS]]
        exact ss_dnew1 G.nd y1 y2 y3 (by rw [G.pr]; simpa using h2) ((sound Φ sub k).se G.toFx h3) ((sound Φ sub v).se G.toFx h4)
      · cases h
    case fpop M t one a i b =>
      have hb := ih b (by simp at hsz; omega)
      unfold chkS at h
      split at h
      · rename_i tg x y py nm ap cp sp p pos
        obtain ⟨hh, e2⟩ := E_ifIn h
        clear h
        simp only [Bool.and_eq_true, beq_iff_eq] at hh
        obtain ⟨⟨⟨⟨⟨⟨⟨⟨⟨h1, h2⟩, h3⟩, h4⟩, h5⟩, h6⟩, h7⟩, h8⟩, h9⟩, h10⟩ := hh
        subst h7
        obtain ⟨y1, y2, y3, y4⟩ := G.toFx.nm h6
        rw [show evS Φ sub n (.fpop M t one a i b) = _ by funext e; rw [evS]]
        have body : ∀ (q : SSs X T W M M M p (evS Φ sub n b)), SS X T W O M L (.For tg (.Subscript x (.Call (.Attribute (.Name y py) "pop" ap) [] [] cp) sp) p [] pos) _ := fun q =>
          SS.inn (ss_fpop (G.po h1) (G.calm h2) ((sound Φ sub a).se G.toFx h4) (by simpa using h5) y1 y2 y3 y4 (by rw [h8]; simp) (pg_ok G.toFx h9) (disj_ok G.toFx h10) q) (subL_ok h3)
        split at e2
        · rename_i q
          cases e2
          exact body (hb.ls S X T W M M G p _ q M)
        · rename_i r' q
          obtain ⟨h11, e3⟩ := E_ifSome e2
          cases e3
          exact body (SSs.out (hb.ls S X T W M M G p _ q) (subL_ok h11))
        · cases e2
      · cases h
    case if_ c a b =>
      have ha := ih a (by simp at hsz; omega)
      have hb := ih b (by simp at hsz; omega)
      unfold chkS at h
      split at h
      · rename_i x p q pos
        obtain ⟨hh, e2⟩ := E_ifIn h
        clear h
        simp only [Bool.and_eq_true] at hh
        split at e2
        · rename_i r1 r2 q1 q2
          cases e2
          rw [show evS Φ sub n (.if_ c a b) = _ by funext e; rw [evS]]
          exact (meet_ok (ha.ls S X T W L O G p r1 q1) (hb.ls S X T W L O G q r2 q2)).imp fun O' ⟨z1, z2⟩ => ss_if ((sound Φ sub c).b S X T W O G.toFx x hh.1 hh.2) z1 z2
        · cases e2
      · cases h
    case while_ M c b =>
      have hb := ih b (by simp at hsz; omega)
      unfold chkS at h
      split at h
      · rename_i x p pos
        obtain ⟨hh, e2⟩ := E_ifIn h
        clear h
        simp only [Bool.and_eq_true] at hh
        obtain ⟨⟨⟨h1, h2⟩, h3⟩, h4⟩ := hh
        rw [show evS Φ sub n (.while_ M c b) = _ by funext e; rw [evS]]
        have body : ∀ (q : SSs X T W M M M p (evS Φ sub n b)), SS X T W O M L (.While x p [] pos) (fun e => whL (fun e => (ev Φ sub c e).bd truth) (evS Φ sub n b) n e) := fun q =>
          SS.inn (ss_while n (G.po h1) ((sound Φ sub c).b S X T W M G.toFx x h3 h4) q) (subL_ok h2)
        split at e2
        · rename_i q
          cases e2
          exact body (hb.ls S X T W M M G p _ q M)
        · rename_i r' q
          obtain ⟨h5, e3⟩ := E_ifSome e2
          cases e3
          exact body (SSs.out (hb.ls S X T W M M G p _ q) (subL_ok h5))
        · cases e2
      · cases h
    case for_ M t one it b =>
      have hb := ih b (by simp at hsz; omega)
      unfold chkS at h
      split at h
      · rename_i tg x p pos
        obtain ⟨hh, e2⟩ := E_ifIn h
        clear h
        simp only [Bool.and_eq_true] at hh
        obtain ⟨⟨⟨⟨⟨⟨h1, h2⟩, h3⟩, h4⟩, h5⟩, h6⟩, h7⟩ := hh
        have e1 : evS Φ sub n (.for_ M t one it b) = fun e => ((ev Φ sub it e).bd fun x => om (items x) .ok).out e fun l => forL (fun d e => omO (asg t one d e) (evS Φ sub n b)) l e := by funext e; rw [evS, out_items]
        rw [e1]
        have body : ∀ (q : SSs X T W M M M p (evS Φ sub n b)), SS X T W O M L (.For tg x p [] pos) (fun e => ((ev Φ sub it e).bd fun x => om (items x) .ok).out e fun l => forL (fun d e => omO (asg t one d e) (evS Φ sub n b)) l e) := fun q =>
          SS.inn (ss_for (G.po h1) (G.calm h2) (si_ok G.toFx (fun c _ => sound Φ sub c) h4) (pg_ok G.toFx h5) (disj_ok G.toFx h6) q (notSet_ok h7)) (subL_ok h3)
        split at e2
        · rename_i q
          cases e2
          exact body (hb.ls S X T W M M G p _ q M)
        · rename_i r' q
          obtain ⟨h8, e3⟩ := E_ifSome e2
          cases e3
          exact body (SSs.out (hb.ls S X T W M M G p _ q) (subL_ok h8))
        · cases e2
      · cases h
    case ret e =>
      unfold chkS at h
      split at h
      · obtain ⟨hh, e2⟩ := E_ifSome h
        clear h
        subst e2
        rw [show evS Φ sub n (.ret e) = _ by funext e; rw [evS]]
        exact fun O' => ss_ret ((sound Φ sub e).se G.toFx hh)
      · cases h
    case retN =>
      unfold chkS at h
      split at h
      · cases h
        rw [show evS Φ sub n .retN = _ by funext e; rw [evS]]
        exact fun O' => ss_retN
      · cases h
    case expr e =>
      unfold chkS at h
      split at h
      · obtain ⟨hh, e2⟩ := E_ifSome h
        clear h
        subst e2
        simp only [Bool.and_eq_true, Bool.not_eq_true'] at hh
        rw [show evS Φ sub n (.expr e) = _ by funext e; rw [evS]]
        exact ss_expr ((sound Φ sub e).se G.toFx hh.1) (swap_e hh.2)
      · cases h
    case raise c nm as =>
      unfold chkS at h
      split at h
      · rename_i f fp e es pos rp
        obtain ⟨hh, e2⟩ := E_ifSome h
        clear h
        subst e2
        simp only [Bool.and_eq_true, List.any_eq_true, beq_iff_eq] at hh
        obtain ⟨⟨⟨⟨⟨⟨⟨h1, h2⟩, h3⟩, ⟨p, hp, e4, e5⟩⟩, h5⟩, h6⟩, h7⟩, h8⟩ := hh
        rw [show evS Φ sub n (.raise c nm as) = _ by funext e; rw [evS]]
        have R := G.rs h1 p hp X (Core.refl X)
        rw [e4, e5] at R
        have hlen : (e :: es).length = (T.fl c).length := by
          cases q : S.fl[c]? with
          | none => rw [q] at h8; cases h8
          | some fs =>
            rw [q] at h8
            rw [G.fl c fs q]
            simpa using h8
        exact fun O' => ss_raise (G.calm h2) G.tk R (G.gl h3) h5 h6 (fun e' xs q => by rw [evL_len Φ sub as e' xs S O _ h7 q]; exact hlen) (soundL Φ sub as S X T W O G.toFx _ h7)
      · cases h
    case try_ b hd =>
      have hb := ih b (by simp at hsz; omega)
      have hh := ih hd (by simp at hsz; omega)
      unfold chkS at h
      split at h
      · rename_i body h0 hds pos
        obtain ⟨hq, e2⟩ := E_ifIn h
        clear h
        simp only [Bool.and_eq_true] at hq
        obtain ⟨⟨⟨⟨h1, h2⟩, h3⟩, h4⟩, h5⟩ := hq
        have hL : L = [] := by simpa using h3
        obtain ⟨f1, f2, f3⟩ := G.fr h1
        have e1 : evS Φ sub n (.try_ b hd) = tryF (evS Φ sub n b) (fun c l e => evH Φ sub n c l hd e) := by
          funext e
          rw [evS]
          unfold tryF
          cases evS Φ sub n b e <;> rfl
        rw [e1]
        split at e2
        · rename_i r0 q1
          cases e2
          refine ss_try f1 f2 G.nd G.tk (fun W' pn xe tk po => ?_) (hh.hd S X T W G h1 h5 _ h4) hL
          have g := hb.ls S (X.tr pn xe) T W' L O (G.tr h1 h2 tk po) body r0 q1
          cases r0 with
          | none => exact g []
          | some O1 => exact SSs.out g (by simp)
        · cases e2
      · cases h
    case brk =>
      unfold chkS at h
      split at h
      · obtain ⟨hh, e2⟩ := E_ifSome h
        clear h
        subst e2
        rw [show evS Φ sub n .brk = _ by funext e; rw [evS]]
        exact fun O' => ss_brk (subL_ok hh)
      · cases h
    case cont =>
      unfold chkS at h
      split at h
      · obtain ⟨hh, e2⟩ := E_ifSome h
        clear h
        subst e2
        rw [show evS Φ sub n .cont = _ by funext e; rw [evS]]
        exact fun O' => ss_cont (subL_ok hh)
      · cases h
theorem soundS (s : E.S) : Ps Φ sub n s := ps_sound _ s (Nat.lt_succ_self _)
theorem stos_of {S : Scp} {X : Cx} {T : Tb} {W : WX} {Ca : Addr} (F : Fx X T W Φ sub S) : ∀ (fl : List Str) (as : C) (ss : List Stmt), (∀ f ∈ fl, NoAttr X.K Ca f) → chkSt S fl as ss = true → Stos X T W Ca fl ss (evL Φ sub as)
  | [], as, ss, _, h => by
    cases as <;> cases ss <;> first | (cases h; done) | skip
    rw [show evL Φ sub .nil = fun _ => .ok [] by funext e; rw [evL]]
    exact .nil
  | f :: fl, as, ss, hn, h => by
    cases as <;> cases ss <;> first | (cases h; done) | skip
    rename_i a r st ss
    simp only [chkSt, Bool.and_eq_true] at h
    obtain ⟨h1, h2⟩ := h
    cases q : stoSt st with
    | none => rw [q] at h1; cases h1
    | some z =>
      obtain ⟨s, f', x⟩ := z
      rw [q] at h1
      simp only [Bool.and_eq_true, beq_iff_eq, Bool.not_eq_true'] at h1
      obtain ⟨⟨⟨a1, a2⟩, a3⟩, a4⟩ := h1
      subst a2
      obtain ⟨p1, p2, p3, e⟩ := stoSt_inv q
      subst e
      obtain ⟨y1, y2, y3, y4⟩ := F.nm a1
      rw [show evL Φ sub (.cons a r) = _ by funext e; rw [evL]]
      exact .cons (pe_var y1 y2 y3 y4) (hn _ List.mem_cons_self) ((sound Φ sub a).se F a4) (by cases x <;> first | rfl | cases a3) (stos_of F fl r ss (fun g hg => hn g (List.mem_cons_of_mem _ hg)) h2)
/-- statements, then others -/
theorem ls_app {S : Scp} {X : Cx} {T : Tb} {W : WX} {L : List Nat} (G : Gx X T W Φ sub S) {ss : List Stmt} {u : TS} (hu : PSs X ss u) : ∀ (bs : List Stmt) (b : E.S) (O : List Nat) (r : Option (List Nat)), chkSs S L b O bs = some r →
    good r fun O' => PSs X (bs ++ ss) (fun D σ H => cS X T W O O' L (evS Φ sub n b) { D with nx := fun σ H => u D σ H } σ H)
  | [], b, O, r, h => by
    cases b <;> simp only [chkSs] at h <;> cases h
    rw [show evS Φ sub n .skip = .nx by funext e; rw [evS]]
    exact PSs.weak hu fun D σ H ⟨G0, H0, Gs, G', e, rl, gs, p⟩ => p σ H G' rl gs
  | st :: rest, b, O, r, h => by
    cases b <;> simp only [chkSs] at h <;> try (cases h; done)
    rename_i a b
    have e1 : evS Φ sub n (.seq a b) = seqO (evS Φ sub n a) (evS Φ sub n b) := by funext e; rw [evS]; rfl
    rw [e1]
    have one : ∀ (O1 O' : List Nat) (h1 : SS X T W O O1 L st (evS Φ sub n a)) (g : Env → Out) (h2 : PSs X (rest ++ ss) (fun D σ H => cS X T W O1 O' L g { D with nx := fun σ H => u D σ H } σ H)),
        PSs X (st :: rest ++ ss) (fun D σ H => cS X T W O O' L (seqO (evS Φ sub n a) g) { D with nx := fun σ H => u D σ H } σ H) := fun O1 O' h1 g h2 =>
      PSs.weak (pss_cons h1 h2) fun D σ H ⟨G0, H0, Gs, G', e, rl, gs, p⟩ => by
        refine ⟨G0, H0, Gs, G', e, rl, gs, ?_⟩
        unfold seqO at p
        cases q : evS Φ sub n a e with
        | nx e' =>
          rw [q] at p
          exact fun σ' H' G'' r' gs' => ⟨G0, H0, Gs, G'', e', r', gs', p⟩
        | rt d => rw [q] at p; exact p
        | bk e' => rw [q] at p; exact p
        | ct e' => rw [q] at p; exact p
        | ex e' c l => rw [q] at p; exact p
        | bad => rw [q] at p; exact p
    split at h
    · rename_i O1 q
      have h1 := (soundS (Φ := Φ) (sub := sub) (n := n) a).st S X T W L O G st _ q
      exact (ls_app G hu rest b O1 r h).imp fun O' h2 => one O1 O' h1 _ h2
    · rename_i q
      have h1 := (soundS (Φ := Φ) (sub := sub) (n := n) a).st S X T W L O G st _ q
      split at h
      · cases h
        intro O'
        rw [show evS Φ sub n .skip = .nx by funext e; rw [evS]]
        refine one O' O' (h1 O') _ ?_
        exact PSs.weak hu fun D σ H ⟨G0, H0, Gs, G', e, rl, gs, p⟩ => p σ H G' rl gs
      · cases h
    · cases h
end
end E

set_option autoImplicit false
set_option linter.all false
set_option Elab.async false
set_option maxRecDepth 100000
/-! E22: a def of the program, from what the top has written. -/
namespace E
open PySem PySem.Spec PyProof.Rows L2

structure FnR (P : Program) (w : World) (K : PySem.W.Frag) (mg : Str → Option Value) (base : Heap) (T : Tb) (F : List D → Res D) (k : Nat) (x : Str) (n : Nat) : Prop where
  ex : ∃ (j : Nat) (f : Addr) (fd : FuncData) (ps : List Str), j ≤ k ∧ FnOk P w K mg base (L2N.CX P w) j f fd ps (spOf T K F n) ∧ mg x = some (.ref f) ∧ PySem.W.keepIn K (.ref f) = true ∧ Binds K fd ps [] ∧ (x == ("__debug__" : Str)) = false
/-- a call of x does what F says, in every context with this much room -/
def CalR (P : Program) (w : World) (K : PySem.W.Frag) (mg : Str → Option Value) (base : Heap) (T : Tb) (F : List D → Res D) (k : Nat) (x : Str) (n : Nat) : Prop :=
  ∀ (X' : Cx) (W' : WX) (T' : Tb), T.ca = T'.ca → T.fl = T'.fl → X'.prog = P → X'.w = w → X'.K = K → X'.mg = mg → X'.base = base → Room k X'.A → L2N.Takes X' W' → CallOk X' T' W' F x n
/-- a plain class -/
structure MkR (P : Program) (w : World) (K : PySem.W.Frag) (mg : Str → Option Value) (base : Heap) (T : Tb) (F : List D → Res D) (k : Nat) (x : Str) (n : Nat) : Prop where
  ex : ∃ (j : Nat) (C f : Addr) (fd : FuncData) (ps : List Str), j + 1 ≤ k ∧ Mk K C f ∧ FnOk P w K mg base (L2N.CX P w) j f fd ps (spI T K C F n) ∧ mg x = some (.ref C) ∧ Binds K fd ps [] ∧ (x == ("__debug__" : Str)) = false ∧ n ≠ 0
structure FnRH (P : Program) (w : World) (K : PySem.W.Frag) (mg : Str → Option Value) (base : Heap) (T : Tb) (F : List D → Res D) (k : Nat) (x : Str) (n : Nat) : Prop where
  ex : ∃ (j : Nat) (f : Addr) (fd : FuncData) (ps : List Str), j ≤ k ∧ L2H.FnH P w K mg base (L2N.CX P w) j f fd ps (spOf T K F n) ∧ mg x = some (.ref f) ∧ PySem.W.keepIn K (.ref f) = true ∧ Binds K fd ps [] ∧ (x == ("__debug__" : Str)) = false
structure RsR (P : Program) (w : World) (K : PySem.W.Frag) (mg : Str → Option Value) (base : Heap) (T : Tb) (k : Nat) (x : Str) (c : Nat) : Prop where
  ex : ∃ (j : Nat) (f : Addr) (fd : FuncData) (ps : List Str), j + 1 ≤ k ∧ OexC K (T.ca c) ∧ PySem.W.findIn K (.ref (T.ca c)) "__init__" = some (some (.ref f)) ∧ PySem.W.typeIn K (.ref f) = some (.type "function") ∧ FnOk P w K mg base CX0 j f fd ps (spInit (T.ca c) (T.fl c)) ∧ Binds K fd ps [] ∧ mg x = some (.ref (T.ca c)) ∧ (x == ("__debug__" : Str)) = false ∧ (T.fl c).Nodup ∧ (T.fl c).length ≤ 900
structure NmR (K : PySem.W.Frag) (mg : Str → Option Value) (T : Tb) (sub : Nat → Nat → Option Bool) (x : Str) (k : Nat) : Prop where
  ex : ∃ cv v, RelV v cv ∧ (∀ u, RelV v u → u = cv) ∧ (x == ("__debug__" : Str)) = false ∧ (mg x = some cv ∨ (mg x = none ∧ bootBuiltins x = some cv ∧ x ≠ "__name__")) ∧
    ∀ c b, sub c k = some b → PySem.W.kitOne K (.ref (T.ca c)) cv = some b ∧ PySem.W.exmOne K (.ref (T.ca c)) cv = some b
/-- what is known of the module at one def -/
structure MF (P : Program) (w : World) (K : PySem.W.Frag) (mg : Str → Option Value) (base : Heap) (T : Tb) (Φ : Nat → List D → Res D) (sub : Nat → Nat → Option Bool) (S : Scp) (k : Nat) : Prop where
  z : (∀ G, T.z G) ∧ (∀ e σ, T.ze e σ) ∧ T.pr = []
  sS : S.calm = true ∧ S.stm = true ∧ S.ex = none ∧ S.pr = []
  bi : ∀ x ∈ bnames, mg x = none
  glb : ∀ p ∈ S.glb, ∃ v u, mg p.1 = some u ∧ RelV v u ∧ ∀ G, Rep T K G p.2 v
  fl : ∀ c fs, S.fl[c]? = some fs → T.fl c = fs
  ins : ∀ c ∈ S.ics, ClsOk K (T.ca c) (T.fl c)
  fn : ∀ p ∈ S.fns, CalR P w K mg base T (Φ p.1) k p.2.1 p.2.2
  hot : ∀ p ∈ S.hot, FnRH P w K mg base T (Φ p.1) k p.2.1 p.2.2
  rs : ∀ p ∈ S.xcs, RsR P w K mg base T k p.1 p.2
  cn : ∀ q ∈ S.cn, NmR K mg T sub q.1 q.2
  xf : ∀ c j b, sub c j = some b → ExcF K T c
section
variable {P : Program} {w : World} {K : PySem.W.Frag} {mg : Str → Option Value} {base : Heap} {T : Tb} {Φ : Nat → List D → Res D} {sub : Nat → Nat → Option Bool} {S : Scp} {k : Nat}
theorem FnR.ok {F : List D → Res D} {x : Str} {n : Nat} (R : FnR P w K mg base T F k x n) {X' : Cx} {W' : WX} (h1 : X'.prog = P) (h2 : X'.w = w) (h3 : X'.K = K) (h4 : X'.mg = mg) (h5 : X'.base = base) (hr : Room k X'.A) (tk : L2N.Takes X' W') : CallOk X' T W' F x n := by
  obtain ⟨j, f, fd, ps, hj, Fn, hm, hk, hb, hd⟩ := R.ex
  subst h1 h2 h3 h4 h5
  exact callOk Fn rfl rfl (hr.mono hj) hm hk hb tk hd
theorem FnR.cal {F : List D → Res D} {x : Str} {n : Nat} (R : FnR P w K mg base T F k x n) : CalR P w K mg base T F k x n := fun X' W' T' t1 t2 h1 h2 h3 h4 h5 hr tk => by
  obtain ⟨j, f, fd, ps, hj, Fn, hm, hk, hb, hd⟩ := R.ex
  subst h1 h2 h3 h4 h5
  exact callOk Fn t1 t2 (hr.mono hj) hm hk hb tk hd
theorem MkR.cal {F : List D → Res D} {x : Str} {n : Nat} (R : MkR P w K mg base T F k x n) : CalR P w K mg base T F k x n := fun X' W' T' t1 t2 h1 h2 h3 h4 h5 hr tk => by
  obtain ⟨j, C, f, fd, ps, hj, M, Fn, hm, hb, hd, hn⟩ := R.ex
  subst h1 h2 h3 h4 h5
  exact mkOk M Fn t1 t2 hn (hr.mono hj) hm hb tk hd
theorem FnRH.ok {F : List D → Res D} {x : Str} {n : Nat} (R : FnRH P w K mg base T F k x n) {X' : Cx} {W' : WX} {T' : Tb} (t1 : T.ca = T'.ca) (t2 : T.fl = T'.fl) (h1 : X'.prog = P) (h2 : X'.w = w) (h3 : X'.K = K) (h4 : X'.mg = mg) (h5 : X'.base = base) (hr : L2H.RoomH k X'.A) (hh : L2H.HotC X') (tk : L2N.Takes X' W') : CallOk X' T' W' F x n := by
  obtain ⟨j, f, fd, ps, hj, Fn, hm, hk, hb, hd⟩ := R.ex
  subst h1 h2 h3 h4 h5
  exact callOkH Fn t1 t2 (hr.mono hj) hh hm hk hb tk hd
theorem RsR.ok {x : Str} {c : Nat} (R : RsR P w K mg base T k x c) {X' : Cx} (h1 : X'.prog = P) (h2 : X'.w = w) (h3 : X'.K = K) (h4 : X'.mg = mg) (h5 : X'.base = base) (hr : Room k X'.A) : RaiseOk X' T x c := by
  obtain ⟨j, f, fd, ps, hj, Tc, iC, tI, F1, hb, hm, hd, nd, len⟩ := R.ex
  subst h1 h2 h3 h4 h5
  exact raiseOk Tc iC tI F1 (hr.mono hj) hb hm hd nd len
theorem gx_of (M : MF P w K mg base T Φ sub S k) {qual : Str} {st : Stmt} {f : Addr} {cdv : Value} {A : Around} {outer : List PySem.Env} {s : Shared} {H : Hp} {E' : XK} (hnd : S.N.Nodup) (hsc : S.sc = defScope st) (hraw : S.raw = defScope st) (hkd : (defScope st).kind = .function)
    (hr : Room k (A.deeper (envOfC qual (defScope st) s.heap.objs.size f cdv))) : Gx (cxOf (L2N.CX P w) P w K mg base S.N qual (defScope st) f cdv A outer s H E') T (fun cls d _ H => E' cls d H) Φ sub S where
  hN := rfl
  nd := hnd
  sc := hsc.symm
  stl := fun x h => by rw [hraw] at h; rw [hsc]; exact h
  stc := fun x h => ⟨rfl, by rw [hraw] at h; rw [hsc]; exact h⟩
  calm := fun _ => rfl
  hu := by
    have := hr.un
    show (A.deeper _).units + 65 < cLine
    omega
  bi := M.bi
  glb := M.glb
  fl := M.fl
  ins := M.ins
  fn := fun p hp X' W' c t => M.fn p hp X' W' T rfl rfl c.prog c.w c.K c.mg c.base (by rw [c.A]; exact hr) t
  tk := L2N.takes_of rfl rfl rfl rfl
  pr := by rw [M.z.2.2, M.sS.2.2.2]
  efl := fun i nm h => by rw [M.sS.2.2.1] at h; cases h
  eis := fun i nm h => by rw [M.sS.2.2.1] at h; cases h
  po := fun _ => passes_of rfl
  fr := fun _ => ⟨rfl, rfl, by show (if (defScope st).kind.isAnnotationScope then _ else (defScope st).kind) = _; rw [hkd]; rfl⟩
  rs := fun _ p hp X' c => (M.rs p hp).ok c.prog c.w c.K c.mg c.base (by rw [c.A]; exact hr)
  cn := fun q hq => ⟨(M.cn q hq).ex⟩
  zt := fun _ => ⟨M.z.1, M.z.2.1⟩
  nx := fun _ => M.sS.2.2.1
  su := fun _ i y a oe od pn c l hz hf ⟨j, b, hb⟩ => {
    hN := rfl
    nd := hnd
    sc := hsc.symm
    stl := fun x h => by
      have h : S.raw.names.lookup x = some .local := h
      show S.sc.names.lookup x = _
      rw [hraw] at h; rw [hsc]; exact h
    stc := fun x h => ⟨rfl, by
      have h : S.raw.names.lookup x = some .cell := h
      show S.sc.names.lookup x = _
      rw [hraw] at h; rw [hsc]; exact h⟩
    calm := fun h => by cases h
    hu := by
      have := hr.un
      show (A.deeper (envOfC qual (defScope st) s.heap.objs.size f cdv)).units + 65 < cLine
      omega
    bi := M.bi
    glb := fun p hp => by
      obtain ⟨v, u, h1, h2, h3⟩ := M.glb p hp
      exact ⟨v, u, h1, h2, fun G => rep_T (T := T) (T' := suT T K i a c l od) rfl rfl _ _ (h3 G)⟩
    fl := M.fl
    ins := M.ins
    fn := fun p hp X' W' c t => (M.hot p hp).ok (T' := suT T K i a _ l od) rfl rfl c.prog c.w c.K c.mg c.base (by rw [c.A]; exact L2H.roomH_mark hr _) (by
      obtain ⟨vs, e⟩ := hf
      refine ⟨(a, oe), ⟨by rw [c.A]; rfl, vs, e, hz.2.2 vs e⟩, ?_⟩
      rcases c.pn with z | z
      · exact Bool.noConfusion (show false = true from z)
      · exact z _ List.mem_cons_self) t
    tk := fun u s' x => by
      obtain ⟨a, B, sI, pins, σ, H, cls, d, e, I, nb, up, sky, na, os, ag, w⟩ := x
      exact w.elim
    pr := rfl
    efl := fun i' nm h O c' j f p pos hj hv hN hn => by
      cases h
      unfold ndb at hn
      simp only [Bool.and_eq_true, Bool.not_eq_true'] at hn
      exact se_efld (M.xf c _ b hb) hj hz.zc hf hN hv hn.1 hn.2
    eis := fun i' nm h q hq O p p2 p3 pos hv hN hn hg hgx => by
      cases h
      unfold ndb at hn
      simp only [Bool.and_eq_true, Bool.not_eq_true'] at hn
      exact se_eisi (X := cxOf (L2N.CX P w) P w K mg base S.N qual (defScope st) f cdv A outer s H E') (M.xf c _ b hb) ⟨(M.cn q hq).ex⟩ hz.zc hf hN hv hn.1 hn.2 hg (M.bi _ (by decide)) hgx }
theorem fn_bad {f : Addr} {fd : FuncData} {ps : List Str} {n : Nat} (h : ps.length = n) : FnOk P w K mg base (L2N.CX P w) 0 f fd ps (spOf T K (fun _ => .bad) n) where
  len := fun vs H Q E q => by rw [h]; exact q.1
  run := fun A outer s H args us vs Q E hr e0 hb r ⟨_, _, _, _, _, p⟩ => p.elim
/-- the def's word, from the check -/
theorem def_ok {x qual : Str} {st : Stmt} {f : Addr} {fd : FuncData} {ps : List Str} {n : Nat} {b : E.S} {r : Option (List Nat)} (M : MF P w K mg base T Φ sub S k) (F : Fun K x qual st f fd) (SC : FnScope S.N ps (defScope st)) (hsc : S.sc = defScope st) (hraw : S.raw = defScope st)
    (h : chkSs S [] b [] (defBody st) = some r) : FnOk P w K mg base (L2N.CX P w) (k + 1) f fd ps (spOf T K (run Φ sub n S.N.length b) ps.length) :=
  fn_body F SC M.z.1 M.z.2.1 M.z.2.2 rfl fun cdv A outer s H E' hr => by
    have g := (soundS (Φ := Φ) (sub := sub) (n := n) b).ls S _ T _ [] [] (gx_of M (qual := qual) (f := f) (cdv := cdv) (s := s) (outer := outer) (H := H) (E' := E') SC.nd hsc hraw SC.kind hr) (defBody st) r h
    cases r with
    | none => exact g []
    | some O1 => exact SSs.out g (by simp)
/-- the scope of a def that is called within a suite -/
def hotS (S : Scp) : Scp := { S with calm := false, stm := false, tr := false, fns := S.hot }
theorem gx_ofH (M : MF P w K mg base T Φ sub S k) {qual : Str} {st : Stmt} {f : Addr} {cdv : Value} {A : Around} {outer : List PySem.Env} {s : Shared} {H : Hp} {E' : XK} {p0 : Addr × Obj} (hnd : S.N.Nodup) (hsc : S.sc = defScope st) (hraw : S.raw = defScope st)
    (h0 : L2H.Hot1 A p0) (hr : L2H.RoomH k (A.deeper (envOfC qual (defScope st) s.heap.objs.size f cdv))) : Gx (L2H.cxH (L2N.CX P w) P w K mg base S.N qual (defScope st) f cdv A outer s H E' p0) T (fun cls d _ H => E' cls d H) Φ sub (hotS S) where
  hN := rfl
  nd := hnd
  sc := hsc.symm
  stl := fun x h => by
    have h : S.raw.names.lookup x = some .local := h
    show S.sc.names.lookup x = _
    rw [hraw] at h; rw [hsc]; exact h
  stc := fun x h => ⟨rfl, by
    have h : S.raw.names.lookup x = some .cell := h
    show S.sc.names.lookup x = _
    rw [hraw] at h; rw [hsc]; exact h⟩
  calm := fun h => by cases h
  hu := by
    have := hr.un
    show (A.deeper _).units + 65 < cLine
    omega
  bi := M.bi
  glb := M.glb
  fl := M.fl
  ins := M.ins
  fn := fun p hp X' W' c t => (M.hot p hp).ok (T' := T) rfl rfl c.prog c.w c.K c.mg c.base (by rw [c.A]; exact hr) (by
    refine ⟨p0, ⟨by rw [c.A]; exact h0.1, h0.2⟩, ?_⟩
    rcases c.pn with z | z
    · exact Bool.noConfusion (show false = true from z)
    · exact z _ List.mem_cons_self) t
  tk := L2N.takes_of rfl rfl rfl rfl
  pr := by show T.pr = S.pr; rw [M.z.2.2, M.sS.2.2.2]
  efl := fun i nm h => by
    have h : S.ex = some (i, nm) := h
    rw [M.sS.2.2.1] at h; cases h
  eis := fun i nm h => by
    have h : S.ex = some (i, nm) := h
    rw [M.sS.2.2.1] at h; cases h
  po := fun h => by cases h
  fr := fun h => by cases h
  rs := fun h => by cases h
  cn := fun q hq => ⟨(M.cn q hq).ex⟩
  zt := fun h => by cases h
  nx := fun h => by cases h
  su := fun h => by cases h
theorem def_okH {x qual : Str} {st : Stmt} {f : Addr} {fd : FuncData} {ps : List Str} {n : Nat} {b : E.S} {r : Option (List Nat)} (M : MF P w K mg base T Φ sub S k) (F : Fun K x qual st f fd) (SC : FnScope S.N ps (defScope st)) (hsc : S.sc = defScope st) (hraw : S.raw = defScope st)
    (h : chkSs (hotS S) [] b [] (defBody st) = some r) : L2H.FnH P w K mg base (L2N.CX P w) (k + 1) f fd ps (spOf T K (run Φ sub n S.N.length b) ps.length) :=
  fn_bodyH F SC M.z.1 M.z.2.1 M.z.2.2 rfl fun cdv A outer s H E' p0 h0 hr => by
    have g := (soundS (Φ := Φ) (sub := sub) (n := n) b).ls (hotS S) _ T _ [] [] (gx_ofH M (qual := qual) (f := f) (cdv := cdv) (s := s) (outer := outer) (H := H) (E' := E') SC.nd hsc hraw h0 hr) (defBody st) r h
    cases r with
    | none => exact g []
    | some O1 => exact SSs.out g (by simp)
/-! ### __init__ of a plain class -/
def iniS (S : Scp) : Scp := { S with pr := [0], tr := false }
theorem gx_ofI (M : MF P w K mg base T Φ sub S k) {qual : Str} {st : Stmt} {f : Addr} {cdv : Value} {A : Around} {outer : List PySem.Env} {s : Shared} {H : Hp} {E' : XK} (a : Addr) (hnd : S.N.Nodup) (hsc : S.sc = defScope st) (hraw : S.raw = defScope st) (hkd : (defScope st).kind = .function)
    (hr : Room k (A.deeper (envOfC qual (defScope st) s.heap.objs.size f cdv))) : Gx (cxOf (L2N.CX P w) P w K mg base S.N qual (defScope st) f cdv A outer s H E') (inT T a) (fun cls d _ H => E' cls d H) Φ sub (iniS S) where
  hN := rfl
  nd := hnd
  sc := hsc.symm
  stl := fun x h => by
    have h : S.raw.names.lookup x = some .local := h
    show S.sc.names.lookup x = _
    rw [hraw] at h; rw [hsc]; exact h
  stc := fun x h => ⟨rfl, by
    have h : S.raw.names.lookup x = some .cell := h
    show S.sc.names.lookup x = _
    rw [hraw] at h; rw [hsc]; exact h⟩
  calm := fun _ => rfl
  hu := by
    have := hr.un
    show (A.deeper _).units + 65 < cLine
    omega
  bi := M.bi
  glb := fun p hp => by
    obtain ⟨v, u, h1, h2, h3⟩ := M.glb p hp
    exact ⟨v, u, h1, h2, fun G => rep_T (T := T) (T' := inT T a) rfl rfl _ _ (h3 G)⟩
  fl := M.fl
  ins := M.ins
  fn := fun p hp X' W' c t => M.fn p hp X' W' (inT T a) rfl rfl c.prog c.w c.K c.mg c.base (by rw [c.A]; exact hr) t
  tk := L2N.takes_of rfl rfl rfl rfl
  pr := rfl
  efl := fun i nm h => by
    have h : S.ex = some (i, nm) := h
    rw [M.sS.2.2.1] at h; cases h
  eis := fun i nm h => by
    have h : S.ex = some (i, nm) := h
    rw [M.sS.2.2.1] at h; cases h
  po := fun _ => passes_of rfl
  fr := fun _ => ⟨rfl, rfl, by show (if (defScope st).kind.isAnnotationScope then _ else (defScope st).kind) = _; rw [hkd]; rfl⟩
  rs := fun _ p hp X' c => by
    have R := (M.rs p hp).ok (X' := X') c.prog c.w c.K c.mg c.base (by rw [c.A]; exact hr)
    exact ⟨R.pm, R.nd, R.len⟩
  cn := fun q hq => ⟨(M.cn q hq).ex⟩
  zt := fun h => by cases h
  nx := fun _ => M.sS.2.2.1
  su := fun h => Bool.noConfusion (show false = true from h)
theorem run_start {N : List Str} {a : Addr} {ds : List D} {us : List V} {G H H1 : Hp} {dx C : Addr} {n : Nat} (hn : n = N.length) (sm : Same G H1) (hz : ∀ G, T.z G) (h1 : H1 a = none) (h2 : H1 dx = none) (eH : H = upd (upd H1 dx (.own a)) a (.ins C dx [])) (hne : dx ≠ a) (r : RepL T K G ds us) :
    Rel (inT T a) K [] G H (L2.start N (.ref a :: us)) H G (none :: (ds.map some ++ List.replicate (n - (ds.length + 1)) none)) ∧ Since H1 G H G a dx := by
  have hs : ∀ b o, H1 b = some o → H b = some o := fun b o z => by
    have b1 : b ≠ a := fun q => by rw [q, h1] at z; cases z
    have b2 : b ≠ dx := fun q => by rw [q, h2] at z; cases z
    rw [eH, upd_ne b1, upd_ne b2]
    exact z
  have sH : Same G H := fun b o z => hs b o (sm b o z)
  refine ⟨{ x := .refl sH, s0 := sH, z := hz _, ze := rfl, po := fun i _ h => by simp at h, len := ?_, val := fun i d h _ => ?_, own := fun i h => by simp at h, dis := fun i h => by simp at h }, hs, .refl _, sH, fun b _ h => h, Same.none sm h1, Same.none sm h2, by rw [eH, upd_ne hne, upd_same]⟩
  · unfold L2.start
    subst hn
    simp [r.length]
  · cases i with
    | zero => simp at h
    | succ i =>
      by_cases hi : i < ds.length
      · rw [List.getElem?_cons_succ, List.getElem?_append_left (by simpa using hi), List.getElem?_map] at h
        cases q : ds[i]? with
        | none => rw [q] at h; cases h
        | some d' =>
          rw [q] at h
          cases h
          obtain ⟨v, e1, e2⟩ := r.get q
          refine ⟨v, ?_, rep_T (T := T) (T' := inT T a) rfl rfl _ _ e2⟩
          unfold L2.start
          rw [List.map_cons, List.cons_append, List.getElem?_cons_succ, List.getElem?_append_left (by rw [List.length_map, ← r.length]; exact hi), List.getElem?_map, e1]
          rfl
      · rw [List.getElem?_cons_succ, List.getElem?_append_right (by simp; omega), List.getElem?_replicate] at h
        split at h <;> cases h
/-- __init__'s word, from the check -/
theorem initI_ok {x qual : Str} {st : Stmt} {f : Addr} {fd : FuncData} {ps : List Str} {n m c : Nat} {b : E.S} {as : C} {bs ss : List Stmt} {r : Option (List Nat)} (M : MF P w K mg base T Φ sub S k) (F : Fun K x qual st f fd) (SC : FnScope S.N ps (defScope st)) (hsc : S.sc = defScope st) (hraw : S.raw = defScope st)
    (hps : ps.length = m + 1) (hbody : defBody st = bs ++ ss) (h : chkSs (iniS S) [] b [] bs = some r) (hst : chkSt (iniS S) (T.fl c) as ss = true) (cl : ClsOk K (T.ca c) (T.fl c)) (hlen : (T.fl c).length ≤ 900) :
    FnOk P w K mg base (L2N.CX P w) (k + 1) f fd ps (spI T K (T.ca c) (runI Φ sub n S.N.length c b as) m) :=
  okN F SC (fun vs H Q E h => by rw [hps]; exact h.1) fun cdv A outer s H vs Q E hr ⟨hl, H1, G, ds, a, dx, us, ev, eH, h1, h2, hne, sm, rds, p⟩ => by
    have GX := gx_ofI M (qual := qual) (f := f) (cdv := cdv) (s := s) (outer := outer) (H := H) (E' := E) a SC.nd hsc hraw SC.kind hr
    have T1 := stos_ok (a := a) cl.cl (fun e σ q => q) (stos_of (T := inT T a) GX.toFx (T.fl c) as ss cl.na hst)
    have T2 := ls_app (n := n) GX T1 bs b [] r h
    have key : ∃ O', PSs (cxOf (L2N.CX P w) P w K mg base S.N qual (defScope st) f cdv A outer s H E) (defBody st) (fun D σ H' => cS (cxOf (L2N.CX P w) P w K mg base S.N qual (defScope st) f cdv A outer s H E) (inT T a) (fun cls d _ H => E cls d H) [] O' [] (evS Φ sub n b)
        { D with nx := fun σ H' => tSto (cxOf (L2N.CX P w) P w K mg base S.N qual (defScope st) f cdv A outer s H E) (inT T a) (fun cls d _ H => E cls d H) (T.ca c) a (T.fl c) (evL Φ sub as) D σ H' } σ H') := by
      rw [hbody]
      cases r with
      | none => exact ⟨[], T2 []⟩
      | some O1 => exact ⟨O1, T2⟩
    obtain ⟨O', key⟩ := key
    refine ⟨_, key, ?_⟩
    subst ev
    obtain ⟨r0, s0⟩ := run_start (T := T) (K := K) (N := S.N) (n := S.N.length) rfl sm M.z.1 h1 h2 eH hne rds
    have ha0 : H a = some (.ins (T.ca c) dx []) := by rw [eH, upd_same]
    refine ⟨G, H, G, G, _, r0, Same.refl _, ?_⟩
    unfold runI at p
    cases q : evS Φ sub n b (none :: (ds.map some ++ List.replicate (S.N.length - (ds.length + 1)) none)) with
    | nx e' =>
      rw [q] at p
      intro σ' H' G' r' gs
      obtain ⟨G2, s2, r2⟩ := r'.weaken (O' := []) (by simp)
      have x2 : Ext H G H' G2 := r2.x
      have ha' := x2.h _ _ ha0
      have sc := s0.ext x2 ⟨_, ha0⟩
      refine ⟨H1, G, G2, dx, [], [], e', r2.reset rfl, sc, h1, hne, ha', .nil, cl.nd, hlen, ?_⟩
      replace p : PostG T K (RV T K) (fun c d _ H => E c d H) [] H1 G ((evL Φ sub as e').bd fun l => .ok (.ins c l)) (fun v H2 => v = .ref a → Q .non H2) := p
      cases q2 : evL Φ sub as e' with
      | bad => rw [q2] at p; exact p
      | err c' ld =>
        rw [q2] at p
        exact fun od H'' G'' sc2 ea => p od H'' G'' sc2.toExt (exc_T (T := inT T a) (T' := T) rfl rfl ea)
      | ok rest =>
        rw [q2] at p
        intro H'' G'' fs sc2 ha2 en rl
        have sg : Same G'' (upd G'' a (.ins (T.ca c) dx fs)) := same_new sc2.ga
        refine p (.ref a) H'' (upd G'' a (.ins (T.ca c) dx fs)) ⟨sc2.h, sc2.g.trans sg, fun b' u z => ?_, fun b' z1 z2 => ?_⟩ ?_ rfl
        · by_cases hb : b' = a
          · rw [hb, upd_same] at z; rw [hb, ha2]; exact z
          · rw [upd_ne hb] at z; exact sc2.s _ _ z
        · have hb : b' ≠ a := fun e => z1 (by rw [e]; exact h1)
          rw [upd_ne hb]; exact sc2.n b' z1 z2
        · show Rep T K _ (.ins c rest) (.ref a)
          simp only [Rep]
          exact ⟨a, dx, fs, rfl, upd_same, by simpa using en, repL_T (T := inT T a) (T' := T) (K := K) rfl rfl rest _ (rl.mono sg)⟩
    | rt d => rw [q] at p; exact p.elim
    | bk e' => rw [q] at p; exact p.elim
    | ct e' => rw [q] at p; exact p.elim
    | bad => rw [q] at p; exact p.elim
    | ex e' c' l =>
      rw [q] at p
      exact fun od σ' H' G' r' gs ea => p od H' G' (s0.ext r'.x ⟨_, ha0⟩).toExt (exc_T (T := inT T a) (T' := T) rfl rfl ea)
theorem sub_kit {C D : Addr} {b : Bool} (h : PySem.W.subIn K (.ref C) (.ref D) = some b) (hs : PySem.W.subIn K (.ref C) (.ref C) = some true) (hD : (PySem.W.clsIn K D).isSome = true) (tD : PySem.W.typeIn K (.ref D) = some (.type "type")) (eD : PySem.W.subIn K (.ref D) (.type "BaseException") = some true) :
    PySem.W.kitOne K (.ref C) (.ref D) = some b ∧ PySem.W.exmOne K (.ref C) (.ref D) = some b := by
  have kc : PySem.W.kitCls K (.ref C) (.ref D) = some b := by
    show (if ((PySem.W.clsIn K D).isSome && PySem.W.typeIn K (.ref D) == some (.type "type")) = true then PySem.W.subIn K (.ref C) (.ref D) else none) = some b
    rw [hD, tD]
    exact h
  refine ⟨?_, by unfold PySem.W.exmOne; rw [eD]; exact kc⟩
  unfold PySem.W.kitOne
  split
  · rename_i q
    have e : C = D := Value.ref.inj (beq_iff_eq.mp q)
    subst e
    rw [hs] at h
    exact h
  · exact kc
end
theorem look_in {α β : Type} [BEq α] [LawfulBEq α] : ∀ {l : List (α × β)} {a : α} {b : β}, l.lookup a = some b → (a, b) ∈ l
  | [], _, _, h => by cases h
  | (x, y) :: r, a, b, h => by
    rw [List.lookup_cons] at h
    cases q : a == x with
    | true =>
      rw [q] at h
      cases h
      have := eq_of_beq q
      subst this
      exact List.mem_cons_self
    | false =>
      rw [q] at h
      exact List.mem_cons_of_mem _ (look_in h)
/-! ### the law's own word -/
def spLaw (K : PySem.W.Frag) : Sp := fun vs H Q _ => ∃ (a : Addr) (ns : List Int), vs = [.ref a] ∧ SqL K H a (ns.map V.int) ∧ ns.length ≤ 63 ∧ ∀ H', Q (.bl true) H'
theorem law_ok {P : Program} {w : World} {K : PySem.W.Frag} {mg : Str → Option Value} {base : Heap} {T : Tb} {CX : CXT} {k : Nat} {f : Addr} {fd : FuncData} {ps : List Str} {F : List D → Res D} (Fn : FnOk P w K mg base CX k f fd ps (spOf T K F 1)) (hl : ps.length = 1) (h : ∀ ns : List Int, ns.length ≤ 63 → F [.scr ns] = .ok (.bl true)) : FnOk P w K mg base CX k f fd ps (spLaw K) where
  len := fun vs H Q E ⟨a, ns, e, _⟩ => by subst e; exact hl.symm
  run := fun A outer s H args us vs Q E hr e0 hb r ⟨a, ns, e, hS, hn, q⟩ => by
    subst e
    refine Fn.run A outer s H args us _ Q E hr e0 hb r ⟨rfl, H, [.scr ns], Same.refl _, .cons (by simp only [Rep]; exact ⟨a, rfl, hS⟩) .nil, ?_⟩
    rw [h ns hn]
    intro v H' G' x rv
    rw [Rep.bl rv]
    exact q H'
end E

set_option autoImplicit false
set_option linter.all false
set_option Elab.async false
set_option maxRecDepth 100000
/-! E23: the evaluator's equations, for simp. -/
namespace E
@[simp] theorem look0 (d : D) (e : Env) : look 0 (some d :: e) = .ok d := id rfl
@[simp] theorem lookS (i : Nat) (x : Option D) (e : Env) : look (i + 1) (x :: e) = look i e := id rfl
def bindO (o : Out) (g : Env → Out) : Out := match o with
  | .nx e' => g e'
  | o => o
@[simp] theorem bindO_nx (e : Env) (g : Env → Out) : bindO (.nx e) g = g e := id rfl
@[simp] theorem bindO_rt (d : D) (g : Env → Out) : bindO (.rt d) g = .rt d := id rfl
@[simp] theorem bindO_bk (e : Env) (g : Env → Out) : bindO (.bk e) g = .bk e := id rfl
@[simp] theorem bindO_ct (e : Env) (g : Env → Out) : bindO (.ct e) g = .ct e := id rfl
@[simp] theorem bindO_ex (e : Env) (c : Nat) (l : List D) (g : Env → Out) : bindO (.ex e c l) g = .ex e c l := id rfl
@[simp] theorem bindO_bad (g : Env → Out) : bindO .bad g = .bad := id rfl
@[simp] theorem fin_nx (e : Env) : fin (.nx e) = .ok .non := id rfl
@[simp] theorem fin_rt (d : D) : fin (.rt d) = .ok d := id rfl
@[simp] theorem fin_ex (e : Env) (c : Nat) (l : List D) : fin (.ex e c l) = .err c l := id rfl
section
variable (Φ : Nat → List D → Res D) (sub : Nat → Nat → Option Bool) (n : Nat) (e : Env)
@[simp] theorem ev_var (i : Nat) : ev Φ sub (.var i) e = look i e := by rw [ev]
@[simp] theorem ev_non : ev Φ sub .non e = .ok .non := by rw [ev]
@[simp] theorem ev_bl (b : Bool) : ev Φ sub (.bl b) e = .ok (.bl b) := by rw [ev]
@[simp] theorem ev_int (i : Int) : ev Φ sub (.int i) e = .ok (.int i) := by rw [ev]
@[simp] theorem ev_str (s : List Nat) : ev Φ sub (.str s) e = .ok (.str s) := by rw [ev]
@[simp] theorem ev_glb (x : List Nat) (d : D) : ev Φ sub (.glb x d) e = .ok d := by rw [ev]
@[simp] theorem ev_op (o : Op2) (a b : C) : ev Φ sub (.op o a b) e = (ev Φ sub a e).bd fun x => (ev Φ sub b e).bd fun y => op2 o x y := by rw [ev]
@[simp] theorem ev_chn (o1 o2 : Op2) (a b c : C) : ev Φ sub (.chn o1 o2 a b c) e = chnF o1 o2 (ev Φ sub a) (ev Φ sub b) (ev Φ sub c) e := by rw [ev]; rfl
def negD : D → Res D
  | .int i => .ok (.int (-i))
  | _ => .bad
@[simp] theorem negD_int (i : Int) : negD (.int i) = .ok (.int (-i)) := id rfl
@[simp] theorem ev_neg (a : C) : ev Φ sub (.neg a) e = (ev Φ sub a e).bd negD := by rw [ev]; rfl
@[simp] theorem ev_one (a : C) : ev Φ sub (.one a) e = ev Φ sub a e := by rw [ev]
@[simp] theorem ev_and (a b : C) : ev Φ sub (.and a b) e = (ev Φ sub a e).bd fun x => (truth x).bd fun k => if k = true then ev Φ sub b e else .ok x := by rw [ev]
@[simp] theorem ev_or (a b : C) : ev Φ sub (.or a b) e = (ev Φ sub a e).bd fun x => (truth x).bd fun k => if k = true then .ok x else ev Φ sub b e := by rw [ev]
@[simp] theorem ev_not (a : C) : ev Φ sub (.not a) e = (ev Φ sub a e).bd fun x => (truth x).bd fun k => .ok (.bl (!k)) := by rw [ev]
@[simp] theorem ev_ite (c a b : C) : ev Φ sub (.ite c a b) e = (ev Φ sub c e).bd fun x => (truth x).bd fun k => if k = true then ev Φ sub a e else ev Φ sub b e := by rw [ev]
@[simp] theorem ev_is (d : D) (neg : Bool) (a : C) : ev Φ sub (.is_ d neg a) e = (ev Φ sub a e).bd (dIs d neg) := by rw [ev]
@[simp] theorem ev_isi (a : C) (k : Kd) : ev Φ sub (.isi a k) e = (ev Φ sub a e).bd fun x => if kdOk x = true then .ok (.bl (isKd x k)) else .bad := by rw [ev]
@[simp] theorem ev_isi2 (a : C) (k k2 : Kd) : ev Φ sub (.isi2 a k k2) e = (ev Φ sub a e).bd fun x => if kdOk x = true then .ok (.bl (isKd x k || isKd x k2)) else .bad := by rw [ev]
@[simp] theorem ev_call (k : Nat) (x : List Nat) (as : C) : ev Φ sub (.call k x as) e = (evL Φ sub as e).bd (Φ k) := by rw [ev]
@[simp] theorem ev_bi (f : BI) (as : C) : ev Φ sub (.bi f as) e = (evL Φ sub as e).bd (biF f) := by rw [ev]
@[simp] theorem ev_mt (m : MT) (a as : C) : ev Φ sub (.mt m a as) e = (ev Φ sub a e).bd fun x => if isStr x = true then (evL Φ sub as e).bd (meth m x) else .bad := by rw [ev]
@[simp] theorem ev_idx (a b : C) : ev Φ sub (.idx a b) e = (ev Φ sub a e).bd fun x => (ev Φ sub b e).bd fun y => dIdx x y := by rw [ev]
@[simp] theorem ev_slc (a lo hi : C) : ev Φ sub (.slc a lo hi) e = (ev Φ sub a e).bd fun x => ((ev Φ sub lo e).bd prt).bd fun l => ((ev Φ sub hi e).bd prt).bd fun h => dSlc x l h := by rw [ev]
@[simp] theorem ev_rev (a : C) : ev Φ sub (.rev a) e = (ev Φ sub a e).bd dRev := by rw [ev]
@[simp] theorem ev_tup (as : C) : ev Φ sub (.tup as) e = (evL Φ sub as e).bd fun xs => if xs.length ≤ LIM then .ok (.tup xs) else .bad := by rw [ev]
@[simp] theorem ev_lst (as : C) : ev Φ sub (.lst as) e = (evL Φ sub as e).bd fun xs => if xs.length ≤ LIM then .ok (.lst xs) else .bad := by rw [ev]
@[simp] theorem ev_fld (c j : Nat) (a : C) : ev Φ sub (.fld c j a) e = (ev Φ sub a e).bd (dFld c j) := by rw [ev]
@[simp] theorem ev_efld (i c j : Nat) : ev Φ sub (.efld i c j) e = efldF i c j e := by rw [ev]; rfl
@[simp] theorem ev_eisi (i k : Nat) : ev Φ sub (.eisi i k) e = eisiF sub i k e := by rw [ev]; rfl
@[simp] theorem ev_nil : ev Φ sub .nil e = .ok .non := by rw [ev]
@[simp] theorem evL_nil : evL Φ sub .nil e = .ok [] := by rw [evL]
@[simp] theorem evL_cons (a r : C) : evL Φ sub (.cons a r) e = (ev Φ sub a e).bd fun x => (evL Φ sub r e).bd fun xs => .ok (x :: xs) := by rw [evL]
@[simp] theorem evS_skip : evS Φ sub n .skip e = .nx e := by rw [evS]
@[simp] theorem evS_seq (a b : E.S) : evS Φ sub n (.seq a b) e = bindO (evS Φ sub n a e) (evS Φ sub n b) := by
  rw [evS]; unfold bindO; cases evS Φ sub n a e <;> rfl
@[simp] theorem evS_asg (t : List Nat) (one : Bool) (c : C) : evS Φ sub n (.asg t one c) e = (ev Φ sub c e).out e fun d => omO (asg t one d e) .nx := by rw [evS]
@[simp] theorem evS_own (i : Nat) (c : C) : evS Φ sub n (.own i c) e = ((ev Φ sub c e).bd onlyL).out e fun d => .nx (e.set i (some d)) := by rw [evS]
@[simp] theorem evS_mu (m : Mu) (i : Nat) (as : C) : evS Φ sub n (.mu m i as) e = muF m i (evL Φ sub as) e := by rw [evS]; rfl
@[simp] theorem evS_if (c : C) (a b : E.S) : evS Φ sub n (.if_ c a b) e = ((ev Φ sub c e).bd truth).out e fun k => if k = true then evS Φ sub n a e else evS Φ sub n b e := by rw [evS]
theorem evS_while (L : List Nat) (c : C) (b : E.S) : evS Φ sub n (.while_ L c b) e = whL (fun e => (ev Φ sub c e).bd truth) (evS Φ sub n b) n e := by rw [evS]
theorem evS_for (L t : List Nat) (one : Bool) (it : C) (b : E.S) : evS Φ sub n (.for_ L t one it b) e = (ev Φ sub it e).out e fun x => omO (items x) fun l => forL (fun d e => omO (asg t one d e) (evS Φ sub n b)) l e := by rw [evS]
@[simp] theorem evS_ret (c : C) : evS Φ sub n (.ret c) e = (ev Φ sub c e).out e .rt := by rw [evS]
@[simp] theorem evS_retN : evS Φ sub n .retN e = .rt .non := by rw [evS]
@[simp] theorem evS_expr (c : C) : evS Φ sub n (.expr c) e = (ev Φ sub c e).out e fun _ => .nx e := by rw [evS]
@[simp] theorem evS_raise (c : Nat) (x : List Nat) (as : C) : evS Φ sub n (.raise c x as) e = (evL Φ sub as e).out e fun xs => .ex e c xs := by rw [evS]
@[simp] theorem evS_brk : evS Φ sub n .brk e = .bk e := by rw [evS]
@[simp] theorem evS_cont : evS Φ sub n .cont e = .ct e := by rw [evS]
@[simp] theorem evS_dnew (i : Nat) : evS Φ sub n (.dnew i) e = .nx (e.set i (some (.dic [] []))) := by rw [evS]
@[simp] theorem evS_dnew1 (i : Nat) (k v : C) : evS Φ sub n (.dnew1 i k v) e = (ev Φ sub k e).out e fun x => (ev Φ sub v e).out e fun y => if isKey x = true then .nx (e.set i (some (.dic [x] [y]))) else .bad := by rw [evS]
theorem evS_fpop (L t : List Nat) (one : Bool) (a : C) (i : Nat) (b : E.S) : evS Φ sub n (.fpop L t one a i b) e = (ev Φ sub a e).out e fun x => (look i e).out e fun z => match z with
    | .lst l => omO l.getLast? fun j => (dIdx x j).out e fun y => omO (items y) fun ys => forL (fun d e => omO (asg t one d e) (evS Φ sub n b)) ys (e.set i (some (.lst l.dropLast)))
    | _ => .bad := by rw [evS] <;> rfl
@[simp] theorem evS_frz (i : Nat) (a : E.S) : evS Φ sub n (.frz i a) e = evS Φ sub n a e := by rw [evS]
@[simp] theorem evS_try (b h : E.S) : evS Φ sub n (.try_ b h) e = tryF (evS Φ sub n b) (fun c l e => evH Φ sub n c l h e) e := by
  rw [evS]; unfold tryF; cases evS Φ sub n b e <;> rfl
@[simp] theorem evH_hnd (c : Nat) (l : List D) (k : Nat) (nm x : List Nat) (i : Nat) (b r : E.S) : evH Φ sub n c l (.hnd k nm i x b r) e = hdStep sub i k (evS Φ sub n b) (fun c l e => evH Φ sub n c l r e) c l e := by
  rw [evH]; rfl
@[simp] theorem evH_skip (c : Nat) (l : List D) : evH Φ sub n c l .skip e = .ex e c l := by
  rw [evH]; exact fun _ _ _ _ _ _ z => nomatch z
end
/-! operations -/
@[simp] theorem op2_add (x y : D) : op2 .add x y = dAdd x y := id rfl
@[simp] theorem op2_mul (x y : D) : op2 .mul x y = dMul x y := id rfl
@[simp] theorem op2_sub (a b : Int) : op2 .sub (.int a) (.int b) = .ok (.int (a - b)) := id rfl
@[simp] theorem op2_fdiv (a b : Int) : op2 .fdiv (.int a) (.int b) = if 0 < b ∧ b.natAbs < BIG then .ok (.int (a / b)) else .bad := id rfl
@[simp] theorem op2_mod (a b : Int) : op2 .mod (.int a) (.int b) = if 0 < b then .ok (.int (a % b)) else .bad := id rfl
@[simp] theorem op2_pow (a b : Int) : op2 .pow (.int a) (.int b) = if 0 ≤ b ∧ b ≤ 1000000 ∧ a.natAbs < 18446744073709551616 then .ok (.int (a ^ b.toNat)) else .bad := id rfl
@[simp] theorem op2_eqs (a b : List Nat) : op2 .eq (.str a) (.str b) = .ok (.bl (a == b)) := id rfl
@[simp] theorem op2_nes (a b : List Nat) : op2 .ne (.str a) (.str b) = .ok (.bl (!(a == b))) := id rfl
@[simp] theorem op2_eqi (a b : Int) : op2 .eq (.int a) (.int b) = .ok (.bl (a == b)) := by simp [op2, plain, eqv]
@[simp] theorem op2_nei (a b : Int) : op2 .ne (.int a) (.int b) = .ok (.bl (!(a == b))) := by simp [op2, plain, eqv]
@[simp] theorem op2_eqb (a b : Bool) : op2 .eq (.bl a) (.bl b) = .ok (.bl (a == b)) := by simp [op2, plain, eqv]
@[simp] theorem op2_neb (a b : Bool) : op2 .ne (.bl a) (.bl b) = .ok (.bl (!(a == b))) := by simp [op2, plain, eqv]
@[simp] theorem op2_lt (a b : Int) : op2 .lt (.int a) (.int b) = .ok (.bl (decide (a < b))) := id rfl
@[simp] theorem op2_le (a b : Int) : op2 .le (.int a) (.int b) = .ok (.bl (decide (a ≤ b))) := id rfl
@[simp] theorem op2_gt (a b : Int) : op2 .gt (.int a) (.int b) = .ok (.bl (decide (b < a))) := id rfl
@[simp] theorem op2_ge (a b : Int) : op2 .ge (.int a) (.int b) = .ok (.bl (decide (b ≤ a))) := id rfl
@[simp] theorem op2_in (x y : D) : op2 .in_ x y = (inD x y).bd fun b => .ok (.bl b) := id rfl
@[simp] theorem op2_nin (x y : D) : op2 .notIn x y = (inD x y).bd fun b => .ok (.bl (!b)) := id rfl
@[simp] theorem dAdd_i (a b : Int) : dAdd (.int a) (.int b) = .ok (.int (a + b)) := id rfl
theorem dAdd_s {a b : List Nat} (h : a.length + b.length ≤ LIM) : dAdd (.str a) (.str b) = .ok (.str (a ++ b)) := if_pos h
theorem dAdd_l {a b : List D} (h : a.length + b.length ≤ LIM) : dAdd (.lst a) (.lst b) = .ok (.lst (a ++ b)) := if_pos h
theorem dMul_i {a b : Int} (h : a.natAbs < BIG) (h2 : b.natAbs < BIG) : dMul (.int a) (.int b) = .ok (.int (a * b)) := if_pos ⟨h, h2⟩
theorem dMul_s {a : List Nat} {n : Int} (h : n < 4611686018427387904 ∧ -4611686018427387904 < n ∧ a.length * n.toNat ≤ LIM) : dMul (.str a) (.int n) = .ok (.str (List.replicate n.toNat a).flatten) := if_pos h
@[simp] theorem truth_non : truth .non = .ok false := id rfl
@[simp] theorem truth_bl (b : Bool) : truth (.bl b) = .ok b := id rfl
@[simp] theorem truth_int (i : Int) : truth (.int i) = .ok (i != 0) := id rfl
@[simp] theorem truth_lst (l : List D) : truth (.lst l) = .ok (l.length != 0) := id rfl
@[simp] theorem truth_tup (l : List D) : truth (.tup l) = .ok (l.length != 0) := id rfl
@[simp] theorem len_l (l : List D) : biF .len [.lst l] = .ok (.int l.length) := id rfl
@[simp] theorem len_t (l : List D) : biF .len [.tup l] = .ok (.int l.length) := id rfl
@[simp] theorem len_c (l : List Int) : biF .len [.scr l] = .ok (.int l.length) := id rfl
theorem len_s {s : List Nat} (h : s.length ≤ LIM) : biF .len [.str s] = .ok (.int s.length) := if_pos h
@[simp] theorem int_i (i : Int) : biF .int [.int i] = .ok (.int i) := id rfl
@[simp] theorem int_b (b : Bool) : biF .int [.bl b] = .ok (.int (if b then 1 else 0)) := id rfl
@[simp] theorem min_i (i j : Int) : biF .min2 [.int i, .int j] = .ok (.int (if j < i then j else i)) := id rfl
@[simp] theorem max_i (i j : Int) : biF .max2 [.int i, .int j] = .ok (.int (if j > i then j else i)) := id rfl
theorem rng1_ok {j : Int} (h : -4611686018427387904 ≤ j ∧ j < 4611686018427387904) : biF .rng1 [.int j] = .ok (.lst (rangeD 0 j)) := if_pos h
@[simp] theorem asg1 (i : Nat) (d : D) (e : Env) : asg [i] true d e = some (e.set i (some d)) := id rfl
@[simp] theorem asgT (t : List Nat) (l : List D) (e : Env) : asg t false (.tup l) e = setAll t l e := id rfl
@[simp] theorem asgTL (t : List Nat) (l : List D) (e : Env) : asg t false (.lst l) e = setAll t l e := id rfl
@[simp] theorem setAll0 (e : Env) : setAll [] [] e = some e := id rfl
@[simp] theorem setAllS (i : Nat) (is : List Nat) (d : D) (ds : List D) (e : Env) : setAll (i :: is) (d :: ds) e = setAll is ds (e.set i (some d)) := id rfl
@[simp] theorem items_l (l : List D) : items (.lst l) = some l := id rfl
@[simp] theorem items_t (l : List D) : items (.tup l) = some l := id rfl
@[simp] theorem items_s (s : List Nat) : items (.str s) = some (s.map fun c => .str [c]) := id rfl
@[simp] theorem items_c (l : List Int) : items (.scr l) = some (l.map D.int) := id rfl
@[simp] theorem onlyL_l (l : List D) : onlyL (.lst l) = .ok (.lst l) := id rfl
theorem mu_app {i : Nat} {fs : Env → Res (List D)} {e : Env} {l : List D} {d : D} (h : look i e = .ok (.lst l)) (hf : fs e = .ok [d]) (hl : l.length < LIM) : muF .append i fs e = .nx (e.set i (some (.lst (l ++ [d])))) := by
  unfold muF
  simp [h, hf, muD, hl]
theorem forL_nx {f : D → Env → Out} {x : D} {r : List D} {e e' : Env} (h : f x e = .nx e') : forL f (x :: r) e = forL f r e' := by rw [forL, h]
theorem forL_rt {f : D → Env → Out} {x : D} {r : List D} {e : Env} {d : D} (h : f x e = .rt d) : forL f (x :: r) e = .rt d := by rw [forL, h]
theorem forL_ex {f : D → Env → Out} {x : D} {r : List D} {e e' : Env} {c : Nat} {l : List D} (h : f x e = .ex e' c l) : forL f (x :: r) e = .ex e' c l := by rw [forL, h]
@[simp] theorem forL_nil (f : D → Env → Out) (e : Env) : forL f [] e = .nx e := by rw [forL]
@[simp] theorem out_out {α β : Type} (r : Res α) (f : α → Res β) (e : Env) (g : β → Out) : (r.bd f).out e g = r.out e fun a => (f a).out e g := by cases r <;> rfl
@[simp] theorem bd_bd' {α β γ : Type} (r : Res α) (f : α → Res β) (g : β → Res γ) : (r.bd f).bd g = r.bd fun a => (f a).bd g := bd_bd r f g
end E

set_option autoImplicit false
set_option linter.all false
set_option Elab.async false
set_option maxRecDepth 100000
/-! E24: plain lemmas for the laws. -/
namespace E
theorem lim_le {n : Nat} (h : n ≤ 1000000) : n ≤ LIM := Nat.le_trans h (by decide)
theorem lim_lt {n : Nat} (h : n ≤ 1000000) : n < LIM := Nat.lt_of_le_of_lt h (by decide)
theorem lt_big {a : Int} (h1 : -(2 ^ 210) < a) (h2 : a < 2 ^ 210) : a.natAbs < BIG := by
  have h3 : a.natAbs < 2 ^ 210 := by omega
  exact Nat.lt_of_lt_of_le h3 (Nat.pow_le_pow_right (by decide) (by decide))
theorem nat_big {a : Nat} (h : a < 2 ^ 210) : a < BIG := Nat.lt_of_lt_of_le h (Nat.pow_le_pow_right (by decide) (by decide))
theorem emod_b (a : Int) {b : Int} (h : 0 < b) : 0 ≤ a % b ∧ a % b < b := ⟨Int.emod_nonneg a (by omega), Int.emod_lt_of_pos a h⟩
theorem beq_iff {P Q : Bool} (h : P = true ↔ Q = true) : P = Q := by cases P <;> cases Q <;> simp_all
theorem nat_beq (n m : Nat) : ((n : Int) == (m : Int)) = (n == m) := beq_iff (by rw [beq_iff_eq, beq_iff_eq]; omega)
theorem beq_tt (a : Bool) : (a == a) = true := by cases a <;> rfl
theorem range_eq (n : Nat) : rangeD 0 (n : Int) = (List.range' 0 n).map fun (k : Nat) => D.int (k : Int) := by
  unfold rangeD
  rw [show ((n : Int) - 0).toNat = n by omega, List.range_eq_range']
  simp
theorem range_eq2 (a b : Nat) : rangeD (a : Int) (b : Int) = (List.range' a (b - a)).map fun (k : Nat) => D.int (k : Int) := by
  unfold rangeD
  rw [show ((b : Int) - a).toNat = b - a by omega, List.range_eq_range', List.range'_eq_map_range (s := a)]
  simp [List.range_eq_range']
theorem rng_n (n : Nat) (h : n < 4611686018427387904) : biF .rng1 [.int (n : Int)] = .ok (.lst ((List.range' 0 n).map fun (k : Nat) => D.int (k : Int))) := by
  rw [rng1_ok (by omega), range_eq]
/-! texts -/
theorem addS {a b : List Nat} (h : a.length + b.length ≤ 1000000) : dAdd (.str a) (.str b) = .ok (.str (a ++ b)) := dAdd_s (lim_le h)
theorem addL {a b : List D} (h : a.length + b.length ≤ 1000000) : dAdd (.lst a) (.lst b) = .ok (.lst (a ++ b)) := dAdd_l (lim_le h)
theorem mulI {a b : Int} (h1 : -(2 ^ 210) < a) (h2 : a < 2 ^ 210) (h3 : -(2 ^ 210) < b) (h4 : b < 2 ^ 210) : dMul (.int a) (.int b) = .ok (.int (a * b)) := dMul_i (lt_big h1 h2) (lt_big h3 h4)
theorem mulN {a b : Nat} (h1 : a < 2 ^ 210) (h2 : b < 2 ^ 210) : dMul (.int (a : Int)) (.int (b : Int)) = .ok (.int ((a * b : Nat) : Int)) := by
  rw [dMul_i (lt_big (by omega) (by omega)) (lt_big (by omega) (by omega)), Int.natCast_mul]
theorem mulT (t : List Nat) (n : Nat) (h : t.length * n ≤ 1000000) (hn : n ≤ 1000000) : dMul (.str t) (.int (n : Int)) = .ok (.str (List.replicate n t).flatten) := by
  rw [dMul_s ⟨by omega, by omega, lim_le (by simpa using h)⟩, Int.toNat_natCast]
theorem rep1 (n c : Nat) : (List.replicate n [c]).flatten = List.replicate n c := by
  induction n with
  | zero => rfl
  | succ n ih => simp [List.replicate_succ, ih]
theorem mulS (c : Nat) (n : Nat) (h : n ≤ 1000000) : dMul (.str [c]) (.int (n : Int)) = .ok (.str (List.replicate n c)) := by
  rw [mulT _ _ (by simpa using h) h, rep1]
theorem len_s' {s : List Nat} (h : s.length ≤ 1000000) : biF .len [.str s] = .ok (.int (s.length : Nat)) := len_s (lim_le h)
theorem inS (c : Nat) (s : List Nat) : inD (.str [c]) (.str s) = .ok (s.contains c) := id rfl
theorem lt_of_get {α : Type} {l : List α} {i : Nat} {a : α} (h : l[i]? = some a) : i < l.length := by
  rcases Nat.lt_or_ge i l.length with q | q
  · exact q
  · rw [List.getElem?_eq_none q] at h; cases h
theorem at_n {α : Type} {l : List α} {i : Nat} {a : α} (h : l[i]? = some a) : at_ l (i : Int) = some a := by
  have := lt_of_get h
  unfold at_ ixOf
  rw [if_pos (by omega), if_pos (by omega)]
  simpa using h
theorem idx_s (t : List Nat) (hl : t.length ≤ LIM) (i : Nat) (c : Nat) (h : t[i]? = some c) : dIdx (.str t) (.int (i : Int)) = .ok (.str [c]) := by
  show (if t.length ≤ LIM then om (at_ t (i : Int)) fun c => Res.ok (D.str [c]) else .bad) = _
  rw [if_pos hl, at_n h]; rfl
theorem idx_l (l : List D) (i : Nat) (d : D) (h : l[i]? = some d) : dIdx (.lst l) (.int (i : Int)) = .ok d := by
  show om (at_ l (i : Int)) .ok = _
  rw [at_n h]; rfl
theorem idx_t (l : List D) (i : Nat) (d : D) (h : l[i]? = some d) : dIdx (.tup l) (.int (i : Int)) = .ok d := by
  show om (at_ l (i : Int)) .ok = _
  rw [at_n h]; rfl
theorem get_l (ds : List Int) (i : Nat) (d : Int) (h : ds[i]? = some d) : dIdx (.lst (ds.map D.int)) (.int (i : Int)) = .ok (.int d) := idx_l _ _ _ (by simp [h])
theorem slc_any {t : List Nat} (hl : t.length ≤ LIM) (lo hi : D) (h1 : isPart lo = true) (h2 : isPart hi = true) : dSlc (.str t) lo hi = .ok (.str (cut t lo hi)) := by
  show (if (isPart lo && isPart hi && decide (t.length ≤ LIM)) = true then (Res.ok (D.str (cut t lo hi))) else .bad) = _
  rw [if_pos (by simp [h1, h2, hl])]
theorem cut_mem {α : Type} {t : List α} {lo hi : D} {c : α} (h : c ∈ cut t lo hi) : c ∈ t := List.mem_of_mem_drop (List.mem_of_mem_take h)
theorem cut_len {α : Type} (t : List α) (lo hi : D) : (cut t lo hi).length ≤ t.length := by
  unfold cut
  simp
  omega
theorem cut_pre {α : Type} (t : List α) (k : Nat) : cut t .non (.int (k : Int)) = t.take k := by
  simp only [cut, sx]
  rw [if_neg (by omega), Int.toNat_natCast]
  simp
theorem slc_pre {t : List Nat} (hl : t.length ≤ LIM) (k : Nat) : dSlc (.str t) .non (.int (k : Int)) = .ok (.str (t.take k)) := by
  rw [slc_any hl _ _ rfl rfl, cut_pre]
theorem strs_map {α : Type} (h : α → List Nat) : ∀ xs : List α, strsD (xs.map fun x => D.str (h x)) = some (xs.map h)
  | [] => rfl
  | x :: xs => by simp [strsD, strs_map h xs]
theorem ints_map {α : Type} (h : α → Int) : ∀ xs : List α, intsD (xs.map fun x => D.int (h x)) = some (xs.map h)
  | [] => rfl
  | x :: xs => by simp [intsD, ints_map h xs]
theorem sum_ok {α : Type} (h : α → Int) (xs : List α) : biF .sum [.lst (xs.map fun x => D.int (h x))] = .ok (.int (xs.map h).sum) := by
  show (om (intsD _) fun is => Res.ok (D.int is.sum)) = _
  rw [ints_map, om_some]
theorem join_nil : ∀ ts : List (List Nat), joinT [] ts = ts.flatten
  | [] => rfl
  | [x] => by simp [joinT]
  | x :: y :: r => by
    have := join_nil (y :: r)
    rw [joinT, this]
    · simp
    · simp
theorem join_ok {ts : List (List Nat)} {l : List D} (h : strsD l = some ts) (hl : ts.flatten.length ≤ LIM) : meth .join (.str []) [.lst l] = .ok (.str ts.flatten) := by
  show (om (strsD l) fun ts => if (ts.map (·.length)).sum + ts.length * ([] : List Nat).length ≤ LIM then Res.ok (D.str (joinT [] ts)) else .bad) = _
  rw [h, om_some, if_pos (by rw [List.length_flatten] at hl; simpa using hl), join_nil]
theorem isStr_s (s : List Nat) : isStr (.str s) = true := id rfl
/-! comprehensions and loops -/
theorem ev_lc (Φ : Nat → List D → Res D) (sb : Nat → Nat → Option Bool) (t : List Nat) (one : Bool) (it cnd elt : C) (e : Env) : ev Φ sb (.lc t one it cnd elt) e = (ev Φ sb it e).bd fun x => om (items x) fun l => if l.length < LIM then (lcL (fun d => om (asg t one d e) fun e' => (ev Φ sb cnd e').bd fun c => (truth c).bd fun k => if k = true then (ev Φ sb elt e').bd fun y => .ok (some y) else .ok none) l).bd fun ys => .ok (.lst ys) else .bad := by rw [ev]
theorem lc_filter {α : Type} (f : D → Res (Option D)) (g : α → D) (p : α → Bool) : ∀ (xs : List α), (∀ x ∈ xs, f (g x) = .ok (if p x = true then some (g x) else none)) → lcL f (xs.map g) = .ok ((xs.filter p).map g)
  | [], _ => rfl
  | x :: xs, h => by
    rw [List.map_cons, lcL, h x List.mem_cons_self, lc_filter f g p xs (fun y hy => h y (List.mem_cons_of_mem _ hy))]
    by_cases hp : p x = true
    · rw [if_pos hp, List.filter_cons_of_pos hp]; rfl
    · rw [if_neg hp, List.filter_cons_of_neg hp]; rfl
theorem lc_map {α : Type} (f : D → Res (Option D)) (g h : α → D) : ∀ (xs : List α), (∀ x ∈ xs, f (g x) = .ok (some (h x))) → lcL f (xs.map g) = .ok (xs.map h)
  | [], _ => rfl
  | x :: xs, q => by
    rw [List.map_cons, lcL, q x List.mem_cons_self, lc_map f g h xs (fun y hy => q y (List.mem_cons_of_mem _ hy))]
    rfl
theorem lc_mapf {α : Type} (f : D → Res (Option D)) (g h : α → D) (p : α → Bool) : ∀ (xs : List α), (∀ x ∈ xs, f (g x) = .ok (if p x = true then some (h x) else none)) → lcL f (xs.map g) = .ok ((xs.filter p).map h)
  | [], _ => rfl
  | x :: xs, q => by
    rw [List.map_cons, lcL, q x List.mem_cons_self, lc_mapf f g h p xs (fun y hy => q y (List.mem_cons_of_mem _ hy))]
    by_cases hp : p x = true
    · rw [if_pos hp, List.filter_cons_of_pos hp]; rfl
    · rw [if_neg hp, List.filter_cons_of_neg hp]; rfl
/-- a comprehension over xs.map g without a condition -/
theorem lcm_ok {α : Type} (Φ : Nat → List D → Res D) (sb : Nat → Nat → Option Bool) (t : List Nat) (one : Bool) (it elt : C) (e : Env) (x : D) (xs : List α) (g h : α → D) (hi : ev Φ sb it e = .ok x) (hx : items x = some (xs.map g)) (hl : xs.length ≤ 1000000)
    (hs : ∀ a ∈ xs, ∃ e', asg t one (g a) e = some e' ∧ ev Φ sb elt e' = .ok (h a)) : ev Φ sb (.lc t one it (.bl true) elt) e = .ok (.lst (xs.map h)) := by
  rw [ev_lc, hi, bd_ok, hx, om_some, if_pos (by simpa using lim_lt hl), lc_map _ g h]
  · rfl
  · intro a ha
    obtain ⟨e', h1, h2⟩ := hs a ha
    simp [h1, h2]
/-- with a condition -/
theorem lcf_ok {α : Type} (Φ : Nat → List D → Res D) (sb : Nat → Nat → Option Bool) (t : List Nat) (one : Bool) (it cnd elt : C) (e : Env) (x : D) (xs : List α) (g h : α → D) (p : α → Bool) (hi : ev Φ sb it e = .ok x) (hx : items x = some (xs.map g)) (hl : xs.length ≤ 1000000)
    (hs : ∀ a ∈ xs, ∃ e', asg t one (g a) e = some e' ∧ (ev Φ sb cnd e').bd truth = .ok (p a) ∧ (p a = true → ev Φ sb elt e' = .ok (h a))) : ev Φ sb (.lc t one it cnd elt) e = .ok (.lst ((xs.filter p).map h)) := by
  rw [ev_lc, hi, bd_ok, hx, om_some, if_pos (by simpa using lim_lt hl), lc_mapf _ g h p]
  · rfl
  · intro a ha
    obtain ⟨e', h1, h2, h3⟩ := hs a ha
    rw [h1, om_some]
    cases q : ev Φ sb cnd e' with
    | err c l => rw [q] at h2; cases h2
    | bad => rw [q] at h2; cases h2
    | ok c =>
      rw [q] at h2
      simp only [bd_ok] at h2
      rw [bd_ok, h2, bd_ok]
      by_cases hp : p a = true
      · rw [if_pos hp, if_pos hp, h3 hp]; rfl
      · rw [if_neg hp, if_neg hp]
theorem forL_inv (f : D → Env → Out) (P : Env → Prop) : ∀ (l : List D), (∀ d ∈ l, ∀ e, P e → ∃ e', f d e = .nx e' ∧ P e') → ∀ e, P e → ∃ e', forL f l e = .nx e' ∧ P e'
  | [], _, e, h => ⟨e, forL_nil _ _, h⟩
  | d :: l, h, e, he => by
    obtain ⟨e1, h1, p1⟩ := h d List.mem_cons_self e he
    obtain ⟨e2, h2, p2⟩ := forL_inv f P l (fun x hx => h x (List.mem_cons_of_mem _ hx)) e1 p1
    exact ⟨e2, by rw [forL_nx h1, h2], p2⟩
/-- a loop that folds: the state s is what the environment E s holds; the rest of it (z) may be anything -/
theorem forL_fold {α σ ζ : Type} (f : D → Env → Out) (g : α → D) (En : σ → ζ → Env) (step : σ → α → σ) (I : σ → Prop) : ∀ (xs : List α) (s : σ) (z : ζ), I s → (∀ a ∈ xs, ∀ s z, I s → ∃ z', f (g a) (En s z) = .nx (En (step s a) z') ∧ I (step s a)) →
    ∃ z', forL f (xs.map g) (En s z) = .nx (En (xs.foldl step s) z') ∧ I (xs.foldl step s)
  | [], s, z, hi, _ => ⟨z, forL_nil _ _, hi⟩
  | a :: xs, s, z, hi, h => by
    obtain ⟨z1, h1, i1⟩ := h a List.mem_cons_self s z hi
    obtain ⟨z2, h2, i2⟩ := forL_fold f g En step I xs (step s a) z1 i1 (fun b hb => h b (List.mem_cons_of_mem _ hb))
    exact ⟨z2, by rw [List.map_cons, forL_nx h1, h2]; rfl, i2⟩
mutual
theorem eqv_refl : ∀ (x : D) (k : Nat), plain x k = true → eqv x x = true
  | .non, _, _ => by simp [eqv]
  | .bl _, _, _ => by simp [eqv]
  | .int _, _, _ => by simp [eqv]
  | .str _, _, _ => by simp [eqv]
  | .lst l, 0, h => by simp [plain] at h
  | .tup l, 0, h => by simp [plain] at h
  | .lst l, k + 1, h => by
    simp only [plain] at h
    simp only [eqv]
    exact eqvL_refl l k h
  | .tup l, k + 1, h => by
    simp only [plain] at h
    simp only [eqv]
    exact eqvL_refl l k h
  | .dic _ _, k, h => by cases k <;> simp [plain] at h
  | .set _, k, h => by cases k <;> simp [plain] at h
  | .ins _ _, k, h => by cases k <;> simp [plain] at h
  | .exc _ _, k, h => by cases k <;> simp [plain] at h
  | .scr _, k, h => by cases k <;> simp [plain] at h
theorem eqvL_refl : ∀ (l : List D) (k : Nat), plainL l k = true → eqvL l l = true
  | [], _, _ => by simp [eqvL]
  | x :: xs, k, h => by
    simp only [plainL, Bool.and_eq_true] at h
    simp [eqvL, eqv_refl x k h.1, eqvL_refl xs k h.2]
end
theorem plainL_all : ∀ (l : List D) (k : Nat), plainL l k = l.all (plain · k)
  | [], _ => rfl
  | x :: xs, k => by simp [plainL, plainL_all xs k]
theorem ne_refl (x : D) (h : plain x 60 = true) : op2 .ne x x = .ok (.bl false) := by
  have e := eqv_refl x 60 h
  cases x <;> first
    | (simp [op2, h, e]; done)
    | (simp [op2, plain, e]; done)
    | (simp [plain] at h; done)
theorem eq_refl (x : D) (h : plain x 60 = true) : op2 .eq x x = .ok (.bl true) := by
  have e := eqv_refl x 60 h
  cases x <;> first
    | (simp [op2, h, e]; done)
    | (simp [op2, plain, e]; done)
    | (simp [plain] at h; done)
end E

set_option maxRecDepth 100000
namespace Lw
open PySem PySem.Spec PyProof.Rows L2 E
def topS (i : Nat) : Stmt := PySem.Challenge.pw_straightclock_k65_earliest.main.body.getD i (.Pass ⟨0, 0, 0, 0⟩)
def clsB (s : Stmt) : List Stmt := match s with
  | .ClassDef _ _ _ b _ _ _ _ _ _ _ => b
  | _ => []
abbrev s_frozen : Stmt := topS 7
abbrev s_is_whole : Stmt := topS 8
abbrev s_are_letters : Stmt := topS 9
abbrev s_check_letters : Stmt := topS 10
abbrev s_check_text : Stmt := topS 11
abbrev s_is_number_below : Stmt := topS 13
abbrev s_is_arrow_row : Stmt := topS 14
abbrev s_Automaton : Stmt := (clsB (topS 15)).getD 0 (.Pass ⟨0, 0, 0, 0⟩)
abbrev s_states_behind : Stmt := topS 17
abbrev s_sure_word : Stmt := topS 18
abbrev s_earliest : Stmt := topS 20
abbrev s__law_whole : Stmt := topS 22
abbrev s__law_cell : Stmt := topS 23
abbrev s__law_digits : Stmt := topS 24
abbrev s__law_letters : Stmt := topS 25
abbrev s__law_long_text : Stmt := topS 26
abbrev s__law_texts : Stmt := topS 27
abbrev s__law_automaton : Stmt := topS 28
abbrev s__law_sure : Stmt := topS 29
abbrev s__law_earliest : Stmt := topS 30
abbrev s__law_refused : Stmt := topS 31
abbrev s_law : Stmt := topS 32
abbrev i_BadLetters : Stmt := (clsB (topS 2)).getD 0 (.Pass ⟨0, 0, 0, 0⟩)
abbrev i_BadText : Stmt := (clsB (topS 3)).getD 0 (.Pass ⟨0, 0, 0, 0⟩)
abbrev i_BadAutomaton : Stmt := (clsB (topS 4)).getD 0 (.Pass ⟨0, 0, 0, 0⟩)
def tab : List ((Nat × Nat) × Bool) := [((1, 0), true), ((1, 2), false), ((2, 0), true), ((2, 2), true), ((3, 0), true), ((3, 2), false)]
def sub (c k : Nat) : Option Bool := tab.lookup (c, k)
def fls : List (List Str) := [[], ["letters"], ["index"], ["state"], ["letters", "arrows", "yes"]]
def glbs : List (Str × D) := [("ALPHABET", (.str [97, 98, 99, 100, 101, 102, 103, 104, 105, 106, 107, 108, 109, 110, 111, 112, 113, 114, 115, 116, 117, 118, 119, 120, 121, 122]))]
def xcsL : List (Str × Nat) := [("BadLetters", 1), ("BadText", 2), ("BadAutomaton", 3)]
def cnL : List (Str × Nat) := [("ClockError", 0), ("BadText", 2)]
def S_frozen : Scp := { N := ["value", "part"], sc := defScope s_frozen, raw := defScope s_frozen, fns := [(0, "frozen", 1)], hot := [], glb := [], fl := fls, xcs := [], cn := [], ics := [] }
abbrev fo_frozen_1 : C := (.lc [1] true (.var 0) (.bl true) (.call 0 [102, 114, 111, 122, 101, 110] (.cons (.var 1) .nil)))
def b_frozen : E.S := (.seq (.if_ (.isi2 (.var 0) .lst .tup) (.seq (.ret (.bi .tuple (.cons fo_frozen_1 .nil))) .skip) .skip) (.seq (.ret (.var 0)) .skip))
def F_frozen_0 : List D → Res D := fun _ => .bad
def P_frozen_1 : Nat → List D → Res D
  | 0 => F_frozen_0
  | _ => fun _ => .bad
def F_frozen_1 : List D → Res D := run P_frozen_1 sub FUEL 2 b_frozen
def P_frozen_2 : Nat → List D → Res D
  | 0 => F_frozen_1
  | _ => fun _ => .bad
def F_frozen_2 : List D → Res D := run P_frozen_2 sub FUEL 2 b_frozen
def P_frozen_3 : Nat → List D → Res D
  | 0 => F_frozen_2
  | _ => fun _ => .bad
def F_frozen_3 : List D → Res D := run P_frozen_3 sub FUEL 2 b_frozen
def P_frozen_4 : Nat → List D → Res D
  | 0 => F_frozen_3
  | _ => fun _ => .bad
def F_frozen_4 : List D → Res D := run P_frozen_4 sub FUEL 2 b_frozen
def P_frozen_5 : Nat → List D → Res D
  | 0 => F_frozen_4
  | _ => fun _ => .bad
def F_frozen_5 : List D → Res D := run P_frozen_5 sub FUEL 2 b_frozen
abbrev F_frozen : List D → Res D := F_frozen_5
def S_is_whole : Scp := { N := ["value"], sc := defScope s_is_whole, raw := defScope s_is_whole, fns := [], hot := [], glb := [], fl := fls, xcs := [], cn := [], ics := [] }
def b_is_whole : E.S := (.seq (.ret (.and (.isi (.var 0) .int) (.one (.not (.isi (.var 0) .bool))))) .skip)
def P_is_whole : Nat → List D → Res D
  | _ => fun _ => .bad
def F_is_whole : List D → Res D := run P_is_whole sub FUEL 1 b_is_whole
def S_are_letters : Scp := { N := ["letters", "places", "letter"], sc := defScope s_are_letters, raw := defScope s_are_letters, fns := [], hot := [], glb := glbs, fl := fls, xcs := [], cn := [], ics := [] }
abbrev fo_are_letters_1 : C := (.lc [2] true (.var 0) (.bl true) (.mt .find (.glb [65, 76, 80, 72, 65, 66, 69, 84] (.str [97, 98, 99, 100, 101, 102, 103, 104, 105, 106, 107, 108, 109, 110, 111, 112, 113, 114, 115, 116, 117, 118, 119, 120, 121, 122])) (.cons (.var 2) .nil)))
def b_are_letters : E.S := (.seq (.asg [1] true fo_are_letters_1) (.seq (.ret (.and (.chn .le .le (.int 1) (.bi .len (.cons (.var 0) .nil)) (.int 3)) (.and (.op .notIn (.neg (.int 1)) (.var 1)) (.one (.op .eq (.var 1) (.bi .sset (.cons (.var 1) .nil))))))) .skip))
def P_are_letters : Nat → List D → Res D
  | _ => fun _ => .bad
def F_are_letters : List D → Res D := run P_are_letters sub FUEL 3 b_are_letters
def S_check_letters : Scp := { N := ["letters"], sc := defScope s_check_letters, raw := defScope s_check_letters, fns := [(2, "are_letters", 1)], hot := [], glb := [], fl := fls, xcs := xcsL, cn := [], ics := [] }
def b_check_letters : E.S := (.seq (.if_ (.not (.call 2 [97, 114, 101, 95, 108, 101, 116, 116, 101, 114, 115] (.cons (.var 0) .nil))) (.seq (.raise 1 [66, 97, 100, 76, 101, 116, 116, 101, 114, 115] (.cons (.var 0) .nil)) .skip) .skip) .skip)
def P_check_letters : Nat → List D → Res D
  | 2 => F_are_letters
  | _ => fun _ => .bad
def F_check_letters : List D → Res D := run P_check_letters sub FUEL 1 b_check_letters
def S_check_text : Scp := { N := ["letters", "text", "index", "character"], sc := defScope s_check_text, raw := defScope s_check_text, fns := [], hot := [], glb := [], fl := fls, xcs := xcsL, cn := [], ics := [] }
abbrev lb_check_text_1 : E.S := (.seq (.if_ (.op .notIn (.var 3) (.var 0)) (.seq (.raise 2 [66, 97, 100, 84, 101, 120, 116] (.cons (.var 2) .nil)) .skip) .skip) .skip)
abbrev fo_check_text_1 : E.S := (.for_ [] [2, 3] false (.bi .enum (.cons (.var 1) .nil)) lb_check_text_1)
def b_check_text : E.S := (.seq fo_check_text_1 .skip)
def P_check_text : Nat → List D → Res D
  | _ => fun _ => .bad
def F_check_text : List D → Res D := run P_check_text sub FUEL 4 b_check_text
def S_is_number_below : Scp := { N := ["value", "many"], sc := defScope s_is_number_below, raw := defScope s_is_number_below, fns := [(1, "is_whole", 1)], hot := [], glb := [], fl := fls, xcs := [], cn := [], ics := [] }
def b_is_number_below : E.S := (.seq (.ret (.and (.call 1 [105, 115, 95, 119, 104, 111, 108, 101] (.cons (.var 0) .nil)) (.one (.chn .le .lt (.int 0) (.var 0) (.var 1))))) .skip)
def P_is_number_below : Nat → List D → Res D
  | 1 => F_is_whole
  | _ => fun _ => .bad
def F_is_number_below : List D → Res D := run P_is_number_below sub FUEL 2 b_is_number_below
def S_is_arrow_row : Scp := { N := ["row", "letters", "states", "state"], sc := defScope s_is_arrow_row, raw := defScope s_is_arrow_row, fns := [(5, "is_number_below", 2)], hot := [], glb := [], fl := fls, xcs := [], cn := [], ics := [] }
abbrev fo_is_arrow_row_1 : C := (.lc [3] true (.var 0) (.bl true) (.call 5 [105, 115, 95, 110, 117, 109, 98, 101, 114, 95, 98, 101, 108, 111, 119] (.cons (.var 3) (.cons (.var 2) .nil))))
def b_is_arrow_row : E.S := (.seq (.if_ (.or (.not (.isi (.var 0) .tup)) (.one (.op .ne (.bi .len (.cons (.var 0) .nil)) (.var 1)))) (.seq (.ret (.bl false)) .skip) .skip) (.seq (.ret (.bi .all (.cons fo_is_arrow_row_1 .nil))) .skip))
def P_is_arrow_row : Nat → List D → Res D
  | 5 => F_is_number_below
  | _ => fun _ => .bad
def F_is_arrow_row : List D → Res D := run P_is_arrow_row sub FUEL 4 b_is_arrow_row
def S_Automaton : Scp := { N := ["self", "letters", "arrows", "yes", "rows", "told", "state", "row"], sc := defScope s_Automaton, raw := defScope s_Automaton, fns := [(0, "frozen", 1), (3, "check_letters", 1), (5, "is_number_below", 2), (6, "is_arrow_row", 3)], hot := [], glb := [], fl := fls, xcs := xcsL, cn := [], ics := [] }
abbrev fo_Automaton_2 : C := (.lc [6] true (.var 5) (.bl true) (.call 5 [105, 115, 95, 110, 117, 109, 98, 101, 114, 95, 98, 101, 108, 111, 119] (.cons (.var 6) (.cons (.bi .len (.cons (.var 4) .nil)) .nil))))
abbrev lb_Automaton_1 : E.S := (.seq (.if_ (.not (.call 6 [105, 115, 95, 97, 114, 114, 111, 119, 95, 114, 111, 119] (.cons (.var 7) (.cons (.bi .len (.cons (.var 1) .nil)) (.cons (.bi .len (.cons (.var 4) .nil)) .nil))))) (.seq (.raise 3 [66, 97, 100, 65, 117, 116, 111, 109, 97, 116, 111, 110] (.cons (.var 6) .nil)) .skip) .skip) .skip)
abbrev fo_Automaton_1 : E.S := (.for_ [] [6, 7] false (.bi .enum (.cons (.var 4) .nil)) lb_Automaton_1)
def b_Automaton : E.S := (.seq (.expr (.call 3 [99, 104, 101, 99, 107, 95, 108, 101, 116, 116, 101, 114, 115] (.cons (.var 1) .nil))) (.seq (.asg [4] true (.call 0 [102, 114, 111, 122, 101, 110] (.cons (.var 2) .nil))) (.seq fo_Automaton_1 (.seq (.asg [5] true (.call 0 [102, 114, 111, 122, 101, 110] (.cons (.var 3) .nil))) (.seq (.if_ (.or (.op .eq (.bi .len (.cons (.var 4) .nil)) (.int 0)) (.one (.not (.bi .all (.cons fo_Automaton_2 .nil))))) (.seq (.raise 3 [66, 97, 100, 65, 117, 116, 111, 109, 97, 116, 111, 110] (.cons (.bi .len (.cons (.var 4) .nil)) .nil)) .skip) .skip) .skip)))))
def P_Automaton : Nat → List D → Res D
  | 0 => F_frozen
  | 3 => F_check_letters
  | 5 => F_is_number_below
  | 6 => F_is_arrow_row
  | _ => fun _ => .bad
def a_Automaton : C := (.cons (.var 1) (.cons (.var 4) (.cons (.bi .tuple (.cons (.bi .sset (.cons (.var 5) .nil)) .nil)) .nil)))
def F_Automaton : List D → Res D := runI P_Automaton sub FUEL 8 4 b_Automaton a_Automaton
def S_states_behind : Scp := { N := ["automaton", "state", "known", "waiting", "after"], sc := defScope s_states_behind, raw := defScope s_states_behind, fns := [], hot := [], glb := [], fl := fls, xcs := [], cn := [], ics := [4] }
abbrev lb_states_behind_2 : E.S := (.seq (.if_ (.op .notIn (.var 4) (.var 2)) (.seq (.put 2 (.var 4) (.bl true)) (.seq (.mu .append 3 (.cons (.var 4) .nil)) .skip)) .skip) .skip)
abbrev fo_states_behind_2 : E.S := (.fpop [2, 3] [4] true (.fld 4 1 (.var 0)) 3 lb_states_behind_2)
abbrev lb_states_behind_1 : E.S := (.seq fo_states_behind_2 .skip)
abbrev fo_states_behind_1 : E.S := (.while_ [2, 3] (.op .gt (.bi .len (.cons (.var 3) .nil)) (.int 0)) lb_states_behind_1)
def b_states_behind : E.S := (.seq (.dnew1 2 (.var 1) (.bl true)) (.seq (.own 3 (.lst (.cons (.var 1) .nil))) (.seq fo_states_behind_1 (.seq (.ret (.bi .sorted (.cons (.var 2) .nil))) .skip))))
def P_states_behind : Nat → List D → Res D
  | _ => fun _ => .bad
def F_states_behind : List D → Res D := run P_states_behind sub FUEL 5 b_states_behind
def S_sure_word : Scp := { N := ["automaton", "state", "words", "after"], sc := defScope s_sure_word, raw := defScope s_sure_word, fns := [(7, "states_behind", 2)], hot := [], glb := [], fl := fls, xcs := [], cn := [], ics := [4] }
abbrev fo_sure_word_1 : C := (.lc [3] true (.call 7 [115, 116, 97, 116, 101, 115, 95, 98, 101, 104, 105, 110, 100] (.cons (.var 0) (.cons (.var 1) .nil))) (.bl true) (.op .in_ (.var 3) (.fld 4 2 (.var 0))))
def b_sure_word : E.S := (.seq (.asg [2] true fo_sure_word_1) (.seq (.if_ (.op .notIn (.bl false) (.var 2)) (.seq (.ret (.bl true)) .skip) .skip) (.seq (.if_ (.op .notIn (.bl true) (.var 2)) (.seq (.ret (.bl false)) .skip) .skip) (.seq (.ret .non) .skip))))
def P_sure_word : Nat → List D → Res D
  | 7 => F_states_behind
  | _ => fun _ => .bad
def F_sure_word : List D → Res D := run P_sure_word sub FUEL 4 b_sure_word
def S_earliest : Scp := { N := ["automaton", "text", "state", "at", "character"], sc := defScope s_earliest, raw := defScope s_earliest, fns := [(4, "check_text", 2), (8, "sure_word", 2)], hot := [], glb := [], fl := fls, xcs := [], cn := [], ics := [4] }
abbrev lb_earliest_1 : E.S := (.seq (.asg [2] true (.idx (.idx (.fld 4 1 (.var 0)) (.var 2)) (.mt .index (.fld 4 0 (.var 0)) (.cons (.var 4) .nil)))) (.seq (.if_ (.is_ .non true (.call 8 [115, 117, 114, 101, 95, 119, 111, 114, 100] (.cons (.var 0) (.cons (.var 2) .nil)))) (.seq (.ret (.var 3)) .skip) .skip) .skip))
abbrev fo_earliest_1 : E.S := (.for_ [] [3, 4] false (.bi .enum (.cons (.var 1) .nil)) lb_earliest_1)
def b_earliest : E.S := (.seq (.expr (.call 4 [99, 104, 101, 99, 107, 95, 116, 101, 120, 116] (.cons (.fld 4 0 (.var 0)) (.cons (.var 1) .nil)))) (.seq (.asg [2] true (.int 0)) (.seq fo_earliest_1 (.seq (.ret (.bi .len (.cons (.var 1) .nil))) .skip))))
def P_earliest : Nat → List D → Res D
  | 4 => F_check_text
  | 8 => F_sure_word
  | _ => fun _ => .bad
def F_earliest : List D → Res D := run P_earliest sub FUEL 5 b_earliest
def S__law_whole : Scp := { N := ["value"], sc := defScope s__law_whole, raw := defScope s__law_whole, fns := [], hot := [], glb := [], fl := fls, xcs := [], cn := [], ics := [] }
def b__law_whole : E.S := (.seq (.ret (.and (.isi (.var 0) .int) (.one (.not (.isi (.var 0) .bool))))) .skip)
def P__law_whole : Nat → List D → Res D
  | _ => fun _ => .bad
def F__law_whole : List D → Res D := run P__law_whole sub FUEL 1 b__law_whole
def S__law_cell : Scp := { N := ["script", "k", "seed", "cell"], sc := defScope s__law_cell, raw := defScope s__law_cell, fns := [], hot := [], glb := [], fl := fls, xcs := [], cn := [], ics := [] }
abbrev lb__law_cell_1 : E.S := (.seq (.asg [2] true (.op .mod (.bi .int (.cons (.op .add (.op .mul (.var 2) (.int 31)) (.op .mod (.bi .int (.cons (.var 3) .nil)) (.int 1000003))) .nil)) (.int 1000003))) .skip)
abbrev fo__law_cell_1 : E.S := (.for_ [] [3] true (.var 0) lb__law_cell_1)
def b__law_cell : E.S := (.seq (.if_ (.op .lt (.var 1) (.bi .len (.cons (.var 0) .nil))) (.seq (.ret (.op .mod (.bi .int (.cons (.idx (.var 0) (.var 1)) .nil)) (.op .mul (.op .pow (.int 10) (.int 60)) (.op .pow (.int 10) (.int 60))))) .skip) .skip) (.seq (.asg [2] true (.int 17)) (.seq fo__law_cell_1 (.seq (.ret (.op .mod (.bi .int (.cons (.op .mul (.op .mul (.op .add (.var 2) (.int 7)) (.op .add (.var 1) (.int 3))) (.int 69621)) .nil)) (.int 2147483647))) .skip))))
def P__law_cell : Nat → List D → Res D
  | _ => fun _ => .bad
def F__law_cell : List D → Res D := run P__law_cell sub FUEL 4 b__law_cell
def S__law_digits : Scp := { N := ["cell", "sizes", "row", "rest", "seed", "k", "size", "twice"], sc := defScope s__law_digits, raw := defScope s__law_digits, fns := [], hot := [], glb := [], fl := fls, xcs := [], cn := [], ics := [] }
abbrev lb__law_digits_2 : E.S := (.seq (.asg [4] true (.op .mod (.bi .int (.cons (.op .add (.op .add (.op .mul (.var 4) (.int 48271)) (.op .mul (.int 974711) (.var 5))) (.int 12345)) .nil)) (.int 2147483647))) (.seq (.asg [7] true (.op .mod (.bi .int (.cons (.op .mul (.var 4) (.op .add (.op .fdiv (.var 4) (.int 65537)) (.int 3))) .nil)) (.int 2147483629))) (.seq (.mu .append 2 (.cons (.op .mod (.op .fdiv (.var 7) (.int 19)) (.idx (.var 1) (.var 5))) .nil)) .skip)))
abbrev fo__law_digits_2 : E.S := (.for_ [2] [5] true (.bi .rng1 (.cons (.bi .len (.cons (.var 1) .nil)) .nil)) lb__law_digits_2)
abbrev lb__law_digits_1 : E.S := (.seq (.mu .append 2 (.cons (.op .mod (.bi .int (.cons (.var 3) .nil)) (.var 6)) .nil)) (.seq (.asg [3] true (.op .fdiv (.bi .int (.cons (.var 3) .nil)) (.var 6))) .skip))
abbrev fo__law_digits_1 : E.S := (.for_ [2] [6] true (.var 1) lb__law_digits_1)
def b__law_digits : E.S := (.seq (.own 2 (.lst .nil)) (.seq (.asg [3] true (.bi .int (.cons (.var 0) .nil))) (.seq (.if_ (.op .ge (.var 3) (.op .pow (.int 10) (.int 18))) (.seq (.asg [3] true (.op .sub (.var 3) (.op .pow (.int 10) (.int 18)))) (.seq fo__law_digits_1 (.seq (.frz 2 (.ret (.var 2))) .skip))) .skip) (.seq (.asg [4] true (.op .mod (.bi .int (.cons (.var 3) .nil)) (.int 2147483629))) (.seq fo__law_digits_2 (.seq (.frz 2 (.ret (.var 2))) .skip))))))
def P__law_digits : Nat → List D → Res D
  | _ => fun _ => .bad
def F__law_digits : List D → Res D := run P__law_digits sub FUEL 8 b__law_digits
def S__law_letters : Scp := { N := ["row", "names", "second", "third"], sc := defScope s__law_letters, raw := defScope s__law_letters, fns := [], hot := [], glb := [], fl := fls, xcs := [], cn := [], ics := [] }
def b__law_letters : E.S := (.seq (.asg [1] true (.str [97, 98, 99, 100, 101, 102, 103, 104, 105, 106, 107, 108, 109, 110, 111, 112, 113, 114, 115, 116, 117, 118, 119, 120, 121, 122])) (.seq (.asg [2] true (.op .add (.op .add (.idx (.var 0) (.int 1)) (.int 1)) (.idx (.var 0) (.int 2)))) (.seq (.asg [3] true (.op .add (.op .add (.var 2) (.int 1)) (.idx (.var 0) (.int 3)))) (.seq (.if_ (.op .eq (.idx (.var 0) (.int 0)) (.int 0)) (.seq (.ret (.idx (.var 1) (.idx (.var 0) (.int 1)))) .skip) .skip) (.seq (.if_ (.op .eq (.idx (.var 0) (.int 0)) (.int 1)) (.seq (.ret (.op .add (.op .add (.idx (.var 1) (.idx (.var 0) (.int 1))) (.idx (.var 1) (.var 2))) (.idx (.var 1) (.var 3)))) .skip) .skip) (.seq (.ret (.op .add (.idx (.var 1) (.idx (.var 0) (.int 1))) (.idx (.var 1) (.var 2)))) .skip))))))
def P__law_letters : Nat → List D → Res D
  | _ => fun _ => .bad
def F__law_letters : List D → Res D := run P__law_letters sub FUEL 4 b__law_letters
def S__law_long_text : Scp := { N := ["letters", "cell", "size", "text", "seed", "k"], sc := defScope s__law_long_text, raw := defScope s__law_long_text, fns := [], hot := [], glb := [], fl := fls, xcs := [], cn := [], ics := [] }
abbrev lb__law_long_text_1 : E.S := (.seq (.asg [4] true (.op .mod (.bi .int (.cons (.op .add (.op .add (.op .mul (.var 4) (.int 48271)) (.op .mul (.int 974711) (.var 5))) (.int 12345)) .nil)) (.int 2147483647))) (.seq (.asg [3] true (.op .add (.var 3) (.idx (.var 0) (.op .mod (.op .fdiv (.var 4) (.int 65537)) (.bi .len (.cons (.var 0) .nil)))))) .skip))
abbrev fo__law_long_text_1 : E.S := (.for_ [] [5] true (.bi .rng1 (.cons (.var 2) .nil)) lb__law_long_text_1)
def b__law_long_text : E.S := (.seq (.asg [3] true (.str [])) (.seq (.asg [4] true (.op .mod (.bi .int (.cons (.var 1) .nil)) (.int 2147483629))) (.seq fo__law_long_text_1 (.seq (.ret (.var 3)) .skip))))
def P__law_long_text : Nat → List D → Res D
  | _ => fun _ => .bad
def F__law_long_text : List D → Res D := run P__law_long_text sub FUEL 6 b__law_long_text
def S__law_texts : Scp := { N := ["letters", "length", "texts", "k", "grown", "text", "letter"], sc := defScope s__law_texts, raw := defScope s__law_texts, fns := [], hot := [], glb := [], fl := fls, xcs := [], cn := [], ics := [] }
abbrev lb__law_texts_3 : E.S := (.seq (.mu .append 4 (.cons (.op .add (.var 5) (.var 6)) .nil)) .skip)
abbrev fo__law_texts_3 : E.S := (.for_ [4] [6] true (.var 0) lb__law_texts_3)
abbrev lb__law_texts_2 : E.S := (.seq fo__law_texts_3 .skip)
abbrev fo__law_texts_2 : E.S := (.for_ [4] [5] true (.var 2) lb__law_texts_2)
abbrev lb__law_texts_1 : E.S := (.seq (.own 4 (.lst .nil)) (.seq fo__law_texts_2 (.seq (.frz 4 (.asg [2] true (.var 4))) .skip)))
abbrev fo__law_texts_1 : E.S := (.for_ [] [3] true (.bi .rng1 (.cons (.var 1) .nil)) lb__law_texts_1)
def b__law_texts : E.S := (.seq (.asg [2] true (.lst (.cons (.str []) .nil))) (.seq fo__law_texts_1 (.seq (.ret (.var 2)) .skip)))
def P__law_texts : Nat → List D → Res D
  | _ => fun _ => .bad
def F__law_texts : List D → Res D := run P__law_texts sub FUEL 7 b__law_texts
def S__law_automaton : Scp := { N := ["script", "at", "letters", "shape", "many", "row", "arrows", "yes", "state", "part", "k", "letter"], sc := defScope s__law_automaton, raw := defScope s__law_automaton, fns := [(11, "_law_cell", 2), (12, "_law_digits", 2)], hot := [], glb := [], fl := fls, xcs := [], cn := [], ics := [] }
abbrev fo__law_automaton_3 : C := (.lc [11] true (.var 2) (.bl true) (.var 8))
abbrev fo__law_automaton_2 : C := (.lc [10] true (.bi .rng1 (.cons (.bi .len (.cons (.var 2) .nil)) .nil)) (.bl true) (.op .mod (.idx (.var 9) (.var 10)) (.var 4)))
abbrev lb__law_automaton_1 : E.S := (.seq (.asg [9] true (.slc (.var 5) (.op .mul (.int 4) (.var 8)) (.op .add (.op .mul (.int 4) (.var 8)) (.int 4)))) (.seq (.mu .append 6 (.cons fo__law_automaton_2 .nil)) (.seq (.if_ (.and (.op .eq (.idx (.var 9) (.int 3)) (.int 0)) (.and (.op .gt (.idx (.var 3) (.int 1)) (.int 0)) (.one (.op .gt (.var 8) (.int 0))))) (.seq (.put 6 (.var 8) fo__law_automaton_3) .skip) .skip) (.seq (.if_ (.op .eq (.op .mod (.op .add (.var 8) (.op .fdiv (.idx (.var 9) (.int 0)) (.int 7))) (.int 2)) (.bi .int (.cons (.op .eq (.idx (.var 3) (.int 2)) (.int 0)) .nil))) (.seq (.mu .append 7 (.cons (.var 8) .nil)) .skip) .skip) .skip))))
abbrev fo__law_automaton_1 : E.S := (.for_ [6, 7] [8] true (.bi .rng1 (.cons (.var 4) .nil)) lb__law_automaton_1)
def b__law_automaton : E.S := (.seq (.asg [3] true (.call 12 [95, 108, 97, 119, 95, 100, 105, 103, 105, 116, 115] (.cons (.call 11 [95, 108, 97, 119, 95, 99, 101, 108, 108] (.cons (.var 0) (.cons (.var 1) .nil))) (.cons (.lst (.cons (.int 9) (.cons (.int 4) (.cons (.int 3) .nil)))) .nil)))) (.seq (.asg [4] true (.idx (.lst (.cons (.int 3) (.cons (.int 4) (.cons (.int 2) (.cons (.int 5) (.cons (.int 6) (.cons (.int 8) (.cons (.int 1) (.cons (.int 10) (.cons (.int 4) .nil)))))))))) (.idx (.var 3) (.int 0)))) (.seq (.asg [5] true (.call 12 [95, 108, 97, 119, 95, 100, 105, 103, 105, 116, 115] (.cons (.call 11 [95, 108, 97, 119, 95, 99, 101, 108, 108] (.cons (.var 0) (.cons (.op .add (.var 1) (.int 1)) .nil))) (.cons (.op .mul (.lst (.cons (.int 60) (.cons (.int 60) (.cons (.int 60) (.cons (.int 5) .nil))))) (.int 10)) .nil)))) (.seq (.own 6 (.lst .nil)) (.seq (.own 7 (.lst .nil)) (.seq fo__law_automaton_1 (.seq (.frz 7 (.frz 6 (.ret (.lst (.cons (.var 6) (.cons (.var 7) .nil)))))) .skip)))))))
def P__law_automaton : Nat → List D → Res D
  | 11 => F__law_cell
  | 12 => F__law_digits
  | _ => fun _ => .bad
def F__law_automaton : List D → Res D := run P__law_automaton sub FUEL 12 b__law_automaton
def S__law_sure : Scp := { N := ["arrows", "yes", "state", "reached", "at", "words", "after"], sc := defScope s__law_sure, raw := defScope s__law_sure, fns := [], hot := [], glb := [], fl := fls, xcs := [], cn := [], ics := [] }
abbrev fo__law_sure_3 : C := (.lc [6] true (.var 3) (.bl true) (.op .in_ (.var 6) (.var 1)))
abbrev lb__law_sure_2 : E.S := (.seq (.if_ (.op .notIn (.var 6) (.var 3)) (.seq (.mu .append 3 (.cons (.var 6) .nil)) .skip) .skip) .skip)
abbrev fo__law_sure_2 : E.S := (.for_ [3] [6] true (.idx (.var 0) (.idx (.var 3) (.var 4))) lb__law_sure_2)
abbrev lb__law_sure_1 : E.S := (.seq (.if_ (.op .lt (.var 4) (.bi .len (.cons (.var 3) .nil))) (.seq fo__law_sure_2 .skip) .skip) .skip)
abbrev fo__law_sure_1 : E.S := (.for_ [3] [4] true (.bi .rng1 (.cons (.bi .len (.cons (.var 0) .nil)) .nil)) lb__law_sure_1)
def b__law_sure : E.S := (.seq (.own 3 (.lst (.cons (.var 2) .nil))) (.seq fo__law_sure_1 (.seq (.frz 3 (.asg [5] true fo__law_sure_3)) (.seq (.if_ (.op .notIn (.bl false) (.var 5)) (.seq (.ret (.bl true)) .skip) .skip) (.seq (.if_ (.op .notIn (.bl true) (.var 5)) (.seq (.ret (.bl false)) .skip) .skip) (.seq (.ret .non) .skip))))))
def P__law_sure : Nat → List D → Res D
  | _ => fun _ => .bad
def F__law_sure : List D → Res D := run P__law_sure sub FUEL 7 b__law_sure
def S__law_earliest : Scp := { N := ["arrows", "yes", "letters", "text", "state", "found", "k"], sc := defScope s__law_earliest, raw := defScope s__law_earliest, fns := [(17, "_law_sure", 3)], hot := [], glb := [], fl := fls, xcs := [], cn := [], ics := [] }
abbrev lb__law_earliest_1 : E.S := (.seq (.asg [4] true (.idx (.idx (.var 0) (.var 4)) (.mt .index (.var 2) (.cons (.idx (.var 3) (.var 6)) .nil)))) (.seq (.if_ (.and (.op .eq (.var 5) (.bi .len (.cons (.var 3) .nil))) (.one (.is_ .non true (.call 17 [95, 108, 97, 119, 95, 115, 117, 114, 101] (.cons (.var 0) (.cons (.var 1) (.cons (.var 4) .nil))))))) (.seq (.asg [5] true (.bi .min2 (.cons (.var 5) (.cons (.var 6) .nil)))) .skip) .skip) .skip))
abbrev fo__law_earliest_1 : E.S := (.for_ [] [6] true (.bi .rng1 (.cons (.bi .len (.cons (.var 3) .nil)) .nil)) lb__law_earliest_1)
def b__law_earliest : E.S := (.seq (.asg [4] true (.int 0)) (.seq (.asg [5] true (.bi .len (.cons (.var 3) .nil))) (.seq fo__law_earliest_1 (.seq (.ret (.lst (.cons (.var 5) (.cons (.op .in_ (.var 4) (.var 1)) .nil)))) .skip))))
def P__law_earliest : Nat → List D → Res D
  | 17 => F__law_sure
  | _ => fun _ => .bad
def F__law_earliest : List D → Res D := run P__law_earliest sub FUEL 7 b__law_earliest
def S__law_refused : Scp := { N := ["automaton", "text", "place", "e"], sc := defScope s__law_refused, raw := defScope s__law_refused, fns := [(9, "earliest", 2)], hot := [(10, "_law_whole", 1)], glb := [], fl := fls, xcs := [], cn := cnL, ics := [] }
abbrev fo__law_refused_1 : E.S := (.try_ (.seq (.expr (.call 9 [101, 97, 114, 108, 105, 101, 115, 116] (.cons (.var 0) (.cons (.var 1) .nil)))) .skip) (.hnd 2 [66, 97, 100, 84, 101, 120, 116] 3 [101] (.seq (.ret (.and (.eisi 3 0) (.and (.call 10 [95, 108, 97, 119, 95, 119, 104, 111, 108, 101] (.cons (.efld 3 2 0) .nil)) (.one (.op .eq (.efld 3 2 0) (.var 2)))))) .skip) .skip))
def b__law_refused : E.S := (.seq fo__law_refused_1 (.seq (.ret (.bl false)) .skip))
def P__law_refused : Nat → List D → Res D
  | 9 => F_earliest
  | 10 => F__law_whole
  | _ => fun _ => .bad
def F__law_refused : List D → Res D := run P__law_refused sub FUEL 4 b__law_refused
def S_law : Scp := { N := ["script", "letters", "told", "automaton", "row", "texts", "k", "text", "due"], sc := defScope s_law, raw := defScope s_law, fns := [(9, "earliest", 2), (10, "_law_whole", 1), (11, "_law_cell", 2), (12, "_law_digits", 2), (13, "_law_letters", 1), (14, "_law_long_text", 3), (15, "_law_texts", 2), (16, "_law_automaton", 3), (18, "_law_earliest", 4), (19, "_law_refused", 3), (1004, "Automaton", 3)], hot := [], glb := [], fl := fls, xcs := [], cn := [], ics := [] }
abbrev lb_law_2 : E.S := (.seq (.asg [8] true (.idx (.call 18 [95, 108, 97, 119, 95, 101, 97, 114, 108, 105, 101, 115, 116] (.cons (.idx (.var 2) (.int 0)) (.cons (.idx (.var 2) (.int 1)) (.cons (.var 1) (.cons (.var 7) .nil))))) (.int 0))) (.seq (.if_ (.or (.not (.call 10 [95, 108, 97, 119, 95, 119, 104, 111, 108, 101] (.cons (.call 9 [101, 97, 114, 108, 105, 101, 115, 116] (.cons (.var 3) (.cons (.var 7) .nil))) .nil))) (.one (.op .ne (.call 9 [101, 97, 114, 108, 105, 101, 115, 116] (.cons (.var 3) (.cons (.var 7) .nil))) (.var 8)))) (.seq (.ret (.bl false)) .skip) .skip) .skip))
abbrev fo_law_2 : E.S := (.for_ [] [7] true (.var 5) lb_law_2)
abbrev lb_law_1 : E.S := (.seq (.mu .append 5 (.cons (.call 14 [95, 108, 97, 119, 95, 108, 111, 110, 103, 95, 116, 101, 120, 116] (.cons (.var 1) (.cons (.call 11 [95, 108, 97, 119, 95, 99, 101, 108, 108] (.cons (.var 0) (.cons (.op .add (.int 4) (.var 6)) .nil))) (.cons (.idx (.var 4) (.var 6)) .nil)))) .nil)) .skip)
abbrev fo_law_1 : E.S := (.for_ [5] [6] true (.bi .rng1 (.cons (.int 3) .nil)) lb_law_1)
def b_law : E.S := (.seq (.asg [1] true (.call 13 [95, 108, 97, 119, 95, 108, 101, 116, 116, 101, 114, 115] (.cons (.call 12 [95, 108, 97, 119, 95, 100, 105, 103, 105, 116, 115] (.cons (.call 11 [95, 108, 97, 119, 95, 99, 101, 108, 108] (.cons (.var 0) (.cons (.int 0) .nil))) (.cons (.lst (.cons (.int 8) (.cons (.int 8) (.cons (.int 8) (.cons (.int 8) .nil))))) .nil))) .nil))) (.seq (.asg [2] true (.call 16 [95, 108, 97, 119, 95, 97, 117, 116, 111, 109, 97, 116, 111, 110] (.cons (.var 0) (.cons (.int 1) (.cons (.var 1) .nil))))) (.seq (.asg [3] true (.call 1004 [65, 117, 116, 111, 109, 97, 116, 111, 110] (.cons (.var 1) (.cons (.idx (.var 2) (.int 0)) (.cons (.idx (.var 2) (.int 1)) .nil))))) (.seq (.asg [4] true (.call 12 [95, 108, 97, 119, 95, 100, 105, 103, 105, 116, 115] (.cons (.call 11 [95, 108, 97, 119, 95, 99, 101, 108, 108] (.cons (.var 0) (.cons (.int 3) .nil))) (.cons (.lst (.cons (.int 13) (.cons (.int 13) (.cons (.int 401) (.cons (.int 9) (.cons (.int 9) .nil)))))) .nil)))) (.seq (.own 5 (.op .add (.op .add (.lst (.cons (.str []) .nil)) (.call 15 [95, 108, 97, 119, 95, 116, 101, 120, 116, 115] (.cons (.var 1) (.cons (.int 1) .nil)))) (.call 15 [95, 108, 97, 119, 95, 116, 101, 120, 116, 115] (.cons (.var 1) (.cons (.int 2) .nil))))) (.seq fo_law_1 (.seq fo_law_2 (.seq (.asg [7] true (.op .add (.op .add (.call 14 [95, 108, 97, 119, 95, 108, 111, 110, 103, 95, 116, 101, 120, 116] (.cons (.var 1) (.cons (.call 11 [95, 108, 97, 119, 95, 99, 101, 108, 108] (.cons (.var 0) (.cons (.int 7) .nil))) (.cons (.idx (.var 4) (.int 3)) .nil)))) (.str [65])) (.call 14 [95, 108, 97, 119, 95, 108, 111, 110, 103, 95, 116, 101, 120, 116] (.cons (.var 1) (.cons (.call 11 [95, 108, 97, 119, 95, 99, 101, 108, 108] (.cons (.var 0) (.cons (.int 8) .nil))) (.cons (.idx (.var 4) (.int 4)) .nil)))))) (.seq (.ret (.call 19 [95, 108, 97, 119, 95, 114, 101, 102, 117, 115, 101, 100] (.cons (.var 3) (.cons (.var 7) (.cons (.idx (.var 4) (.int 3)) .nil))))) .skip)))))))))
def P_law : Nat → List D → Res D
  | 9 => F_earliest
  | 10 => F__law_whole
  | 11 => F__law_cell
  | 12 => F__law_digits
  | 13 => F__law_letters
  | 14 => F__law_long_text
  | 15 => F__law_texts
  | 16 => F__law_automaton
  | 18 => F__law_earliest
  | 19 => F__law_refused
  | 1004 => F_Automaton
  | _ => fun _ => .bad
def F_law : List D → Res D := run P_law sub FUEL 9 b_law
theorem ch__law_whole : (chkSs (hotS S__law_whole) [] b__law_whole [] (defBody s__law_whole)).isSome = true := by decide +kernel
theorem c_Automaton : (chkSs (iniS S_Automaton) [] b_Automaton [] ((defBody s_Automaton).take 5)).isSome = true := by decide +kernel
theorem cs_Automaton : chkSt (iniS S_Automaton) ["letters", "arrows", "yes"] a_Automaton ((defBody s_Automaton).drop 5) = true := by decide +kernel
theorem c_frozen : (chkSs S_frozen [] b_frozen [] (defBody s_frozen)).isSome = true := by decide +kernel
theorem c_is_whole : (chkSs S_is_whole [] b_is_whole [] (defBody s_is_whole)).isSome = true := by decide +kernel
theorem c_are_letters : (chkSs S_are_letters [] b_are_letters [] (defBody s_are_letters)).isSome = true := by decide +kernel
theorem c_check_letters : (chkSs S_check_letters [] b_check_letters [] (defBody s_check_letters)).isSome = true := by decide +kernel
theorem c_check_text : (chkSs S_check_text [] b_check_text [] (defBody s_check_text)).isSome = true := by decide +kernel
theorem c_is_number_below : (chkSs S_is_number_below [] b_is_number_below [] (defBody s_is_number_below)).isSome = true := by decide +kernel
theorem c_is_arrow_row : (chkSs S_is_arrow_row [] b_is_arrow_row [] (defBody s_is_arrow_row)).isSome = true := by decide +kernel
theorem c_states_behind : (chkSs S_states_behind [] b_states_behind [] (defBody s_states_behind)).isSome = true := by decide +kernel
theorem c_sure_word : (chkSs S_sure_word [] b_sure_word [] (defBody s_sure_word)).isSome = true := by decide +kernel
theorem c_earliest : (chkSs S_earliest [] b_earliest [] (defBody s_earliest)).isSome = true := by decide +kernel
theorem c__law_whole : (chkSs S__law_whole [] b__law_whole [] (defBody s__law_whole)).isSome = true := by decide +kernel
theorem c__law_cell : (chkSs S__law_cell [] b__law_cell [] (defBody s__law_cell)).isSome = true := by decide +kernel
theorem c__law_digits : (chkSs S__law_digits [] b__law_digits [] (defBody s__law_digits)).isSome = true := by decide +kernel
theorem c__law_letters : (chkSs S__law_letters [] b__law_letters [] (defBody s__law_letters)).isSome = true := by decide +kernel
theorem c__law_long_text : (chkSs S__law_long_text [] b__law_long_text [] (defBody s__law_long_text)).isSome = true := by decide +kernel
theorem c__law_texts : (chkSs S__law_texts [] b__law_texts [] (defBody s__law_texts)).isSome = true := by decide +kernel
theorem c__law_automaton : (chkSs S__law_automaton [] b__law_automaton [] (defBody s__law_automaton)).isSome = true := by decide +kernel
theorem c__law_sure : (chkSs S__law_sure [] b__law_sure [] (defBody s__law_sure)).isSome = true := by decide +kernel
theorem c__law_earliest : (chkSs S__law_earliest [] b__law_earliest [] (defBody s__law_earliest)).isSome = true := by decide +kernel
theorem c__law_refused : (chkSs S__law_refused [] b__law_refused [] (defBody s__law_refused)).isSome = true := by decide +kernel
theorem c_law : (chkSs S_law [] b_law [] (defBody s_law)).isSome = true := by decide +kernel
theorem sc_frozen : FnScope S_frozen.N ["value"] (defScope s_frozen) := ⟨rfl, rfl, rfl, by decide +kernel, rfl, by decide +kernel, by decide +kernel⟩
theorem sc_is_whole : FnScope S_is_whole.N ["value"] (defScope s_is_whole) := ⟨rfl, rfl, rfl, by decide +kernel, rfl, by decide +kernel, by decide +kernel⟩
theorem sc_are_letters : FnScope S_are_letters.N ["letters"] (defScope s_are_letters) := ⟨rfl, rfl, rfl, by decide +kernel, rfl, by decide +kernel, by decide +kernel⟩
theorem sc_check_letters : FnScope S_check_letters.N ["letters"] (defScope s_check_letters) := ⟨rfl, rfl, rfl, by decide +kernel, rfl, by decide +kernel, by decide +kernel⟩
theorem sc_check_text : FnScope S_check_text.N ["letters", "text"] (defScope s_check_text) := ⟨rfl, rfl, rfl, by decide +kernel, rfl, by decide +kernel, by decide +kernel⟩
theorem sc_is_number_below : FnScope S_is_number_below.N ["value", "many"] (defScope s_is_number_below) := ⟨rfl, rfl, rfl, by decide +kernel, rfl, by decide +kernel, by decide +kernel⟩
theorem sc_is_arrow_row : FnScope S_is_arrow_row.N ["row", "letters", "states"] (defScope s_is_arrow_row) := ⟨rfl, rfl, rfl, by decide +kernel, rfl, by decide +kernel, by decide +kernel⟩
theorem sc_Automaton : FnScope S_Automaton.N ["self", "letters", "arrows", "yes"] (defScope s_Automaton) := ⟨rfl, rfl, rfl, by decide +kernel, rfl, by decide +kernel, by decide +kernel⟩
theorem sc_states_behind : FnScope S_states_behind.N ["automaton", "state"] (defScope s_states_behind) := ⟨rfl, rfl, rfl, by decide +kernel, rfl, by decide +kernel, by decide +kernel⟩
theorem sc_sure_word : FnScope S_sure_word.N ["automaton", "state"] (defScope s_sure_word) := ⟨rfl, rfl, rfl, by decide +kernel, rfl, by decide +kernel, by decide +kernel⟩
theorem sc_earliest : FnScope S_earliest.N ["automaton", "text"] (defScope s_earliest) := ⟨rfl, rfl, rfl, by decide +kernel, rfl, by decide +kernel, by decide +kernel⟩
theorem sc__law_whole : FnScope S__law_whole.N ["value"] (defScope s__law_whole) := ⟨rfl, rfl, rfl, by decide +kernel, rfl, by decide +kernel, by decide +kernel⟩
theorem sc__law_cell : FnScope S__law_cell.N ["script", "k"] (defScope s__law_cell) := ⟨rfl, rfl, rfl, by decide +kernel, rfl, by decide +kernel, by decide +kernel⟩
theorem sc__law_digits : FnScope S__law_digits.N ["cell", "sizes"] (defScope s__law_digits) := ⟨rfl, rfl, rfl, by decide +kernel, rfl, by decide +kernel, by decide +kernel⟩
theorem sc__law_letters : FnScope S__law_letters.N ["row"] (defScope s__law_letters) := ⟨rfl, rfl, rfl, by decide +kernel, rfl, by decide +kernel, by decide +kernel⟩
theorem sc__law_long_text : FnScope S__law_long_text.N ["letters", "cell", "size"] (defScope s__law_long_text) := ⟨rfl, rfl, rfl, by decide +kernel, rfl, by decide +kernel, by decide +kernel⟩
theorem sc__law_texts : FnScope S__law_texts.N ["letters", "length"] (defScope s__law_texts) := ⟨rfl, rfl, rfl, by decide +kernel, rfl, by decide +kernel, by decide +kernel⟩
theorem sc__law_automaton : FnScope S__law_automaton.N ["script", "at", "letters"] (defScope s__law_automaton) := ⟨rfl, rfl, rfl, by decide +kernel, rfl, by decide +kernel, by decide +kernel⟩
theorem sc__law_sure : FnScope S__law_sure.N ["arrows", "yes", "state"] (defScope s__law_sure) := ⟨rfl, rfl, rfl, by decide +kernel, rfl, by decide +kernel, by decide +kernel⟩
theorem sc__law_earliest : FnScope S__law_earliest.N ["arrows", "yes", "letters", "text"] (defScope s__law_earliest) := ⟨rfl, rfl, rfl, by decide +kernel, rfl, by decide +kernel, by decide +kernel⟩
theorem sc__law_refused : FnScope S__law_refused.N ["automaton", "text", "place"] (defScope s__law_refused) := ⟨rfl, rfl, rfl, by decide +kernel, rfl, by decide +kernel, by decide +kernel⟩
theorem sc_law : FnScope S_law.N ["script"] (defScope s_law) := ⟨rfl, rfl, rfl, by decide +kernel, rfl, by decide +kernel, by decide +kernel⟩
theorem sci_BadLetters : FnScope ["self", "letters"] ["self", "letters"] (defScope i_BadLetters) := ⟨rfl, rfl, rfl, by decide +kernel, rfl, by decide +kernel, by decide +kernel⟩
theorem sci_BadText : FnScope ["self", "index"] ["self", "index"] (defScope i_BadText) := ⟨rfl, rfl, rfl, by decide +kernel, rfl, by decide +kernel, by decide +kernel⟩
theorem sci_BadAutomaton : FnScope ["self", "state"] ["self", "state"] (defScope i_BadAutomaton) := ⟨rfl, rfl, rfl, by decide +kernel, rfl, by decide +kernel, by decide +kernel⟩
def TB (ca : Nat → Addr) : Tb := { ca := ca, fl := fun c => fls.getD c [], z := fun _ => True, zm := fun _ h => h, ze := fun _ _ => True, pr := [], zs := fun _ h => h }
def cas (C_ClockError C_BadLetters C_BadText C_BadAutomaton C_Automaton : Addr) : Nat → Addr
  | 0 => C_ClockError
  | 1 => C_BadLetters
  | 2 => C_BadText
  | 3 => C_BadAutomaton
  | 4 => C_Automaton
  | _ => C_ClockError
set_option maxHeartbeats 4000000 in
theorem all_mk {P : Program} {w : World} {K : PySem.W.Frag} {h : Heap} {mg : Str → Option Value} {fa : Addr} (X : K.In h) (G : h.Ns mainGlobals mg) (hfa : mg "law" = some (.ref fa))
    {C_ClockError : Addr}
    {C_BadLetters : Addr}
    {C_BadText : Addr}
    {C_BadAutomaton : Addr}
    {C_Automaton : Addr}
    {nm_BadLetters q_BadLetters : Str} {N_BadLetters fi_BadLetters : Addr} {bs_BadLetters bm_BadLetters sub_BadLetters : List Value} {sn_BadLetters : List Str} {ab_BadLetters : Bool} {col_BadLetters : Option Bool} {dd_BadLetters od_BadLetters an_BadLetters : Option Addr} {m0_BadLetters m1_BadLetters m2_BadLetters m3_BadLetters m5_BadLetters : Option Value} {oc_BadLetters kV_BadLetters dc_BadLetters pm_BadLetters cd_BadLetters ct_BadLetters : Value} {sl_BadLetters : Array (Option Value)}
    {nm_BadText q_BadText : Str} {N_BadText fi_BadText : Addr} {bs_BadText bm_BadText sub_BadText : List Value} {sn_BadText : List Str} {ab_BadText : Bool} {col_BadText : Option Bool} {dd_BadText od_BadText an_BadText : Option Addr} {m0_BadText m1_BadText m2_BadText m3_BadText m5_BadText : Option Value} {oc_BadText kV_BadText dc_BadText pm_BadText cd_BadText ct_BadText : Value} {sl_BadText : Array (Option Value)}
    {nm_BadAutomaton q_BadAutomaton : Str} {N_BadAutomaton fi_BadAutomaton : Addr} {bs_BadAutomaton bm_BadAutomaton sub_BadAutomaton : List Value} {sn_BadAutomaton : List Str} {ab_BadAutomaton : Bool} {col_BadAutomaton : Option Bool} {dd_BadAutomaton od_BadAutomaton an_BadAutomaton : Option Addr} {m0_BadAutomaton m1_BadAutomaton m2_BadAutomaton m3_BadAutomaton m5_BadAutomaton : Option Value} {oc_BadAutomaton kV_BadAutomaton dc_BadAutomaton pm_BadAutomaton cd_BadAutomaton ct_BadAutomaton : Value} {sl_BadAutomaton : Array (Option Value)}
    {t0_ALPHABET : Tok}
    {fi_Automaton : Addr} {od_Automaton an_Automaton : Option Addr} {sl_Automaton : Array (Option Value)} {oc_Automaton kV_Automaton dc_Automaton pm_Automaton cd_Automaton ct_Automaton : Value}
    {f_frozen : Addr} {od_frozen an_frozen : Option Addr} {sl_frozen : Array (Option Value)} {oc_frozen kV_frozen dc_frozen pm_frozen cd_frozen ct_frozen : Value}
    {f_is_whole : Addr} {od_is_whole an_is_whole : Option Addr} {sl_is_whole : Array (Option Value)} {oc_is_whole kV_is_whole dc_is_whole pm_is_whole cd_is_whole ct_is_whole : Value}
    {f_are_letters : Addr} {od_are_letters an_are_letters : Option Addr} {sl_are_letters : Array (Option Value)} {oc_are_letters kV_are_letters dc_are_letters pm_are_letters cd_are_letters ct_are_letters : Value}
    {f_check_letters : Addr} {od_check_letters an_check_letters : Option Addr} {sl_check_letters : Array (Option Value)} {oc_check_letters kV_check_letters dc_check_letters pm_check_letters cd_check_letters ct_check_letters : Value}
    {f_check_text : Addr} {od_check_text an_check_text : Option Addr} {sl_check_text : Array (Option Value)} {oc_check_text kV_check_text dc_check_text pm_check_text cd_check_text ct_check_text : Value}
    {f_is_number_below : Addr} {od_is_number_below an_is_number_below : Option Addr} {sl_is_number_below : Array (Option Value)} {oc_is_number_below kV_is_number_below dc_is_number_below pm_is_number_below cd_is_number_below ct_is_number_below : Value}
    {f_is_arrow_row : Addr} {od_is_arrow_row an_is_arrow_row : Option Addr} {sl_is_arrow_row : Array (Option Value)} {oc_is_arrow_row kV_is_arrow_row dc_is_arrow_row pm_is_arrow_row cd_is_arrow_row ct_is_arrow_row : Value}
    {f_states_behind : Addr} {od_states_behind an_states_behind : Option Addr} {sl_states_behind : Array (Option Value)} {oc_states_behind kV_states_behind dc_states_behind pm_states_behind cd_states_behind ct_states_behind : Value}
    {f_sure_word : Addr} {od_sure_word an_sure_word : Option Addr} {sl_sure_word : Array (Option Value)} {oc_sure_word kV_sure_word dc_sure_word pm_sure_word cd_sure_word ct_sure_word : Value}
    {f_earliest : Addr} {od_earliest an_earliest : Option Addr} {sl_earliest : Array (Option Value)} {oc_earliest kV_earliest dc_earliest pm_earliest cd_earliest ct_earliest : Value}
    {f__law_whole : Addr} {od__law_whole an__law_whole : Option Addr} {sl__law_whole : Array (Option Value)} {oc__law_whole kV__law_whole dc__law_whole pm__law_whole cd__law_whole ct__law_whole : Value}
    {f__law_cell : Addr} {od__law_cell an__law_cell : Option Addr} {sl__law_cell : Array (Option Value)} {oc__law_cell kV__law_cell dc__law_cell pm__law_cell cd__law_cell ct__law_cell : Value}
    {f__law_digits : Addr} {od__law_digits an__law_digits : Option Addr} {sl__law_digits : Array (Option Value)} {oc__law_digits kV__law_digits dc__law_digits pm__law_digits cd__law_digits ct__law_digits : Value}
    {f__law_letters : Addr} {od__law_letters an__law_letters : Option Addr} {sl__law_letters : Array (Option Value)} {oc__law_letters kV__law_letters dc__law_letters pm__law_letters cd__law_letters ct__law_letters : Value}
    {f__law_long_text : Addr} {od__law_long_text an__law_long_text : Option Addr} {sl__law_long_text : Array (Option Value)} {oc__law_long_text kV__law_long_text dc__law_long_text pm__law_long_text cd__law_long_text ct__law_long_text : Value}
    {f__law_texts : Addr} {od__law_texts an__law_texts : Option Addr} {sl__law_texts : Array (Option Value)} {oc__law_texts kV__law_texts dc__law_texts pm__law_texts cd__law_texts ct__law_texts : Value}
    {f__law_automaton : Addr} {od__law_automaton an__law_automaton : Option Addr} {sl__law_automaton : Array (Option Value)} {oc__law_automaton kV__law_automaton dc__law_automaton pm__law_automaton cd__law_automaton ct__law_automaton : Value}
    {f__law_sure : Addr} {od__law_sure an__law_sure : Option Addr} {sl__law_sure : Array (Option Value)} {oc__law_sure kV__law_sure dc__law_sure pm__law_sure cd__law_sure ct__law_sure : Value}
    {f__law_earliest : Addr} {od__law_earliest an__law_earliest : Option Addr} {sl__law_earliest : Array (Option Value)} {oc__law_earliest kV__law_earliest dc__law_earliest pm__law_earliest cd__law_earliest ct__law_earliest : Value}
    {f__law_refused : Addr} {od__law_refused an__law_refused : Option Addr} {sl__law_refused : Array (Option Value)} {oc__law_refused kV__law_refused dc__law_refused pm__law_refused cd__law_refused ct__law_refused : Value}
    {f_law : Addr} {od_law an_law : Option Addr} {sl_law : Array (Option Value)} {oc_law kV_law dc_law pm_law cd_law ct_law : Value}
    (z_len : PySem.W.nsIn K mainGlobals "len" = some none)
    (z_int : PySem.W.nsIn K mainGlobals "int" = some none)
    (z_min : PySem.W.nsIn K mainGlobals "min" = some none)
    (z_max : PySem.W.nsIn K mainGlobals "max" = some none)
    (z_sum : PySem.W.nsIn K mainGlobals "sum" = some none)
    (z_sorted : PySem.W.nsIn K mainGlobals "sorted" = some none)
    (z_str : PySem.W.nsIn K mainGlobals "str" = some none)
    (z_tuple : PySem.W.nsIn K mainGlobals "tuple" = some none)
    (z_list : PySem.W.nsIn K mainGlobals "list" = some none)
    (z_all : PySem.W.nsIn K mainGlobals "all" = some none)
    (z_any : PySem.W.nsIn K mainGlobals "any" = some none)
    (z_range : PySem.W.nsIn K mainGlobals "range" = some none)
    (z_enumerate : PySem.W.nsIn K mainGlobals "enumerate" = some none)
    (z_zip : PySem.W.nsIn K mainGlobals "zip" = some none)
    (z_reversed : PySem.W.nsIn K mainGlobals "reversed" = some none)
    (z_abs : PySem.W.nsIn K mainGlobals "abs" = some none)
    (z_bool : PySem.W.nsIn K mainGlobals "bool" = some none)
    (z_isinstance : PySem.W.nsIn K mainGlobals "isinstance" = some none)
    (z_set : PySem.W.nsIn K mainGlobals "set" = some none)
    (z_dict : PySem.W.nsIn K mainGlobals "dict" = some none)
    (a_ClockError : PySem.W.nsIn K mainGlobals "ClockError" = some (some (.ref C_ClockError)))
    (a_BadLetters : PySem.W.nsIn K mainGlobals "BadLetters" = some (some (.ref C_BadLetters)))
    (a_BadText : PySem.W.nsIn K mainGlobals "BadText" = some (some (.ref C_BadText)))
    (a_BadAutomaton : PySem.W.nsIn K mainGlobals "BadAutomaton" = some (some (.ref C_BadAutomaton)))
    (a_Automaton : PySem.W.nsIn K mainGlobals "Automaton" = some (some (.ref C_Automaton)))
    (x_BadLetters : K.lookup C_BadLetters = some (excClassObj nm_BadLetters q_BadLetters C_BadLetters N_BadLetters bs_BadLetters bm_BadLetters true sn_BadLetters sub_BadLetters ab_BadLetters col_BadLetters dd_BadLetters m0_BadLetters m1_BadLetters m2_BadLetters m3_BadLetters m5_BadLetters "ValueError.__new__"))
    (rv_BadLetters : PySem.HandSPX.refsVE bm_BadLetters = true)
    (sa_BadLetters : PySem.W.findIn K (.ref C_BadLetters) "__setattr__" = some (some (.builtin "object.__setattr__")))
    (ga_BadLetters : PySem.W.findIn K (.ref C_BadLetters) "__getattribute__" = some (some (.builtin "BaseException.__getattribute__")))
    (gg_BadLetters : PySem.W.findIn K (.ref C_BadLetters) "__getattr__" = some none)
    (cc_BadLetters : PySem.W.findIn K (.ref C_BadLetters) "__class__" = some (some (.builtin "object.__class__")))
    (mo_BadLetters : PySem.W.mroIn K C_BadLetters (.type "object") = some true)
    (kc_BadLetters : PySem.W.keepIn K (.ref C_BadLetters) = true)
    (hd_BadLetters : PySem.W.hasDictIn K C_BadLetters = true)
    (se_BadLetters : PySem.W.subIn K (.ref C_BadLetters) (.ref C_BadLetters) = some true)
    (ii_BadLetters : PySem.W.findIn K (.ref C_BadLetters) "__init__" = some (some (.ref fi_BadLetters)))
    (ti_BadLetters : PySem.W.typeIn K (.ref fi_BadLetters) = some (.type "function"))
    (li_BadLetters : K.lookup fi_BadLetters = some ⟨oc_BadLetters, od_BadLetters, .func (PySem.W.fnOf "__init__" "BadLetters.__init__" (defArgs i_BadLetters) (defBody i_BadLetters) (defScope i_BadLetters) .none kV_BadLetters dc_BadLetters pm_BadLetters an_BadLetters cd_BadLetters ct_BadLetters), sl_BadLetters⟩)
    (ci_BadLetters : PySem.W.codeIn K cd_BadLetters "BadLetters.__init__" = true)
    (ki_BadLetters : PySem.W.keepIn K (.ref fi_BadLetters) = true)
    (n_BadLetters_letters : PySem.W.findIn K (.ref C_BadLetters) "letters" = some none)
    (s_BadLetters_ClockError : PySem.W.subIn K (.ref C_BadLetters) (.ref C_ClockError) = some true)
    (s_BadLetters_BadText : PySem.W.subIn K (.ref C_BadLetters) (.ref C_BadText) = some false)
    (x_BadText : K.lookup C_BadText = some (excClassObj nm_BadText q_BadText C_BadText N_BadText bs_BadText bm_BadText true sn_BadText sub_BadText ab_BadText col_BadText dd_BadText m0_BadText m1_BadText m2_BadText m3_BadText m5_BadText "ValueError.__new__"))
    (rv_BadText : PySem.HandSPX.refsVE bm_BadText = true)
    (sa_BadText : PySem.W.findIn K (.ref C_BadText) "__setattr__" = some (some (.builtin "object.__setattr__")))
    (ga_BadText : PySem.W.findIn K (.ref C_BadText) "__getattribute__" = some (some (.builtin "BaseException.__getattribute__")))
    (gg_BadText : PySem.W.findIn K (.ref C_BadText) "__getattr__" = some none)
    (cc_BadText : PySem.W.findIn K (.ref C_BadText) "__class__" = some (some (.builtin "object.__class__")))
    (mo_BadText : PySem.W.mroIn K C_BadText (.type "object") = some true)
    (kc_BadText : PySem.W.keepIn K (.ref C_BadText) = true)
    (hd_BadText : PySem.W.hasDictIn K C_BadText = true)
    (se_BadText : PySem.W.subIn K (.ref C_BadText) (.ref C_BadText) = some true)
    (ii_BadText : PySem.W.findIn K (.ref C_BadText) "__init__" = some (some (.ref fi_BadText)))
    (ti_BadText : PySem.W.typeIn K (.ref fi_BadText) = some (.type "function"))
    (li_BadText : K.lookup fi_BadText = some ⟨oc_BadText, od_BadText, .func (PySem.W.fnOf "__init__" "BadText.__init__" (defArgs i_BadText) (defBody i_BadText) (defScope i_BadText) .none kV_BadText dc_BadText pm_BadText an_BadText cd_BadText ct_BadText), sl_BadText⟩)
    (ci_BadText : PySem.W.codeIn K cd_BadText "BadText.__init__" = true)
    (ki_BadText : PySem.W.keepIn K (.ref fi_BadText) = true)
    (n_BadText_index : PySem.W.findIn K (.ref C_BadText) "index" = some none)
    (s_BadText_ClockError : PySem.W.subIn K (.ref C_BadText) (.ref C_ClockError) = some true)
    (x_BadAutomaton : K.lookup C_BadAutomaton = some (excClassObj nm_BadAutomaton q_BadAutomaton C_BadAutomaton N_BadAutomaton bs_BadAutomaton bm_BadAutomaton true sn_BadAutomaton sub_BadAutomaton ab_BadAutomaton col_BadAutomaton dd_BadAutomaton m0_BadAutomaton m1_BadAutomaton m2_BadAutomaton m3_BadAutomaton m5_BadAutomaton "ValueError.__new__"))
    (rv_BadAutomaton : PySem.HandSPX.refsVE bm_BadAutomaton = true)
    (sa_BadAutomaton : PySem.W.findIn K (.ref C_BadAutomaton) "__setattr__" = some (some (.builtin "object.__setattr__")))
    (ga_BadAutomaton : PySem.W.findIn K (.ref C_BadAutomaton) "__getattribute__" = some (some (.builtin "BaseException.__getattribute__")))
    (gg_BadAutomaton : PySem.W.findIn K (.ref C_BadAutomaton) "__getattr__" = some none)
    (cc_BadAutomaton : PySem.W.findIn K (.ref C_BadAutomaton) "__class__" = some (some (.builtin "object.__class__")))
    (mo_BadAutomaton : PySem.W.mroIn K C_BadAutomaton (.type "object") = some true)
    (kc_BadAutomaton : PySem.W.keepIn K (.ref C_BadAutomaton) = true)
    (hd_BadAutomaton : PySem.W.hasDictIn K C_BadAutomaton = true)
    (se_BadAutomaton : PySem.W.subIn K (.ref C_BadAutomaton) (.ref C_BadAutomaton) = some true)
    (ii_BadAutomaton : PySem.W.findIn K (.ref C_BadAutomaton) "__init__" = some (some (.ref fi_BadAutomaton)))
    (ti_BadAutomaton : PySem.W.typeIn K (.ref fi_BadAutomaton) = some (.type "function"))
    (li_BadAutomaton : K.lookup fi_BadAutomaton = some ⟨oc_BadAutomaton, od_BadAutomaton, .func (PySem.W.fnOf "__init__" "BadAutomaton.__init__" (defArgs i_BadAutomaton) (defBody i_BadAutomaton) (defScope i_BadAutomaton) .none kV_BadAutomaton dc_BadAutomaton pm_BadAutomaton an_BadAutomaton cd_BadAutomaton ct_BadAutomaton), sl_BadAutomaton⟩)
    (ci_BadAutomaton : PySem.W.codeIn K cd_BadAutomaton "BadAutomaton.__init__" = true)
    (ki_BadAutomaton : PySem.W.keepIn K (.ref fi_BadAutomaton) = true)
    (n_BadAutomaton_state : PySem.W.findIn K (.ref C_BadAutomaton) "state" = some none)
    (s_BadAutomaton_ClockError : PySem.W.subIn K (.ref C_BadAutomaton) (.ref C_ClockError) = some true)
    (s_BadAutomaton_BadText : PySem.W.subIn K (.ref C_BadAutomaton) (.ref C_BadText) = some false)
    (be_ClockError : PySem.W.subIn K (.ref C_ClockError) (.type "BaseException") = some true)
    (ty_ClockError : PySem.W.typeIn K (.ref C_ClockError) = some (.type "type"))
    (ic_ClockError : PySem.W.isClsIn K C_ClockError = true)
    (be_BadLetters : PySem.W.subIn K (.ref C_BadLetters) (.type "BaseException") = some true)
    (ty_BadLetters : PySem.W.typeIn K (.ref C_BadLetters) = some (.type "type"))
    (ic_BadLetters : PySem.W.isClsIn K C_BadLetters = true)
    (be_BadText : PySem.W.subIn K (.ref C_BadText) (.type "BaseException") = some true)
    (ty_BadText : PySem.W.typeIn K (.ref C_BadText) = some (.type "type"))
    (ic_BadText : PySem.W.isClsIn K C_BadText = true)
    (be_BadAutomaton : PySem.W.subIn K (.ref C_BadAutomaton) (.type "BaseException") = some true)
    (ty_BadAutomaton : PySem.W.typeIn K (.ref C_BadAutomaton) = some (.type "type"))
    (ic_BadAutomaton : PySem.W.isClsIn K C_BadAutomaton = true)
    (sp_cls : PySem.W.specialIn K (.builtin "object.__class__") "__get__" = some (some (.builtin "getset_descriptor.__get__")))
    (tk_cls : PySem.W.takesIn K (.builtin "object.__class__") = some true)
    (a_ALPHABET : PySem.W.nsIn K mainGlobals "ALPHABET" = some (some (.str "abcdefghijklmnopqrstuvwxyz" t0_ALPHABET)))
    (pg_Automaton : PySem.W.plainGet K C_Automaton Str.empty = true)
    (hd_Automaton : PySem.W.hasDictIn K C_Automaton = true)
    (po_Automaton : PySem.W.plainOver K C_Automaton = true)
    (sa_Automaton : PySem.W.findIn K (.ref C_Automaton) "__setattr__" = some (some (.builtin "object.__setattr__")))
    (mk_Automaton : PySem.W.makesIn K C_Automaton = true)
    (ii_Automaton : PySem.W.findIn K (.ref C_Automaton) "__init__" = some (some (.ref fi_Automaton)))
    (fn_Automaton : PySem.W.isFn K (.ref fi_Automaton) = true)
    (kc_Automaton : PySem.W.keepIn K (.ref C_Automaton) = true)
    (li_Automaton : K.lookup fi_Automaton = some ⟨oc_Automaton, od_Automaton, .func (PySem.W.fnOf "__init__" "Automaton.__init__" (defArgs s_Automaton) (defBody s_Automaton) (defScope s_Automaton) .none kV_Automaton dc_Automaton pm_Automaton an_Automaton cd_Automaton ct_Automaton), sl_Automaton⟩)
    (ci_Automaton : PySem.W.codeIn K cd_Automaton "Automaton.__init__" = true)
    (ki_Automaton : PySem.W.keepIn K (.ref fi_Automaton) = true)
    (n_Automaton_letters : PySem.W.findIn K (.ref C_Automaton) "letters" = some none)
    (n_Automaton_arrows : PySem.W.findIn K (.ref C_Automaton) "arrows" = some none)
    (n_Automaton_yes : PySem.W.findIn K (.ref C_Automaton) "yes" = some none)
    (a_frozen : PySem.W.nsIn K mainGlobals "frozen" = some (some (.ref f_frozen)))
    (l_frozen : K.lookup f_frozen = some ⟨oc_frozen, od_frozen, .func (PySem.W.fnOf "frozen" "frozen" (defArgs s_frozen) (defBody s_frozen) (defScope s_frozen) .none kV_frozen dc_frozen pm_frozen an_frozen cd_frozen ct_frozen), sl_frozen⟩)
    (cd_frozen_ : PySem.W.codeIn K cd_frozen "frozen" = true)
    (k_frozen : PySem.W.keepIn K (.ref f_frozen) = true)
    (a_is_whole : PySem.W.nsIn K mainGlobals "is_whole" = some (some (.ref f_is_whole)))
    (l_is_whole : K.lookup f_is_whole = some ⟨oc_is_whole, od_is_whole, .func (PySem.W.fnOf "is_whole" "is_whole" (defArgs s_is_whole) (defBody s_is_whole) (defScope s_is_whole) .none kV_is_whole dc_is_whole pm_is_whole an_is_whole cd_is_whole ct_is_whole), sl_is_whole⟩)
    (cd_is_whole_ : PySem.W.codeIn K cd_is_whole "is_whole" = true)
    (k_is_whole : PySem.W.keepIn K (.ref f_is_whole) = true)
    (a_are_letters : PySem.W.nsIn K mainGlobals "are_letters" = some (some (.ref f_are_letters)))
    (l_are_letters : K.lookup f_are_letters = some ⟨oc_are_letters, od_are_letters, .func (PySem.W.fnOf "are_letters" "are_letters" (defArgs s_are_letters) (defBody s_are_letters) (defScope s_are_letters) .none kV_are_letters dc_are_letters pm_are_letters an_are_letters cd_are_letters ct_are_letters), sl_are_letters⟩)
    (cd_are_letters_ : PySem.W.codeIn K cd_are_letters "are_letters" = true)
    (k_are_letters : PySem.W.keepIn K (.ref f_are_letters) = true)
    (a_check_letters : PySem.W.nsIn K mainGlobals "check_letters" = some (some (.ref f_check_letters)))
    (l_check_letters : K.lookup f_check_letters = some ⟨oc_check_letters, od_check_letters, .func (PySem.W.fnOf "check_letters" "check_letters" (defArgs s_check_letters) (defBody s_check_letters) (defScope s_check_letters) .none kV_check_letters dc_check_letters pm_check_letters an_check_letters cd_check_letters ct_check_letters), sl_check_letters⟩)
    (cd_check_letters_ : PySem.W.codeIn K cd_check_letters "check_letters" = true)
    (k_check_letters : PySem.W.keepIn K (.ref f_check_letters) = true)
    (a_check_text : PySem.W.nsIn K mainGlobals "check_text" = some (some (.ref f_check_text)))
    (l_check_text : K.lookup f_check_text = some ⟨oc_check_text, od_check_text, .func (PySem.W.fnOf "check_text" "check_text" (defArgs s_check_text) (defBody s_check_text) (defScope s_check_text) .none kV_check_text dc_check_text pm_check_text an_check_text cd_check_text ct_check_text), sl_check_text⟩)
    (cd_check_text_ : PySem.W.codeIn K cd_check_text "check_text" = true)
    (k_check_text : PySem.W.keepIn K (.ref f_check_text) = true)
    (a_is_number_below : PySem.W.nsIn K mainGlobals "is_number_below" = some (some (.ref f_is_number_below)))
    (l_is_number_below : K.lookup f_is_number_below = some ⟨oc_is_number_below, od_is_number_below, .func (PySem.W.fnOf "is_number_below" "is_number_below" (defArgs s_is_number_below) (defBody s_is_number_below) (defScope s_is_number_below) .none kV_is_number_below dc_is_number_below pm_is_number_below an_is_number_below cd_is_number_below ct_is_number_below), sl_is_number_below⟩)
    (cd_is_number_below_ : PySem.W.codeIn K cd_is_number_below "is_number_below" = true)
    (k_is_number_below : PySem.W.keepIn K (.ref f_is_number_below) = true)
    (a_is_arrow_row : PySem.W.nsIn K mainGlobals "is_arrow_row" = some (some (.ref f_is_arrow_row)))
    (l_is_arrow_row : K.lookup f_is_arrow_row = some ⟨oc_is_arrow_row, od_is_arrow_row, .func (PySem.W.fnOf "is_arrow_row" "is_arrow_row" (defArgs s_is_arrow_row) (defBody s_is_arrow_row) (defScope s_is_arrow_row) .none kV_is_arrow_row dc_is_arrow_row pm_is_arrow_row an_is_arrow_row cd_is_arrow_row ct_is_arrow_row), sl_is_arrow_row⟩)
    (cd_is_arrow_row_ : PySem.W.codeIn K cd_is_arrow_row "is_arrow_row" = true)
    (k_is_arrow_row : PySem.W.keepIn K (.ref f_is_arrow_row) = true)
    (a_states_behind : PySem.W.nsIn K mainGlobals "states_behind" = some (some (.ref f_states_behind)))
    (l_states_behind : K.lookup f_states_behind = some ⟨oc_states_behind, od_states_behind, .func (PySem.W.fnOf "states_behind" "states_behind" (defArgs s_states_behind) (defBody s_states_behind) (defScope s_states_behind) .none kV_states_behind dc_states_behind pm_states_behind an_states_behind cd_states_behind ct_states_behind), sl_states_behind⟩)
    (cd_states_behind_ : PySem.W.codeIn K cd_states_behind "states_behind" = true)
    (k_states_behind : PySem.W.keepIn K (.ref f_states_behind) = true)
    (a_sure_word : PySem.W.nsIn K mainGlobals "sure_word" = some (some (.ref f_sure_word)))
    (l_sure_word : K.lookup f_sure_word = some ⟨oc_sure_word, od_sure_word, .func (PySem.W.fnOf "sure_word" "sure_word" (defArgs s_sure_word) (defBody s_sure_word) (defScope s_sure_word) .none kV_sure_word dc_sure_word pm_sure_word an_sure_word cd_sure_word ct_sure_word), sl_sure_word⟩)
    (cd_sure_word_ : PySem.W.codeIn K cd_sure_word "sure_word" = true)
    (k_sure_word : PySem.W.keepIn K (.ref f_sure_word) = true)
    (a_earliest : PySem.W.nsIn K mainGlobals "earliest" = some (some (.ref f_earliest)))
    (l_earliest : K.lookup f_earliest = some ⟨oc_earliest, od_earliest, .func (PySem.W.fnOf "earliest" "earliest" (defArgs s_earliest) (defBody s_earliest) (defScope s_earliest) .none kV_earliest dc_earliest pm_earliest an_earliest cd_earliest ct_earliest), sl_earliest⟩)
    (cd_earliest_ : PySem.W.codeIn K cd_earliest "earliest" = true)
    (k_earliest : PySem.W.keepIn K (.ref f_earliest) = true)
    (a__law_whole : PySem.W.nsIn K mainGlobals "_law_whole" = some (some (.ref f__law_whole)))
    (l__law_whole : K.lookup f__law_whole = some ⟨oc__law_whole, od__law_whole, .func (PySem.W.fnOf "_law_whole" "_law_whole" (defArgs s__law_whole) (defBody s__law_whole) (defScope s__law_whole) .none kV__law_whole dc__law_whole pm__law_whole an__law_whole cd__law_whole ct__law_whole), sl__law_whole⟩)
    (cd__law_whole_ : PySem.W.codeIn K cd__law_whole "_law_whole" = true)
    (k__law_whole : PySem.W.keepIn K (.ref f__law_whole) = true)
    (a__law_cell : PySem.W.nsIn K mainGlobals "_law_cell" = some (some (.ref f__law_cell)))
    (l__law_cell : K.lookup f__law_cell = some ⟨oc__law_cell, od__law_cell, .func (PySem.W.fnOf "_law_cell" "_law_cell" (defArgs s__law_cell) (defBody s__law_cell) (defScope s__law_cell) .none kV__law_cell dc__law_cell pm__law_cell an__law_cell cd__law_cell ct__law_cell), sl__law_cell⟩)
    (cd__law_cell_ : PySem.W.codeIn K cd__law_cell "_law_cell" = true)
    (k__law_cell : PySem.W.keepIn K (.ref f__law_cell) = true)
    (a__law_digits : PySem.W.nsIn K mainGlobals "_law_digits" = some (some (.ref f__law_digits)))
    (l__law_digits : K.lookup f__law_digits = some ⟨oc__law_digits, od__law_digits, .func (PySem.W.fnOf "_law_digits" "_law_digits" (defArgs s__law_digits) (defBody s__law_digits) (defScope s__law_digits) .none kV__law_digits dc__law_digits pm__law_digits an__law_digits cd__law_digits ct__law_digits), sl__law_digits⟩)
    (cd__law_digits_ : PySem.W.codeIn K cd__law_digits "_law_digits" = true)
    (k__law_digits : PySem.W.keepIn K (.ref f__law_digits) = true)
    (a__law_letters : PySem.W.nsIn K mainGlobals "_law_letters" = some (some (.ref f__law_letters)))
    (l__law_letters : K.lookup f__law_letters = some ⟨oc__law_letters, od__law_letters, .func (PySem.W.fnOf "_law_letters" "_law_letters" (defArgs s__law_letters) (defBody s__law_letters) (defScope s__law_letters) .none kV__law_letters dc__law_letters pm__law_letters an__law_letters cd__law_letters ct__law_letters), sl__law_letters⟩)
    (cd__law_letters_ : PySem.W.codeIn K cd__law_letters "_law_letters" = true)
    (k__law_letters : PySem.W.keepIn K (.ref f__law_letters) = true)
    (a__law_long_text : PySem.W.nsIn K mainGlobals "_law_long_text" = some (some (.ref f__law_long_text)))
    (l__law_long_text : K.lookup f__law_long_text = some ⟨oc__law_long_text, od__law_long_text, .func (PySem.W.fnOf "_law_long_text" "_law_long_text" (defArgs s__law_long_text) (defBody s__law_long_text) (defScope s__law_long_text) .none kV__law_long_text dc__law_long_text pm__law_long_text an__law_long_text cd__law_long_text ct__law_long_text), sl__law_long_text⟩)
    (cd__law_long_text_ : PySem.W.codeIn K cd__law_long_text "_law_long_text" = true)
    (k__law_long_text : PySem.W.keepIn K (.ref f__law_long_text) = true)
    (a__law_texts : PySem.W.nsIn K mainGlobals "_law_texts" = some (some (.ref f__law_texts)))
    (l__law_texts : K.lookup f__law_texts = some ⟨oc__law_texts, od__law_texts, .func (PySem.W.fnOf "_law_texts" "_law_texts" (defArgs s__law_texts) (defBody s__law_texts) (defScope s__law_texts) .none kV__law_texts dc__law_texts pm__law_texts an__law_texts cd__law_texts ct__law_texts), sl__law_texts⟩)
    (cd__law_texts_ : PySem.W.codeIn K cd__law_texts "_law_texts" = true)
    (k__law_texts : PySem.W.keepIn K (.ref f__law_texts) = true)
    (a__law_automaton : PySem.W.nsIn K mainGlobals "_law_automaton" = some (some (.ref f__law_automaton)))
    (l__law_automaton : K.lookup f__law_automaton = some ⟨oc__law_automaton, od__law_automaton, .func (PySem.W.fnOf "_law_automaton" "_law_automaton" (defArgs s__law_automaton) (defBody s__law_automaton) (defScope s__law_automaton) .none kV__law_automaton dc__law_automaton pm__law_automaton an__law_automaton cd__law_automaton ct__law_automaton), sl__law_automaton⟩)
    (cd__law_automaton_ : PySem.W.codeIn K cd__law_automaton "_law_automaton" = true)
    (k__law_automaton : PySem.W.keepIn K (.ref f__law_automaton) = true)
    (a__law_sure : PySem.W.nsIn K mainGlobals "_law_sure" = some (some (.ref f__law_sure)))
    (l__law_sure : K.lookup f__law_sure = some ⟨oc__law_sure, od__law_sure, .func (PySem.W.fnOf "_law_sure" "_law_sure" (defArgs s__law_sure) (defBody s__law_sure) (defScope s__law_sure) .none kV__law_sure dc__law_sure pm__law_sure an__law_sure cd__law_sure ct__law_sure), sl__law_sure⟩)
    (cd__law_sure_ : PySem.W.codeIn K cd__law_sure "_law_sure" = true)
    (k__law_sure : PySem.W.keepIn K (.ref f__law_sure) = true)
    (a__law_earliest : PySem.W.nsIn K mainGlobals "_law_earliest" = some (some (.ref f__law_earliest)))
    (l__law_earliest : K.lookup f__law_earliest = some ⟨oc__law_earliest, od__law_earliest, .func (PySem.W.fnOf "_law_earliest" "_law_earliest" (defArgs s__law_earliest) (defBody s__law_earliest) (defScope s__law_earliest) .none kV__law_earliest dc__law_earliest pm__law_earliest an__law_earliest cd__law_earliest ct__law_earliest), sl__law_earliest⟩)
    (cd__law_earliest_ : PySem.W.codeIn K cd__law_earliest "_law_earliest" = true)
    (k__law_earliest : PySem.W.keepIn K (.ref f__law_earliest) = true)
    (a__law_refused : PySem.W.nsIn K mainGlobals "_law_refused" = some (some (.ref f__law_refused)))
    (l__law_refused : K.lookup f__law_refused = some ⟨oc__law_refused, od__law_refused, .func (PySem.W.fnOf "_law_refused" "_law_refused" (defArgs s__law_refused) (defBody s__law_refused) (defScope s__law_refused) .none kV__law_refused dc__law_refused pm__law_refused an__law_refused cd__law_refused ct__law_refused), sl__law_refused⟩)
    (cd__law_refused_ : PySem.W.codeIn K cd__law_refused "_law_refused" = true)
    (k__law_refused : PySem.W.keepIn K (.ref f__law_refused) = true)
    (a_law : PySem.W.nsIn K mainGlobals "law" = some (some (.ref f_law)))
    (l_law : K.lookup f_law = some ⟨oc_law, od_law, .func (PySem.W.fnOf "law" "law" (defArgs s_law) (defBody s_law) (defScope s_law) .none kV_law dc_law pm_law an_law cd_law ct_law), sl_law⟩)
    (cd_law_ : PySem.W.codeIn K cd_law "law" = true)
    (k_law : PySem.W.keepIn K (.ref f_law) = true)
    (hl : ∀ ns : List Int, ns.length ≤ 63 → F_law [.scr ns] = .ok (.bl true)) : ∃ fd : FuncData, (∀ (s : Shared) (u : Value), BindsTo s fd ⟨[u], []⟩ [("script", u)]) ∧ ∀ base : Heap, K.In base → base.Ns mainGlobals mg → FnOk P w K mg base (L2N.CX P w) 8 fa fd ["script"] (spLaw K) := by
  have e := hfa.symm.trans (PySem.W.mg_of X G a_law)
  have e2 : f_law = fa := by cases e; rfl
  subst e2
  have hbi : ∀ x ∈ bnames, mg x = none := List.forall_mem_cons.mpr ⟨PySem.W.mg_none_of X G z_len, List.forall_mem_cons.mpr ⟨PySem.W.mg_none_of X G z_int, List.forall_mem_cons.mpr ⟨PySem.W.mg_none_of X G z_min, List.forall_mem_cons.mpr ⟨PySem.W.mg_none_of X G z_max, List.forall_mem_cons.mpr ⟨PySem.W.mg_none_of X G z_sum, List.forall_mem_cons.mpr ⟨PySem.W.mg_none_of X G z_sorted, List.forall_mem_cons.mpr ⟨PySem.W.mg_none_of X G z_str, List.forall_mem_cons.mpr ⟨PySem.W.mg_none_of X G z_tuple, List.forall_mem_cons.mpr ⟨PySem.W.mg_none_of X G z_list, List.forall_mem_cons.mpr ⟨PySem.W.mg_none_of X G z_all, List.forall_mem_cons.mpr ⟨PySem.W.mg_none_of X G z_any, List.forall_mem_cons.mpr ⟨PySem.W.mg_none_of X G z_range, List.forall_mem_cons.mpr ⟨PySem.W.mg_none_of X G z_enumerate, List.forall_mem_cons.mpr ⟨PySem.W.mg_none_of X G z_zip, List.forall_mem_cons.mpr ⟨PySem.W.mg_none_of X G z_reversed, List.forall_mem_cons.mpr ⟨PySem.W.mg_none_of X G z_abs, List.forall_mem_cons.mpr ⟨PySem.W.mg_none_of X G z_bool, List.forall_mem_cons.mpr ⟨PySem.W.mg_none_of X G z_isinstance, List.forall_mem_cons.mpr ⟨PySem.W.mg_none_of X G z_set, List.forall_mem_cons.mpr ⟨PySem.W.mg_none_of X G z_dict, (fun _ h => nomatch h)⟩⟩⟩⟩⟩⟩⟩⟩⟩⟩⟩⟩⟩⟩⟩⟩⟩⟩⟩⟩
  let T : Tb := TB (cas C_ClockError C_BadLetters C_BadText C_BadAutomaton C_Automaton)
  have hfl : ∀ c fs, fls[c]? = some fs → T.fl c = fs := fun c fs q => by show fls.getD c [] = fs; rw [List.getD_eq_getElem?_getD, q]; rfl
  have hz : (∀ G, T.z G) ∧ (∀ e σ, T.ze e σ) ∧ T.pr = [] := ⟨fun _ => trivial, fun _ _ => trivial, rfl⟩
  have O_BadLetters : OexC K C_BadLetters := ⟨⟨nm_BadLetters, q_BadLetters, N_BadLetters, bs_BadLetters, bm_BadLetters, sn_BadLetters, sub_BadLetters, ab_BadLetters, col_BadLetters, dd_BadLetters, m0_BadLetters, m1_BadLetters, m2_BadLetters, m3_BadLetters, m5_BadLetters, x_BadLetters, rv_BadLetters⟩, sa_BadLetters, be_BadLetters, ty_BadLetters, kc_BadLetters⟩
  have FI_BadLetters := fun_mk (st := i_BadLetters) li_BadLetters ci_BadLetters ki_BadLetters
  have BI_BadLetters := FI_BadLetters.binds (ps := ["self", "letters"]) fun _ _ _ _ _ _ us hl => match us, hl with | [_, _], _ => rfl
  have NA_BadLetters : ∀ f ∈ [("letters" : Str)], PySem.W.findIn K (.ref C_BadLetters) f = some none := List.forall_mem_cons.mpr ⟨n_BadLetters_letters, (fun _ h => nomatch h)⟩
  have RS_BadLetters : ∀ (base : Heap) (k : Nat), 2 ≤ k → RsR P w K mg base T k "BadLetters" 1 := fun base k hk => ⟨⟨1, fi_BadLetters, _, ["self", "letters"], hk, O_BadLetters, ii_BadLetters, ti_BadLetters, init_fn (k := 0) FI_BadLetters sci_BadLetters O_BadLetters NA_BadLetters (by decide +kernel) (by decide) rfl, BI_BadLetters, PySem.W.mg_of X G a_BadLetters, by decide, (show [("letters" : Str)].Nodup by decide +kernel), (show [("letters" : Str)].length ≤ 900 by decide)⟩⟩
  have XF_BadLetters : ExcF K T 1 := ⟨⟨ga_BadLetters, gg_BadLetters, be_BadLetters, hd_BadLetters, cc_BadLetters, sp_cls, tk_cls, mo_BadLetters⟩, ⟨ga_BadLetters, gg_BadLetters, be_BadLetters, hd_BadLetters⟩, NA_BadLetters⟩
  have O_BadText : OexC K C_BadText := ⟨⟨nm_BadText, q_BadText, N_BadText, bs_BadText, bm_BadText, sn_BadText, sub_BadText, ab_BadText, col_BadText, dd_BadText, m0_BadText, m1_BadText, m2_BadText, m3_BadText, m5_BadText, x_BadText, rv_BadText⟩, sa_BadText, be_BadText, ty_BadText, kc_BadText⟩
  have FI_BadText := fun_mk (st := i_BadText) li_BadText ci_BadText ki_BadText
  have BI_BadText := FI_BadText.binds (ps := ["self", "index"]) fun _ _ _ _ _ _ us hl => match us, hl with | [_, _], _ => rfl
  have NA_BadText : ∀ f ∈ [("index" : Str)], PySem.W.findIn K (.ref C_BadText) f = some none := List.forall_mem_cons.mpr ⟨n_BadText_index, (fun _ h => nomatch h)⟩
  have RS_BadText : ∀ (base : Heap) (k : Nat), 2 ≤ k → RsR P w K mg base T k "BadText" 2 := fun base k hk => ⟨⟨1, fi_BadText, _, ["self", "index"], hk, O_BadText, ii_BadText, ti_BadText, init_fn (k := 0) FI_BadText sci_BadText O_BadText NA_BadText (by decide +kernel) (by decide) rfl, BI_BadText, PySem.W.mg_of X G a_BadText, by decide, (show [("index" : Str)].Nodup by decide +kernel), (show [("index" : Str)].length ≤ 900 by decide)⟩⟩
  have XF_BadText : ExcF K T 2 := ⟨⟨ga_BadText, gg_BadText, be_BadText, hd_BadText, cc_BadText, sp_cls, tk_cls, mo_BadText⟩, ⟨ga_BadText, gg_BadText, be_BadText, hd_BadText⟩, NA_BadText⟩
  have O_BadAutomaton : OexC K C_BadAutomaton := ⟨⟨nm_BadAutomaton, q_BadAutomaton, N_BadAutomaton, bs_BadAutomaton, bm_BadAutomaton, sn_BadAutomaton, sub_BadAutomaton, ab_BadAutomaton, col_BadAutomaton, dd_BadAutomaton, m0_BadAutomaton, m1_BadAutomaton, m2_BadAutomaton, m3_BadAutomaton, m5_BadAutomaton, x_BadAutomaton, rv_BadAutomaton⟩, sa_BadAutomaton, be_BadAutomaton, ty_BadAutomaton, kc_BadAutomaton⟩
  have FI_BadAutomaton := fun_mk (st := i_BadAutomaton) li_BadAutomaton ci_BadAutomaton ki_BadAutomaton
  have BI_BadAutomaton := FI_BadAutomaton.binds (ps := ["self", "state"]) fun _ _ _ _ _ _ us hl => match us, hl with | [_, _], _ => rfl
  have NA_BadAutomaton : ∀ f ∈ [("state" : Str)], PySem.W.findIn K (.ref C_BadAutomaton) f = some none := List.forall_mem_cons.mpr ⟨n_BadAutomaton_state, (fun _ h => nomatch h)⟩
  have RS_BadAutomaton : ∀ (base : Heap) (k : Nat), 2 ≤ k → RsR P w K mg base T k "BadAutomaton" 3 := fun base k hk => ⟨⟨1, fi_BadAutomaton, _, ["self", "state"], hk, O_BadAutomaton, ii_BadAutomaton, ti_BadAutomaton, init_fn (k := 0) FI_BadAutomaton sci_BadAutomaton O_BadAutomaton NA_BadAutomaton (by decide +kernel) (by decide) rfl, BI_BadAutomaton, PySem.W.mg_of X G a_BadAutomaton, by decide, (show [("state" : Str)].Nodup by decide +kernel), (show [("state" : Str)].length ≤ 900 by decide)⟩⟩
  have XF_BadAutomaton : ExcF K T 3 := ⟨⟨ga_BadAutomaton, gg_BadAutomaton, be_BadAutomaton, hd_BadAutomaton, cc_BadAutomaton, sp_cls, tk_cls, mo_BadAutomaton⟩, ⟨ga_BadAutomaton, gg_BadAutomaton, be_BadAutomaton, hd_BadAutomaton⟩, NA_BadAutomaton⟩
  have NM_ClockError : NmR K mg T sub "ClockError" 0 := ⟨.ref C_ClockError, .ref C_ClockError, rfl, fun u h => h, by decide, .inl (PySem.W.mg_of X G a_ClockError), fun c b hb => by
      have hm : ((c, 0), b) ∈ tab := look_in hb
      simp only [tab, List.mem_cons, Prod.mk.injEq, List.not_mem_nil, or_false] at hm
      rcases hm with ⟨⟨hc, hk⟩, hb2⟩ | ⟨⟨hc, hk⟩, hb2⟩ | ⟨⟨hc, hk⟩, hb2⟩ | ⟨⟨hc, hk⟩, hb2⟩ | ⟨⟨hc, hk⟩, hb2⟩ | ⟨⟨hc, hk⟩, hb2⟩
      · subst hc hb2; exact sub_kit s_BadLetters_ClockError se_BadLetters ic_ClockError ty_ClockError be_ClockError
      · exact absurd hk (by decide)
      · subst hc hb2; exact sub_kit s_BadText_ClockError se_BadText ic_ClockError ty_ClockError be_ClockError
      · exact absurd hk (by decide)
      · subst hc hb2; exact sub_kit s_BadAutomaton_ClockError se_BadAutomaton ic_ClockError ty_ClockError be_ClockError
      · exact absurd hk (by decide)⟩
  have NM_BadText : NmR K mg T sub "BadText" 2 := ⟨.ref C_BadText, .ref C_BadText, rfl, fun u h => h, by decide, .inl (PySem.W.mg_of X G a_BadText), fun c b hb => by
      have hm : ((c, 2), b) ∈ tab := look_in hb
      simp only [tab, List.mem_cons, Prod.mk.injEq, List.not_mem_nil, or_false] at hm
      rcases hm with ⟨⟨hc, hk⟩, hb2⟩ | ⟨⟨hc, hk⟩, hb2⟩ | ⟨⟨hc, hk⟩, hb2⟩ | ⟨⟨hc, hk⟩, hb2⟩ | ⟨⟨hc, hk⟩, hb2⟩ | ⟨⟨hc, hk⟩, hb2⟩
      · exact absurd hk (by decide)
      · subst hc hb2; exact sub_kit s_BadLetters_BadText se_BadLetters ic_BadText ty_BadText be_BadText
      · exact absurd hk (by decide)
      · subst hc hb2; exact sub_kit se_BadText se_BadText ic_BadText ty_BadText be_BadText
      · exact absurd hk (by decide)
      · subst hc hb2; exact sub_kit s_BadAutomaton_BadText se_BadAutomaton ic_BadText ty_BadText be_BadText⟩
  have XF : ∀ c j b, sub c j = some b → ExcF K T c := fun c j b hb => by
      have hm : ((c, j), b) ∈ tab := look_in hb
      simp only [tab, List.mem_cons, Prod.mk.injEq, List.not_mem_nil, or_false] at hm
      rcases hm with ⟨⟨hc, hk⟩, hb2⟩ | ⟨⟨hc, hk⟩, hb2⟩ | ⟨⟨hc, hk⟩, hb2⟩ | ⟨⟨hc, hk⟩, hb2⟩ | ⟨⟨hc, hk⟩, hb2⟩ | ⟨⟨hc, hk⟩, hb2⟩
      · subst hc; exact XF_BadLetters
      · subst hc; exact XF_BadLetters
      · subst hc; exact XF_BadText
      · subst hc; exact XF_BadText
      · subst hc; exact XF_BadAutomaton
      · subst hc; exact XF_BadAutomaton
  have hcn : ∀ q ∈ cnL, NmR K mg T sub q.1 q.2 := List.forall_mem_cons.mpr ⟨NM_ClockError, List.forall_mem_cons.mpr ⟨NM_BadText, (fun _ h => nomatch h)⟩⟩
  have hrs : ∀ (base : Heap) (k : Nat), 2 ≤ k → ∀ p ∈ xcsL, RsR P w K mg base T k p.1 p.2 := fun base k hk => List.forall_mem_cons.mpr ⟨RS_BadLetters base k hk, List.forall_mem_cons.mpr ⟨RS_BadText base k hk, List.forall_mem_cons.mpr ⟨RS_BadAutomaton base k hk, (fun _ h => nomatch h)⟩⟩⟩
  have GL_ALPHABET : ∃ v u, mg "ALPHABET" = some u ∧ RelV v u ∧ ∀ G, Rep T K G (.str [97, 98, 99, 100, 101, 102, 103, 104, 105, 106, 107, 108, 109, 110, 111, 112, 113, 114, 115, 116, 117, 118, 119, 120, 121, 122]) v := ⟨.str "abcdefghijklmnopqrstuvwxyz", _, PySem.W.mg_of X G a_ALPHABET, ⟨_, rfl⟩, fun G => by first | (simp only [Rep]; done) | (simp only [Rep]; rfl)⟩
  have hgl : ∀ p ∈ glbs, ∃ v u, mg p.1 = some u ∧ RelV v u ∧ ∀ G, Rep T K G p.2 v := List.forall_mem_cons.mpr ⟨GL_ALPHABET, (fun _ h => nomatch h)⟩
  have NA_Automaton : ∀ f ∈ [("letters" : Str), ("arrows" : Str), ("yes" : Str)], NoAttr K C_Automaton f := List.forall_mem_cons.mpr ⟨n_Automaton_letters, List.forall_mem_cons.mpr ⟨n_Automaton_arrows, List.forall_mem_cons.mpr ⟨n_Automaton_yes, (fun _ h => nomatch h)⟩⟩⟩
  have CK_Automaton : ClsOk K (T.ca 4) (T.fl 4) := ⟨⟨pg_Automaton, hd_Automaton, po_Automaton, sa_Automaton⟩, NA_Automaton, (show [("letters" : Str), ("arrows" : Str), ("yes" : Str)].Nodup by decide +kernel)⟩
  have FF_frozen := fun_mk (st := s_frozen) l_frozen cd_frozen_ k_frozen
  have BB_frozen := FF_frozen.binds (ps := ["value"]) fun _ _ _ _ _ _ us hl => match us, hl with | [_], _ => rfl
  have RR_frozen_0 : ∀ (base : Heap) (k : Nat), FnR P w K mg base T F_frozen_0 k "frozen" 1 := fun base k => ⟨0, f_frozen, _, ["value"], Nat.zero_le _, fn_bad rfl, PySem.W.mg_of X G a_frozen, k_frozen, BB_frozen, by decide⟩
  have M_frozen_1 : ∀ base, MF P w K mg base T P_frozen_1 sub S_frozen 0 := fun base => ⟨hz, ⟨rfl, rfl, rfl, rfl⟩, hbi, (fun _ h => nomatch h), hfl, (fun _ h => nomatch h), List.forall_mem_cons.mpr ⟨(RR_frozen_0 base 0).cal, (fun _ h => nomatch h)⟩, (fun _ h => nomatch h), (fun _ h => nomatch h), (fun _ h => nomatch h), XF⟩
  have OK_frozen_1 : ∀ base, FnOk P w K mg base (L2N.CX P w) 1 f_frozen _ ["value"] (spOf T K F_frozen_1 1) := fun base => by
      obtain ⟨r, hr⟩ := Option.isSome_iff_exists.mp c_frozen
      exact def_ok (n := FUEL) (M_frozen_1 base) FF_frozen sc_frozen rfl rfl hr
  have RR_frozen_1 : ∀ (base : Heap) (k : Nat), 1 ≤ k → FnR P w K mg base T F_frozen_1 k "frozen" 1 := fun base k hk => ⟨1, f_frozen, _, ["value"], hk, OK_frozen_1 base, PySem.W.mg_of X G a_frozen, k_frozen, BB_frozen, by decide⟩
  have M_frozen_2 : ∀ base, MF P w K mg base T P_frozen_2 sub S_frozen 1 := fun base => ⟨hz, ⟨rfl, rfl, rfl, rfl⟩, hbi, (fun _ h => nomatch h), hfl, (fun _ h => nomatch h), List.forall_mem_cons.mpr ⟨(RR_frozen_1 base 1 (by decide)).cal, (fun _ h => nomatch h)⟩, (fun _ h => nomatch h), (fun _ h => nomatch h), (fun _ h => nomatch h), XF⟩
  have OK_frozen_2 : ∀ base, FnOk P w K mg base (L2N.CX P w) 2 f_frozen _ ["value"] (spOf T K F_frozen_2 1) := fun base => by
      obtain ⟨r, hr⟩ := Option.isSome_iff_exists.mp c_frozen
      exact def_ok (n := FUEL) (M_frozen_2 base) FF_frozen sc_frozen rfl rfl hr
  have RR_frozen_2 : ∀ (base : Heap) (k : Nat), 2 ≤ k → FnR P w K mg base T F_frozen_2 k "frozen" 1 := fun base k hk => ⟨2, f_frozen, _, ["value"], hk, OK_frozen_2 base, PySem.W.mg_of X G a_frozen, k_frozen, BB_frozen, by decide⟩
  have M_frozen_3 : ∀ base, MF P w K mg base T P_frozen_3 sub S_frozen 2 := fun base => ⟨hz, ⟨rfl, rfl, rfl, rfl⟩, hbi, (fun _ h => nomatch h), hfl, (fun _ h => nomatch h), List.forall_mem_cons.mpr ⟨(RR_frozen_2 base 2 (by decide)).cal, (fun _ h => nomatch h)⟩, (fun _ h => nomatch h), (fun _ h => nomatch h), (fun _ h => nomatch h), XF⟩
  have OK_frozen_3 : ∀ base, FnOk P w K mg base (L2N.CX P w) 3 f_frozen _ ["value"] (spOf T K F_frozen_3 1) := fun base => by
      obtain ⟨r, hr⟩ := Option.isSome_iff_exists.mp c_frozen
      exact def_ok (n := FUEL) (M_frozen_3 base) FF_frozen sc_frozen rfl rfl hr
  have RR_frozen_3 : ∀ (base : Heap) (k : Nat), 3 ≤ k → FnR P w K mg base T F_frozen_3 k "frozen" 1 := fun base k hk => ⟨3, f_frozen, _, ["value"], hk, OK_frozen_3 base, PySem.W.mg_of X G a_frozen, k_frozen, BB_frozen, by decide⟩
  have M_frozen_4 : ∀ base, MF P w K mg base T P_frozen_4 sub S_frozen 3 := fun base => ⟨hz, ⟨rfl, rfl, rfl, rfl⟩, hbi, (fun _ h => nomatch h), hfl, (fun _ h => nomatch h), List.forall_mem_cons.mpr ⟨(RR_frozen_3 base 3 (by decide)).cal, (fun _ h => nomatch h)⟩, (fun _ h => nomatch h), (fun _ h => nomatch h), (fun _ h => nomatch h), XF⟩
  have OK_frozen_4 : ∀ base, FnOk P w K mg base (L2N.CX P w) 4 f_frozen _ ["value"] (spOf T K F_frozen_4 1) := fun base => by
      obtain ⟨r, hr⟩ := Option.isSome_iff_exists.mp c_frozen
      exact def_ok (n := FUEL) (M_frozen_4 base) FF_frozen sc_frozen rfl rfl hr
  have RR_frozen_4 : ∀ (base : Heap) (k : Nat), 4 ≤ k → FnR P w K mg base T F_frozen_4 k "frozen" 1 := fun base k hk => ⟨4, f_frozen, _, ["value"], hk, OK_frozen_4 base, PySem.W.mg_of X G a_frozen, k_frozen, BB_frozen, by decide⟩
  have M_frozen_5 : ∀ base, MF P w K mg base T P_frozen_5 sub S_frozen 4 := fun base => ⟨hz, ⟨rfl, rfl, rfl, rfl⟩, hbi, (fun _ h => nomatch h), hfl, (fun _ h => nomatch h), List.forall_mem_cons.mpr ⟨(RR_frozen_4 base 4 (by decide)).cal, (fun _ h => nomatch h)⟩, (fun _ h => nomatch h), (fun _ h => nomatch h), (fun _ h => nomatch h), XF⟩
  have OK_frozen_5 : ∀ base, FnOk P w K mg base (L2N.CX P w) 5 f_frozen _ ["value"] (spOf T K F_frozen_5 1) := fun base => by
      obtain ⟨r, hr⟩ := Option.isSome_iff_exists.mp c_frozen
      exact def_ok (n := FUEL) (M_frozen_5 base) FF_frozen sc_frozen rfl rfl hr
  have RR_frozen_5 : ∀ (base : Heap) (k : Nat), 5 ≤ k → FnR P w K mg base T F_frozen_5 k "frozen" 1 := fun base k hk => ⟨5, f_frozen, _, ["value"], hk, OK_frozen_5 base, PySem.W.mg_of X G a_frozen, k_frozen, BB_frozen, by decide⟩
  have RR_frozen : ∀ (base : Heap) (k : Nat), 5 ≤ k → FnR P w K mg base T F_frozen k "frozen" 1 := RR_frozen_5
  have FF_is_whole := fun_mk (st := s_is_whole) l_is_whole cd_is_whole_ k_is_whole
  have BB_is_whole := FF_is_whole.binds (ps := ["value"]) fun _ _ _ _ _ _ us hl => match us, hl with | [_], _ => rfl
  have M_is_whole : ∀ base, MF P w K mg base T P_is_whole sub S_is_whole 0 := fun base => ⟨hz, ⟨rfl, rfl, rfl, rfl⟩, hbi, (fun _ h => nomatch h), hfl, (fun _ h => nomatch h), (fun _ h => nomatch h), (fun _ h => nomatch h), (fun _ h => nomatch h), (fun _ h => nomatch h), XF⟩
  have OK_is_whole : ∀ base, FnOk P w K mg base (L2N.CX P w) 1 f_is_whole _ ["value"] (spOf T K F_is_whole 1) := fun base => by
      obtain ⟨r, hr⟩ := Option.isSome_iff_exists.mp c_is_whole
      exact def_ok (n := FUEL) (M_is_whole base) FF_is_whole sc_is_whole rfl rfl hr
  have RR_is_whole : ∀ (base : Heap) (k : Nat), 1 ≤ k → FnR P w K mg base T F_is_whole k "is_whole" 1 := fun base k hk => ⟨1, f_is_whole, _, ["value"], hk, OK_is_whole base, PySem.W.mg_of X G a_is_whole, k_is_whole, BB_is_whole, by decide⟩
  have FF_are_letters := fun_mk (st := s_are_letters) l_are_letters cd_are_letters_ k_are_letters
  have BB_are_letters := FF_are_letters.binds (ps := ["letters"]) fun _ _ _ _ _ _ us hl => match us, hl with | [_], _ => rfl
  have M_are_letters : ∀ base, MF P w K mg base T P_are_letters sub S_are_letters 0 := fun base => ⟨hz, ⟨rfl, rfl, rfl, rfl⟩, hbi, hgl, hfl, (fun _ h => nomatch h), (fun _ h => nomatch h), (fun _ h => nomatch h), (fun _ h => nomatch h), (fun _ h => nomatch h), XF⟩
  have OK_are_letters : ∀ base, FnOk P w K mg base (L2N.CX P w) 1 f_are_letters _ ["letters"] (spOf T K F_are_letters 1) := fun base => by
      obtain ⟨r, hr⟩ := Option.isSome_iff_exists.mp c_are_letters
      exact def_ok (n := FUEL) (M_are_letters base) FF_are_letters sc_are_letters rfl rfl hr
  have RR_are_letters : ∀ (base : Heap) (k : Nat), 1 ≤ k → FnR P w K mg base T F_are_letters k "are_letters" 1 := fun base k hk => ⟨1, f_are_letters, _, ["letters"], hk, OK_are_letters base, PySem.W.mg_of X G a_are_letters, k_are_letters, BB_are_letters, by decide⟩
  have FF_check_letters := fun_mk (st := s_check_letters) l_check_letters cd_check_letters_ k_check_letters
  have BB_check_letters := FF_check_letters.binds (ps := ["letters"]) fun _ _ _ _ _ _ us hl => match us, hl with | [_], _ => rfl
  have M_check_letters : ∀ base, MF P w K mg base T P_check_letters sub S_check_letters 2 := fun base => ⟨hz, ⟨rfl, rfl, rfl, rfl⟩, hbi, (fun _ h => nomatch h), hfl, (fun _ h => nomatch h), List.forall_mem_cons.mpr ⟨(RR_are_letters base 2 (by decide)).cal, (fun _ h => nomatch h)⟩, (fun _ h => nomatch h), hrs base _ (by decide), (fun _ h => nomatch h), XF⟩
  have OK_check_letters : ∀ base, FnOk P w K mg base (L2N.CX P w) 3 f_check_letters _ ["letters"] (spOf T K F_check_letters 1) := fun base => by
      obtain ⟨r, hr⟩ := Option.isSome_iff_exists.mp c_check_letters
      exact def_ok (n := FUEL) (M_check_letters base) FF_check_letters sc_check_letters rfl rfl hr
  have RR_check_letters : ∀ (base : Heap) (k : Nat), 3 ≤ k → FnR P w K mg base T F_check_letters k "check_letters" 1 := fun base k hk => ⟨3, f_check_letters, _, ["letters"], hk, OK_check_letters base, PySem.W.mg_of X G a_check_letters, k_check_letters, BB_check_letters, by decide⟩
  have FF_check_text := fun_mk (st := s_check_text) l_check_text cd_check_text_ k_check_text
  have BB_check_text := FF_check_text.binds (ps := ["letters", "text"]) fun _ _ _ _ _ _ us hl => match us, hl with | [_, _], _ => rfl
  have M_check_text : ∀ base, MF P w K mg base T P_check_text sub S_check_text 2 := fun base => ⟨hz, ⟨rfl, rfl, rfl, rfl⟩, hbi, (fun _ h => nomatch h), hfl, (fun _ h => nomatch h), (fun _ h => nomatch h), (fun _ h => nomatch h), hrs base _ (by decide), (fun _ h => nomatch h), XF⟩
  have OK_check_text : ∀ base, FnOk P w K mg base (L2N.CX P w) 3 f_check_text _ ["letters", "text"] (spOf T K F_check_text 2) := fun base => by
      obtain ⟨r, hr⟩ := Option.isSome_iff_exists.mp c_check_text
      exact def_ok (n := FUEL) (M_check_text base) FF_check_text sc_check_text rfl rfl hr
  have RR_check_text : ∀ (base : Heap) (k : Nat), 3 ≤ k → FnR P w K mg base T F_check_text k "check_text" 2 := fun base k hk => ⟨3, f_check_text, _, ["letters", "text"], hk, OK_check_text base, PySem.W.mg_of X G a_check_text, k_check_text, BB_check_text, by decide⟩
  have FF_is_number_below := fun_mk (st := s_is_number_below) l_is_number_below cd_is_number_below_ k_is_number_below
  have BB_is_number_below := FF_is_number_below.binds (ps := ["value", "many"]) fun _ _ _ _ _ _ us hl => match us, hl with | [_, _], _ => rfl
  have M_is_number_below : ∀ base, MF P w K mg base T P_is_number_below sub S_is_number_below 1 := fun base => ⟨hz, ⟨rfl, rfl, rfl, rfl⟩, hbi, (fun _ h => nomatch h), hfl, (fun _ h => nomatch h), List.forall_mem_cons.mpr ⟨(RR_is_whole base 1 (by decide)).cal, (fun _ h => nomatch h)⟩, (fun _ h => nomatch h), (fun _ h => nomatch h), (fun _ h => nomatch h), XF⟩
  have OK_is_number_below : ∀ base, FnOk P w K mg base (L2N.CX P w) 2 f_is_number_below _ ["value", "many"] (spOf T K F_is_number_below 2) := fun base => by
      obtain ⟨r, hr⟩ := Option.isSome_iff_exists.mp c_is_number_below
      exact def_ok (n := FUEL) (M_is_number_below base) FF_is_number_below sc_is_number_below rfl rfl hr
  have RR_is_number_below : ∀ (base : Heap) (k : Nat), 2 ≤ k → FnR P w K mg base T F_is_number_below k "is_number_below" 2 := fun base k hk => ⟨2, f_is_number_below, _, ["value", "many"], hk, OK_is_number_below base, PySem.W.mg_of X G a_is_number_below, k_is_number_below, BB_is_number_below, by decide⟩
  have FF_is_arrow_row := fun_mk (st := s_is_arrow_row) l_is_arrow_row cd_is_arrow_row_ k_is_arrow_row
  have BB_is_arrow_row := FF_is_arrow_row.binds (ps := ["row", "letters", "states"]) fun _ _ _ _ _ _ us hl => match us, hl with | [_, _, _], _ => rfl
  have M_is_arrow_row : ∀ base, MF P w K mg base T P_is_arrow_row sub S_is_arrow_row 2 := fun base => ⟨hz, ⟨rfl, rfl, rfl, rfl⟩, hbi, (fun _ h => nomatch h), hfl, (fun _ h => nomatch h), List.forall_mem_cons.mpr ⟨(RR_is_number_below base 2 (by decide)).cal, (fun _ h => nomatch h)⟩, (fun _ h => nomatch h), (fun _ h => nomatch h), (fun _ h => nomatch h), XF⟩
  have OK_is_arrow_row : ∀ base, FnOk P w K mg base (L2N.CX P w) 3 f_is_arrow_row _ ["row", "letters", "states"] (spOf T K F_is_arrow_row 3) := fun base => by
      obtain ⟨r, hr⟩ := Option.isSome_iff_exists.mp c_is_arrow_row
      exact def_ok (n := FUEL) (M_is_arrow_row base) FF_is_arrow_row sc_is_arrow_row rfl rfl hr
  have RR_is_arrow_row : ∀ (base : Heap) (k : Nat), 3 ≤ k → FnR P w K mg base T F_is_arrow_row k "is_arrow_row" 3 := fun base k hk => ⟨3, f_is_arrow_row, _, ["row", "letters", "states"], hk, OK_is_arrow_row base, PySem.W.mg_of X G a_is_arrow_row, k_is_arrow_row, BB_is_arrow_row, by decide⟩
  have FI_Automaton := fun_mk (st := s_Automaton) li_Automaton ci_Automaton ki_Automaton
  have BB_Automaton := FI_Automaton.binds (ps := ["self", "letters", "arrows", "yes"]) fun _ _ _ _ _ _ us hl => match us, hl with | [_, _, _, _], _ => rfl
  have M_Automaton : ∀ base, MF P w K mg base T P_Automaton sub S_Automaton 5 := fun base => ⟨hz, ⟨rfl, rfl, rfl, rfl⟩, hbi, (fun _ h => nomatch h), hfl, (fun _ h => nomatch h), List.forall_mem_cons.mpr ⟨(RR_frozen base 5 (by decide)).cal, List.forall_mem_cons.mpr ⟨(RR_check_letters base 5 (by decide)).cal, List.forall_mem_cons.mpr ⟨(RR_is_number_below base 5 (by decide)).cal, List.forall_mem_cons.mpr ⟨(RR_is_arrow_row base 5 (by decide)).cal, (fun _ h => nomatch h)⟩⟩⟩⟩, (fun _ h => nomatch h), hrs base _ (by decide), (fun _ h => nomatch h), XF⟩
  have OK_Automaton : ∀ base, FnOk P w K mg base (L2N.CX P w) 6 fi_Automaton _ ["self", "letters", "arrows", "yes"] (spI T K C_Automaton F_Automaton 3) := fun base => by
      obtain ⟨r, hr⟩ := Option.isSome_iff_exists.mp c_Automaton
      exact initI_ok (n := FUEL) (c := 4) (M_Automaton base) FI_Automaton sc_Automaton rfl rfl rfl (List.take_append_drop 5 _).symm hr cs_Automaton CK_Automaton (show [("letters" : Str), ("arrows" : Str), ("yes" : Str)].length ≤ 900 by decide)
  have RR_Automaton : ∀ (base : Heap) (k : Nat), 7 ≤ k → MkR P w K mg base T F_Automaton k "Automaton" 3 := fun base k hk => ⟨6, C_Automaton, fi_Automaton, _, ["self", "letters", "arrows", "yes"], hk, ⟨mk_Automaton, ii_Automaton, fn_Automaton, kc_Automaton⟩, OK_Automaton base, PySem.W.mg_of X G a_Automaton, BB_Automaton, by decide, by decide⟩
  have FF_states_behind := fun_mk (st := s_states_behind) l_states_behind cd_states_behind_ k_states_behind
  have BB_states_behind := FF_states_behind.binds (ps := ["automaton", "state"]) fun _ _ _ _ _ _ us hl => match us, hl with | [_, _], _ => rfl
  have M_states_behind : ∀ base, MF P w K mg base T P_states_behind sub S_states_behind 0 := fun base => ⟨hz, ⟨rfl, rfl, rfl, rfl⟩, hbi, (fun _ h => nomatch h), hfl, List.forall_mem_cons.mpr ⟨CK_Automaton, (fun _ h => nomatch h)⟩, (fun _ h => nomatch h), (fun _ h => nomatch h), (fun _ h => nomatch h), (fun _ h => nomatch h), XF⟩
  have OK_states_behind : ∀ base, FnOk P w K mg base (L2N.CX P w) 1 f_states_behind _ ["automaton", "state"] (spOf T K F_states_behind 2) := fun base => by
      obtain ⟨r, hr⟩ := Option.isSome_iff_exists.mp c_states_behind
      exact def_ok (n := FUEL) (M_states_behind base) FF_states_behind sc_states_behind rfl rfl hr
  have RR_states_behind : ∀ (base : Heap) (k : Nat), 1 ≤ k → FnR P w K mg base T F_states_behind k "states_behind" 2 := fun base k hk => ⟨1, f_states_behind, _, ["automaton", "state"], hk, OK_states_behind base, PySem.W.mg_of X G a_states_behind, k_states_behind, BB_states_behind, by decide⟩
  have FF_sure_word := fun_mk (st := s_sure_word) l_sure_word cd_sure_word_ k_sure_word
  have BB_sure_word := FF_sure_word.binds (ps := ["automaton", "state"]) fun _ _ _ _ _ _ us hl => match us, hl with | [_, _], _ => rfl
  have M_sure_word : ∀ base, MF P w K mg base T P_sure_word sub S_sure_word 1 := fun base => ⟨hz, ⟨rfl, rfl, rfl, rfl⟩, hbi, (fun _ h => nomatch h), hfl, List.forall_mem_cons.mpr ⟨CK_Automaton, (fun _ h => nomatch h)⟩, List.forall_mem_cons.mpr ⟨(RR_states_behind base 1 (by decide)).cal, (fun _ h => nomatch h)⟩, (fun _ h => nomatch h), (fun _ h => nomatch h), (fun _ h => nomatch h), XF⟩
  have OK_sure_word : ∀ base, FnOk P w K mg base (L2N.CX P w) 2 f_sure_word _ ["automaton", "state"] (spOf T K F_sure_word 2) := fun base => by
      obtain ⟨r, hr⟩ := Option.isSome_iff_exists.mp c_sure_word
      exact def_ok (n := FUEL) (M_sure_word base) FF_sure_word sc_sure_word rfl rfl hr
  have RR_sure_word : ∀ (base : Heap) (k : Nat), 2 ≤ k → FnR P w K mg base T F_sure_word k "sure_word" 2 := fun base k hk => ⟨2, f_sure_word, _, ["automaton", "state"], hk, OK_sure_word base, PySem.W.mg_of X G a_sure_word, k_sure_word, BB_sure_word, by decide⟩
  have FF_earliest := fun_mk (st := s_earliest) l_earliest cd_earliest_ k_earliest
  have BB_earliest := FF_earliest.binds (ps := ["automaton", "text"]) fun _ _ _ _ _ _ us hl => match us, hl with | [_, _], _ => rfl
  have M_earliest : ∀ base, MF P w K mg base T P_earliest sub S_earliest 3 := fun base => ⟨hz, ⟨rfl, rfl, rfl, rfl⟩, hbi, (fun _ h => nomatch h), hfl, List.forall_mem_cons.mpr ⟨CK_Automaton, (fun _ h => nomatch h)⟩, List.forall_mem_cons.mpr ⟨(RR_check_text base 3 (by decide)).cal, List.forall_mem_cons.mpr ⟨(RR_sure_word base 3 (by decide)).cal, (fun _ h => nomatch h)⟩⟩, (fun _ h => nomatch h), (fun _ h => nomatch h), (fun _ h => nomatch h), XF⟩
  have OK_earliest : ∀ base, FnOk P w K mg base (L2N.CX P w) 4 f_earliest _ ["automaton", "text"] (spOf T K F_earliest 2) := fun base => by
      obtain ⟨r, hr⟩ := Option.isSome_iff_exists.mp c_earliest
      exact def_ok (n := FUEL) (M_earliest base) FF_earliest sc_earliest rfl rfl hr
  have RR_earliest : ∀ (base : Heap) (k : Nat), 4 ≤ k → FnR P w K mg base T F_earliest k "earliest" 2 := fun base k hk => ⟨4, f_earliest, _, ["automaton", "text"], hk, OK_earliest base, PySem.W.mg_of X G a_earliest, k_earliest, BB_earliest, by decide⟩
  have FF__law_whole := fun_mk (st := s__law_whole) l__law_whole cd__law_whole_ k__law_whole
  have BB__law_whole := FF__law_whole.binds (ps := ["value"]) fun _ _ _ _ _ _ us hl => match us, hl with | [_], _ => rfl
  have M__law_whole : ∀ base, MF P w K mg base T P__law_whole sub S__law_whole 0 := fun base => ⟨hz, ⟨rfl, rfl, rfl, rfl⟩, hbi, (fun _ h => nomatch h), hfl, (fun _ h => nomatch h), (fun _ h => nomatch h), (fun _ h => nomatch h), (fun _ h => nomatch h), (fun _ h => nomatch h), XF⟩
  have OK__law_whole : ∀ base, FnOk P w K mg base (L2N.CX P w) 1 f__law_whole _ ["value"] (spOf T K F__law_whole 1) := fun base => by
      obtain ⟨r, hr⟩ := Option.isSome_iff_exists.mp c__law_whole
      exact def_ok (n := FUEL) (M__law_whole base) FF__law_whole sc__law_whole rfl rfl hr
  have RR__law_whole : ∀ (base : Heap) (k : Nat), 1 ≤ k → FnR P w K mg base T F__law_whole k "_law_whole" 1 := fun base k hk => ⟨1, f__law_whole, _, ["value"], hk, OK__law_whole base, PySem.W.mg_of X G a__law_whole, k__law_whole, BB__law_whole, by decide⟩
  have HOK__law_whole : ∀ base, L2H.FnH P w K mg base (L2N.CX P w) 1 f__law_whole _ ["value"] (spOf T K F__law_whole 1) := fun base => by
      obtain ⟨r, hr⟩ := Option.isSome_iff_exists.mp ch__law_whole
      exact def_okH (n := FUEL) (M__law_whole base) FF__law_whole sc__law_whole rfl rfl hr
  have HR__law_whole : ∀ (base : Heap) (k : Nat), 1 ≤ k → FnRH P w K mg base T F__law_whole k "_law_whole" 1 := fun base k hk => ⟨1, f__law_whole, _, ["value"], hk, HOK__law_whole base, PySem.W.mg_of X G a__law_whole, k__law_whole, BB__law_whole, by decide⟩
  have FF__law_cell := fun_mk (st := s__law_cell) l__law_cell cd__law_cell_ k__law_cell
  have BB__law_cell := FF__law_cell.binds (ps := ["script", "k"]) fun _ _ _ _ _ _ us hl => match us, hl with | [_, _], _ => rfl
  have M__law_cell : ∀ base, MF P w K mg base T P__law_cell sub S__law_cell 0 := fun base => ⟨hz, ⟨rfl, rfl, rfl, rfl⟩, hbi, (fun _ h => nomatch h), hfl, (fun _ h => nomatch h), (fun _ h => nomatch h), (fun _ h => nomatch h), (fun _ h => nomatch h), (fun _ h => nomatch h), XF⟩
  have OK__law_cell : ∀ base, FnOk P w K mg base (L2N.CX P w) 1 f__law_cell _ ["script", "k"] (spOf T K F__law_cell 2) := fun base => by
      obtain ⟨r, hr⟩ := Option.isSome_iff_exists.mp c__law_cell
      exact def_ok (n := FUEL) (M__law_cell base) FF__law_cell sc__law_cell rfl rfl hr
  have RR__law_cell : ∀ (base : Heap) (k : Nat), 1 ≤ k → FnR P w K mg base T F__law_cell k "_law_cell" 2 := fun base k hk => ⟨1, f__law_cell, _, ["script", "k"], hk, OK__law_cell base, PySem.W.mg_of X G a__law_cell, k__law_cell, BB__law_cell, by decide⟩
  have FF__law_digits := fun_mk (st := s__law_digits) l__law_digits cd__law_digits_ k__law_digits
  have BB__law_digits := FF__law_digits.binds (ps := ["cell", "sizes"]) fun _ _ _ _ _ _ us hl => match us, hl with | [_, _], _ => rfl
  have M__law_digits : ∀ base, MF P w K mg base T P__law_digits sub S__law_digits 0 := fun base => ⟨hz, ⟨rfl, rfl, rfl, rfl⟩, hbi, (fun _ h => nomatch h), hfl, (fun _ h => nomatch h), (fun _ h => nomatch h), (fun _ h => nomatch h), (fun _ h => nomatch h), (fun _ h => nomatch h), XF⟩
  have OK__law_digits : ∀ base, FnOk P w K mg base (L2N.CX P w) 1 f__law_digits _ ["cell", "sizes"] (spOf T K F__law_digits 2) := fun base => by
      obtain ⟨r, hr⟩ := Option.isSome_iff_exists.mp c__law_digits
      exact def_ok (n := FUEL) (M__law_digits base) FF__law_digits sc__law_digits rfl rfl hr
  have RR__law_digits : ∀ (base : Heap) (k : Nat), 1 ≤ k → FnR P w K mg base T F__law_digits k "_law_digits" 2 := fun base k hk => ⟨1, f__law_digits, _, ["cell", "sizes"], hk, OK__law_digits base, PySem.W.mg_of X G a__law_digits, k__law_digits, BB__law_digits, by decide⟩
  have FF__law_letters := fun_mk (st := s__law_letters) l__law_letters cd__law_letters_ k__law_letters
  have BB__law_letters := FF__law_letters.binds (ps := ["row"]) fun _ _ _ _ _ _ us hl => match us, hl with | [_], _ => rfl
  have M__law_letters : ∀ base, MF P w K mg base T P__law_letters sub S__law_letters 0 := fun base => ⟨hz, ⟨rfl, rfl, rfl, rfl⟩, hbi, (fun _ h => nomatch h), hfl, (fun _ h => nomatch h), (fun _ h => nomatch h), (fun _ h => nomatch h), (fun _ h => nomatch h), (fun _ h => nomatch h), XF⟩
  have OK__law_letters : ∀ base, FnOk P w K mg base (L2N.CX P w) 1 f__law_letters _ ["row"] (spOf T K F__law_letters 1) := fun base => by
      obtain ⟨r, hr⟩ := Option.isSome_iff_exists.mp c__law_letters
      exact def_ok (n := FUEL) (M__law_letters base) FF__law_letters sc__law_letters rfl rfl hr
  have RR__law_letters : ∀ (base : Heap) (k : Nat), 1 ≤ k → FnR P w K mg base T F__law_letters k "_law_letters" 1 := fun base k hk => ⟨1, f__law_letters, _, ["row"], hk, OK__law_letters base, PySem.W.mg_of X G a__law_letters, k__law_letters, BB__law_letters, by decide⟩
  have FF__law_long_text := fun_mk (st := s__law_long_text) l__law_long_text cd__law_long_text_ k__law_long_text
  have BB__law_long_text := FF__law_long_text.binds (ps := ["letters", "cell", "size"]) fun _ _ _ _ _ _ us hl => match us, hl with | [_, _, _], _ => rfl
  have M__law_long_text : ∀ base, MF P w K mg base T P__law_long_text sub S__law_long_text 0 := fun base => ⟨hz, ⟨rfl, rfl, rfl, rfl⟩, hbi, (fun _ h => nomatch h), hfl, (fun _ h => nomatch h), (fun _ h => nomatch h), (fun _ h => nomatch h), (fun _ h => nomatch h), (fun _ h => nomatch h), XF⟩
  have OK__law_long_text : ∀ base, FnOk P w K mg base (L2N.CX P w) 1 f__law_long_text _ ["letters", "cell", "size"] (spOf T K F__law_long_text 3) := fun base => by
      obtain ⟨r, hr⟩ := Option.isSome_iff_exists.mp c__law_long_text
      exact def_ok (n := FUEL) (M__law_long_text base) FF__law_long_text sc__law_long_text rfl rfl hr
  have RR__law_long_text : ∀ (base : Heap) (k : Nat), 1 ≤ k → FnR P w K mg base T F__law_long_text k "_law_long_text" 3 := fun base k hk => ⟨1, f__law_long_text, _, ["letters", "cell", "size"], hk, OK__law_long_text base, PySem.W.mg_of X G a__law_long_text, k__law_long_text, BB__law_long_text, by decide⟩
  have FF__law_texts := fun_mk (st := s__law_texts) l__law_texts cd__law_texts_ k__law_texts
  have BB__law_texts := FF__law_texts.binds (ps := ["letters", "length"]) fun _ _ _ _ _ _ us hl => match us, hl with | [_, _], _ => rfl
  have M__law_texts : ∀ base, MF P w K mg base T P__law_texts sub S__law_texts 0 := fun base => ⟨hz, ⟨rfl, rfl, rfl, rfl⟩, hbi, (fun _ h => nomatch h), hfl, (fun _ h => nomatch h), (fun _ h => nomatch h), (fun _ h => nomatch h), (fun _ h => nomatch h), (fun _ h => nomatch h), XF⟩
  have OK__law_texts : ∀ base, FnOk P w K mg base (L2N.CX P w) 1 f__law_texts _ ["letters", "length"] (spOf T K F__law_texts 2) := fun base => by
      obtain ⟨r, hr⟩ := Option.isSome_iff_exists.mp c__law_texts
      exact def_ok (n := FUEL) (M__law_texts base) FF__law_texts sc__law_texts rfl rfl hr
  have RR__law_texts : ∀ (base : Heap) (k : Nat), 1 ≤ k → FnR P w K mg base T F__law_texts k "_law_texts" 2 := fun base k hk => ⟨1, f__law_texts, _, ["letters", "length"], hk, OK__law_texts base, PySem.W.mg_of X G a__law_texts, k__law_texts, BB__law_texts, by decide⟩
  have FF__law_automaton := fun_mk (st := s__law_automaton) l__law_automaton cd__law_automaton_ k__law_automaton
  have BB__law_automaton := FF__law_automaton.binds (ps := ["script", "at", "letters"]) fun _ _ _ _ _ _ us hl => match us, hl with | [_, _, _], _ => rfl
  have M__law_automaton : ∀ base, MF P w K mg base T P__law_automaton sub S__law_automaton 1 := fun base => ⟨hz, ⟨rfl, rfl, rfl, rfl⟩, hbi, (fun _ h => nomatch h), hfl, (fun _ h => nomatch h), List.forall_mem_cons.mpr ⟨(RR__law_cell base 1 (by decide)).cal, List.forall_mem_cons.mpr ⟨(RR__law_digits base 1 (by decide)).cal, (fun _ h => nomatch h)⟩⟩, (fun _ h => nomatch h), (fun _ h => nomatch h), (fun _ h => nomatch h), XF⟩
  have OK__law_automaton : ∀ base, FnOk P w K mg base (L2N.CX P w) 2 f__law_automaton _ ["script", "at", "letters"] (spOf T K F__law_automaton 3) := fun base => by
      obtain ⟨r, hr⟩ := Option.isSome_iff_exists.mp c__law_automaton
      exact def_ok (n := FUEL) (M__law_automaton base) FF__law_automaton sc__law_automaton rfl rfl hr
  have RR__law_automaton : ∀ (base : Heap) (k : Nat), 2 ≤ k → FnR P w K mg base T F__law_automaton k "_law_automaton" 3 := fun base k hk => ⟨2, f__law_automaton, _, ["script", "at", "letters"], hk, OK__law_automaton base, PySem.W.mg_of X G a__law_automaton, k__law_automaton, BB__law_automaton, by decide⟩
  have FF__law_sure := fun_mk (st := s__law_sure) l__law_sure cd__law_sure_ k__law_sure
  have BB__law_sure := FF__law_sure.binds (ps := ["arrows", "yes", "state"]) fun _ _ _ _ _ _ us hl => match us, hl with | [_, _, _], _ => rfl
  have M__law_sure : ∀ base, MF P w K mg base T P__law_sure sub S__law_sure 0 := fun base => ⟨hz, ⟨rfl, rfl, rfl, rfl⟩, hbi, (fun _ h => nomatch h), hfl, (fun _ h => nomatch h), (fun _ h => nomatch h), (fun _ h => nomatch h), (fun _ h => nomatch h), (fun _ h => nomatch h), XF⟩
  have OK__law_sure : ∀ base, FnOk P w K mg base (L2N.CX P w) 1 f__law_sure _ ["arrows", "yes", "state"] (spOf T K F__law_sure 3) := fun base => by
      obtain ⟨r, hr⟩ := Option.isSome_iff_exists.mp c__law_sure
      exact def_ok (n := FUEL) (M__law_sure base) FF__law_sure sc__law_sure rfl rfl hr
  have RR__law_sure : ∀ (base : Heap) (k : Nat), 1 ≤ k → FnR P w K mg base T F__law_sure k "_law_sure" 3 := fun base k hk => ⟨1, f__law_sure, _, ["arrows", "yes", "state"], hk, OK__law_sure base, PySem.W.mg_of X G a__law_sure, k__law_sure, BB__law_sure, by decide⟩
  have FF__law_earliest := fun_mk (st := s__law_earliest) l__law_earliest cd__law_earliest_ k__law_earliest
  have BB__law_earliest := FF__law_earliest.binds (ps := ["arrows", "yes", "letters", "text"]) fun _ _ _ _ _ _ us hl => match us, hl with | [_, _, _, _], _ => rfl
  have M__law_earliest : ∀ base, MF P w K mg base T P__law_earliest sub S__law_earliest 1 := fun base => ⟨hz, ⟨rfl, rfl, rfl, rfl⟩, hbi, (fun _ h => nomatch h), hfl, (fun _ h => nomatch h), List.forall_mem_cons.mpr ⟨(RR__law_sure base 1 (by decide)).cal, (fun _ h => nomatch h)⟩, (fun _ h => nomatch h), (fun _ h => nomatch h), (fun _ h => nomatch h), XF⟩
  have OK__law_earliest : ∀ base, FnOk P w K mg base (L2N.CX P w) 2 f__law_earliest _ ["arrows", "yes", "letters", "text"] (spOf T K F__law_earliest 4) := fun base => by
      obtain ⟨r, hr⟩ := Option.isSome_iff_exists.mp c__law_earliest
      exact def_ok (n := FUEL) (M__law_earliest base) FF__law_earliest sc__law_earliest rfl rfl hr
  have RR__law_earliest : ∀ (base : Heap) (k : Nat), 2 ≤ k → FnR P w K mg base T F__law_earliest k "_law_earliest" 4 := fun base k hk => ⟨2, f__law_earliest, _, ["arrows", "yes", "letters", "text"], hk, OK__law_earliest base, PySem.W.mg_of X G a__law_earliest, k__law_earliest, BB__law_earliest, by decide⟩
  have FF__law_refused := fun_mk (st := s__law_refused) l__law_refused cd__law_refused_ k__law_refused
  have BB__law_refused := FF__law_refused.binds (ps := ["automaton", "text", "place"]) fun _ _ _ _ _ _ us hl => match us, hl with | [_, _, _], _ => rfl
  have M__law_refused : ∀ base, MF P w K mg base T P__law_refused sub S__law_refused 4 := fun base => ⟨hz, ⟨rfl, rfl, rfl, rfl⟩, hbi, (fun _ h => nomatch h), hfl, (fun _ h => nomatch h), List.forall_mem_cons.mpr ⟨(RR_earliest base 4 (by decide)).cal, (fun _ h => nomatch h)⟩, List.forall_mem_cons.mpr ⟨HR__law_whole base 4 (by decide), (fun _ h => nomatch h)⟩, (fun _ h => nomatch h), hcn, XF⟩
  have OK__law_refused : ∀ base, FnOk P w K mg base (L2N.CX P w) 5 f__law_refused _ ["automaton", "text", "place"] (spOf T K F__law_refused 3) := fun base => by
      obtain ⟨r, hr⟩ := Option.isSome_iff_exists.mp c__law_refused
      exact def_ok (n := FUEL) (M__law_refused base) FF__law_refused sc__law_refused rfl rfl hr
  have RR__law_refused : ∀ (base : Heap) (k : Nat), 5 ≤ k → FnR P w K mg base T F__law_refused k "_law_refused" 3 := fun base k hk => ⟨5, f__law_refused, _, ["automaton", "text", "place"], hk, OK__law_refused base, PySem.W.mg_of X G a__law_refused, k__law_refused, BB__law_refused, by decide⟩
  have FF_law := fun_mk (st := s_law) l_law cd_law_ k_law
  have BB_law := FF_law.binds (ps := ["script"]) fun _ _ _ _ _ _ us hl => match us, hl with | [_], _ => rfl
  have M_law : ∀ base, MF P w K mg base T P_law sub S_law 7 := fun base => ⟨hz, ⟨rfl, rfl, rfl, rfl⟩, hbi, (fun _ h => nomatch h), hfl, (fun _ h => nomatch h), List.forall_mem_cons.mpr ⟨(RR_earliest base 7 (by decide)).cal, List.forall_mem_cons.mpr ⟨(RR__law_whole base 7 (by decide)).cal, List.forall_mem_cons.mpr ⟨(RR__law_cell base 7 (by decide)).cal, List.forall_mem_cons.mpr ⟨(RR__law_digits base 7 (by decide)).cal, List.forall_mem_cons.mpr ⟨(RR__law_letters base 7 (by decide)).cal, List.forall_mem_cons.mpr ⟨(RR__law_long_text base 7 (by decide)).cal, List.forall_mem_cons.mpr ⟨(RR__law_texts base 7 (by decide)).cal, List.forall_mem_cons.mpr ⟨(RR__law_automaton base 7 (by decide)).cal, List.forall_mem_cons.mpr ⟨(RR__law_earliest base 7 (by decide)).cal, List.forall_mem_cons.mpr ⟨(RR__law_refused base 7 (by decide)).cal, List.forall_mem_cons.mpr ⟨(RR_Automaton base 7 (by decide)).cal, (fun _ h => nomatch h)⟩⟩⟩⟩⟩⟩⟩⟩⟩⟩⟩, (fun _ h => nomatch h), (fun _ h => nomatch h), (fun _ h => nomatch h), XF⟩
  have OK_law : ∀ base, FnOk P w K mg base (L2N.CX P w) 8 f_law _ ["script"] (spOf T K F_law 1) := fun base => by
      obtain ⟨r, hr⟩ := Option.isSome_iff_exists.mp c_law
      exact def_ok (n := FUEL) (M_law base) FF_law sc_law rfl rfl hr
  have RR_law : ∀ (base : Heap) (k : Nat), 8 ≤ k → FnR P w K mg base T F_law k "law" 1 := fun base k hk => ⟨8, f_law, _, ["script"], hk, OK_law base, PySem.W.mg_of X G a_law, k_law, BB_law, by decide⟩
  exact ⟨PySem.W.fnOf "law" "law" (defArgs s_law) (defBody s_law) (defScope s_law) .none kV_law dc_law pm_law an_law cd_law ct_law, fun s u => .of_eq rfl, fun base _ _ => law_ok (OK_law base) rfl hl⟩
end Lw

set_option maxRecDepth 100000
set_option autoImplicit false
set_option linter.all false
namespace Lw
open E
/-! what every law has: _law_cell, _law_digits -/
theorem cell_loop (f : D → Env → Out) (s k : D) (hf : ∀ (x seed : Int) (x3 : Option D), 0 ≤ seed → seed < 1000003 → f (.int x) [some s, some k, some (.int seed), x3] = .nx [some s, some k, some (.int ((seed * 31 + x % 1000003) % 1000003)), some (.int x)]) :
    ∀ (ns : List Int) (seed : Int) (x3 : Option D), 0 ≤ seed → seed < 1000003 → ∃ (seed' : Int) (y3 : Option D), 0 ≤ seed' ∧ seed' < 1000003 ∧ forL f (ns.map D.int) [some s, some k, some (.int seed), x3] = .nx [some s, some k, some (.int seed'), y3]
  | [], seed, x3, h1, h2 => ⟨seed, x3, h1, h2, rfl⟩
  | x :: r, seed, x3, h1, h2 => by
    obtain ⟨h3, h4⟩ := emod_b (seed * 31 + x % 1000003) (b := 1000003) (by omega)
    obtain ⟨seed', y3, a, b, c⟩ := cell_loop f s k hf r _ (some (.int x)) h3 h4
    exact ⟨seed', y3, a, b, by rw [List.map_cons, forL, hf x seed x3 h1 h2]; exact c⟩
theorem pow60 : ((10 : Int) ^ (60 : Int).toNat) = 10 ^ 60 := rfl
theorem cell_ok (ns : List Int) (hn : ns.length ≤ 63) (k : Nat) (hk : k ≤ 1000) : ∃ v : Int, 0 ≤ v ∧ F__law_cell [.scr ns, .int k] = .ok (.int v) := by
  have hbig : ((10 : Int) ^ 60).natAbs < BIG := lt_big (by omega) (by omega)
  by_cases h : k < ns.length
  · have hat : at_ ns (k : Int) = some ns[k] := by
      unfold at_ ixOf
      rw [if_pos (by omega), if_pos (by omega)]
      simp [h]
    obtain ⟨T, hT⟩ : ∃ T : Int, T = 10 ^ 60 := ⟨_, rfl⟩
    have p60 : op2 .pow (.int 10) (.int 60) = .ok (.int T) := by rw [op2_pow, if_pos ⟨by omega, by omega, by decide⟩, hT, pow60]
    have hT0 : 0 < T := by omega
    rw [← hT] at hbig
    have hTT : 0 < T * T := Int.mul_pos hT0 hT0
    refine ⟨ns[k] % (T * T), (emod_b _ hTT).1, ?_⟩
    have h2 : dIdx (.scr ns) (.int k) = .ok (.int ns[k]) := by
      show om (at_ ns (k : Int)) _ = _
      rw [hat]; rfl
    have h3 : dMul (.int T) (.int T) = .ok (.int (T * T)) := dMul_i hbig hbig
    have h4 : decide ((k : Int) < (ns.length : Int)) = true := decide_eq_true (by omega)
    simp only [F__law_cell, run, b__law_cell]
    simp [-op2_pow, h, h2, h3, p60, hTT]
  · have h4 : decide ((k : Int) < (ns.length : Int)) = false := decide_eq_false (by omega)
    obtain ⟨seed, y3, s1, s2, hl⟩ := cell_loop (fun d e => omO (asg [3] true d e) (evS P__law_cell sub FUEL lb__law_cell_1)) (.scr ns) (.int k) (fun x seed x3 h1 h2 => by
      have h5 : dMul (.int seed) (.int 31) = .ok (.int (seed * 31)) := dMul_i (lt_big (by omega) (by omega)) (lt_big (by omega) (by omega))
      simp [h5]) ns 17 none (by omega) (by omega)
    have hf : evS P__law_cell sub FUEL fo__law_cell_1 [some (.scr ns), some (.int k), some (.int 17), none] = .nx [some (.scr ns), some (.int k), some (.int seed), y3] := by
      rw [evS_for, ev_var, look0, out_ok, items_c, omO_some, hl]
    refine ⟨((seed + 7) * (k + 3) * 69621) % 2147483647, (emod_b _ (by decide)).1, ?_⟩
    have b0 : 0 ≤ (seed + 7) * (k + 3) := Int.mul_nonneg (by omega) (by omega)
    have b1 : (seed + 7) * (k + 3) ≤ 1000010 * 1003 := Int.mul_le_mul (by omega) (by omega) (by omega) (by omega)
    have h6 : dMul (.int (seed + 7)) (.int (k + 3)) = .ok (.int ((seed + 7) * (k + 3))) := dMul_i (lt_big (by omega) (by omega)) (lt_big (by omega) (by omega))
    have h7 : dMul (.int ((seed + 7) * (k + 3))) (.int 69621) = .ok (.int ((seed + 7) * (k + 3) * 69621)) := dMul_i (lt_big (by omega) (by omega)) (lt_big (by omega) (by omega))
    simp only [F__law_cell, run, b__law_cell]
    simp [h, hf, h6, h7]
/-- digits below the sizes -/
def Bd : List Int → List Int → Prop
  | [], [] => True
  | d :: ds, s :: ss => (0 ≤ d ∧ d < s) ∧ Bd ds ss
  | _, _ => False
theorem Bd_len : ∀ {ds ss : List Int}, Bd ds ss → ds.length = ss.length
  | [], [], _ => rfl
  | [], _ :: _, h => h.elim
  | _ :: _, [], h => h.elim
  | d :: ds, s :: ss, h => by simp [Bd_len h.2]
theorem Bd_get : ∀ {ds ss : List Int} {i : Nat} {s : Int}, Bd ds ss → ss[i]? = some s → ∃ d, ds[i]? = some d ∧ 0 ≤ d ∧ d < s
  | [], [], _, _, _, h => by simp at h
  | [], _ :: _, _, _, h, _ => h.elim
  | _ :: _, [], _, _, h, _ => h.elim
  | d :: ds, s :: ss, 0, s', h, e => by
    have e : s = s' := by simpa using e
    subst e
    exact ⟨d, rfl, h.1⟩
  | d :: ds, s :: ss, i + 1, s', h, e => by
    obtain ⟨x, h1, h2⟩ := Bd_get (i := i) h.2 (by simpa using e)
    exact ⟨x, by simpa using h1, h2⟩
abbrev dEnv (c : D) (ss : List Int) (acc : List Int) (rest : Int) (x4 x5 x6 x7 : Option D) : Env := [some c, some (.lst (ss.map D.int)), some (.lst (acc.map D.int)), some (.int rest), x4, x5, x6, x7]
theorem dig_loop1 (c : D) (ss : List Int) (x4 x5 x7 : Option D) : ∀ (l acc : List Int) (rest : Int) (x6 : Option D), (∀ s ∈ l, 0 < s ∧ s < 1000000) → acc.length + l.length ≤ 1000 →
    ∃ (ds : List Int) (rest' : Int) (y6 : Option D), Bd ds l ∧ forL (fun d e => omO (asg [6] true d e) (evS P__law_digits sub FUEL lb__law_digits_1)) (l.map D.int) (dEnv c ss acc rest x4 x5 x6 x7) = .nx (dEnv c ss (acc ++ ds) rest' x4 x5 y6 x7)
  | [], acc, rest, x6, _, _ => ⟨[], rest, x6, trivial, by simp [forL]⟩
  | s :: l, acc, rest, x6, h, hl => by
    obtain ⟨h1, h2⟩ := h s List.mem_cons_self
    simp only [List.length_cons] at hl
    obtain ⟨ds, rest', y6, b, e⟩ := dig_loop1 c ss x4 x5 x7 l (acc ++ [rest % s]) (rest / s) (some (.int s)) (fun z hz => h z (List.mem_cons_of_mem _ hz)) (by simp; omega)
    refine ⟨(rest % s) :: ds, rest', y6, ⟨emod_b rest h1, b⟩, ?_⟩
    have hb : s.natAbs < BIG := lt_big (by omega) (by omega)
    have step : (fun d e => omO (asg [6] true d e) (evS P__law_digits sub FUEL lb__law_digits_1)) (D.int s) (dEnv c ss acc rest x4 x5 x6 x7) = .nx (dEnv c ss (acc ++ [rest % s]) (rest / s) x4 x5 (some (.int s)) x7) := by
      have hm : muF .append 2 (evL P__law_digits sub (.cons (.op .mod (.bi .int (.cons (.var 3) .nil)) (.var 6)) .nil)) (dEnv c ss acc rest x4 x5 (some (.int s)) x7) = .nx (dEnv c ss (acc ++ [rest % s]) rest x4 x5 (some (.int s)) x7) := by
        rw [mu_app (l := acc.map D.int) (d := .int (rest % s)) (by simp) (by simp [h1]) (lim_lt (by simp; omega))]
        simp
      simp [hm, h1, hb]
    rw [List.map_cons, forL_nx step]
    simpa using e
theorem dig_loop2 (c : D) (ss : List Int) (rest : Int) (x6 : Option D) (hs : ∀ s ∈ ss, 0 < s ∧ s < 1000000) (hl : ss.length ≤ 1000) : ∀ (m i : Nat) (acc : List Int) (seed : Int) (x5 x7 : Option D), i + m = ss.length → acc.length = i → 0 ≤ seed → seed < 2147483647 →
    ∃ (ds : List Int) (y4 y5 y7 : Option D), Bd ds (ss.drop i) ∧ forL (fun d e => omO (asg [5] true d e) (evS P__law_digits sub FUEL lb__law_digits_2)) ((List.range' i m).map fun (k : Nat) => D.int (k : Int)) (dEnv c ss acc rest (some (.int seed)) x5 x6 x7) = .nx (dEnv c ss (acc ++ ds) rest y4 y5 x6 y7)
  | 0, i, acc, seed, x5, x7, hi, ha, _, _ => ⟨[], some (.int seed), x5, x7, by rw [List.drop_eq_nil_of_le (by omega)]; trivial, by simp [forL]⟩
  | m + 1, i, acc, seed, x5, x7, hi, ha, s1, s2 => by
    have hlt : i < ss.length := by omega
    obtain ⟨h1, h2⟩ := hs ss[i] (List.getElem_mem hlt)
    have m1 : dMul (.int seed) (.int 48271) = .ok (.int (seed * 48271)) := dMul_i (lt_big (by omega) (by omega)) (lt_big (by omega) (by omega))
    have m2 : dMul (.int 974711) (.int (i : Int)) = .ok (.int (974711 * i)) := dMul_i (lt_big (by omega) (by omega)) (lt_big (by omega) (by omega))
    obtain ⟨t1, t2⟩ := emod_b (seed * 48271 + 974711 * i + 12345) (b := 2147483647) (by omega)
    generalize hsd : (seed * 48271 + 974711 * (i : Int) + 12345) % 2147483647 = sd at t1 t2
    have q1 : 0 ≤ sd / 65537 := Int.ediv_nonneg t1 (by omega)
    have q2 : sd / 65537 ≤ sd := Int.ediv_le_self _ t1
    have m3 : dMul (.int sd) (.int (sd / 65537 + 3)) = .ok (.int (sd * (sd / 65537 + 3))) := dMul_i (lt_big (by omega) (by omega)) (lt_big (by omega) (by omega))
    have hat : dIdx (.lst (ss.map D.int)) (.int (i : Int)) = .ok (.int ss[i]) := by
      show om (at_ (ss.map D.int) (i : Int)) _ = _
      have : at_ (ss.map D.int) (i : Int) = some (.int ss[i]) := by
        unfold at_ ixOf
        rw [if_pos (by omega), if_pos (by simp; omega)]
        simp [hlt]
      rw [this]; rfl
    generalize htw : (sd * (sd / 65537 + 3)) % 2147483629 = tw
    have big1 : (65537 : Nat) < BIG := lt_big (a := 65537) (by omega) (by omega)
    have big2 : (19 : Nat) < BIG := lt_big (a := 19) (by omega) (by omega)
    obtain ⟨ds, y4, y5, y7, b, e⟩ := dig_loop2 c ss rest x6 hs hl m (i + 1) (acc ++ [tw / 19 % ss[i]]) sd (some (.int (i : Int))) (some (.int tw)) (by omega) (by simp [ha]) t1 t2
    refine ⟨(tw / 19 % ss[i]) :: ds, y4, y5, y7, ?_, ?_⟩
    · rw [List.drop_eq_getElem_cons hlt]
      exact ⟨emod_b _ h1, b⟩
    have step : (fun d e => omO (asg [5] true d e) (evS P__law_digits sub FUEL lb__law_digits_2)) (D.int (i : Int)) (dEnv c ss acc rest (some (.int seed)) x5 x6 x7) = .nx (dEnv c ss (acc ++ [tw / 19 % ss[i]]) rest (some (.int sd)) (some (.int (i : Int))) x6 (some (.int tw))) := by
      have hm : muF .append 2 (evL P__law_digits sub (.cons (.op .mod (.op .fdiv (.var 7) (.int 19)) (.idx (.var 1) (.var 5))) .nil)) (dEnv c ss acc rest (some (.int sd)) (some (.int (i : Int))) x6 (some (.int tw))) = .nx (dEnv c ss (acc ++ [tw / 19 % ss[i]]) rest (some (.int sd)) (some (.int (i : Int))) x6 (some (.int tw))) := by
        rw [mu_app (l := acc.map D.int) (d := .int (tw / 19 % ss[i])) (by simp) (by simp [hat, h1, big2]) (lim_lt (by simp; omega))]
        simp
      simp [hm, m1, m2, hsd, m3, htw, big1]
    rw [List.range'_succ, List.map_cons, forL_nx step]
    simpa using e
theorem digits_ok (c : Int) (ss : List Int) (hs : ∀ s ∈ ss, 0 < s ∧ s < 1000000) (hl : ss.length ≤ 1000) : ∃ ds, Bd ds ss ∧ F__law_digits [.int c, .lst (ss.map D.int)] = .ok (.lst (ds.map D.int)) := by
  by_cases h : (10 : Int) ^ 18 ≤ c
  · obtain ⟨ds, rest', y6, b, e⟩ := dig_loop1 (.int c) ss none none none ss [] (c - 10 ^ 18) none hs (by simp; omega)
    have hf : evS P__law_digits sub FUEL fo__law_digits_1 (dEnv (.int c) ss [] (c - 10 ^ 18) none none none none) = .nx (dEnv (.int c) ss ds rest' none none y6 none) := by
      rw [evS_for, ev_var, lookS, look0, out_ok, items_l, omO_some, e]; simp
    refine ⟨ds, b, ?_⟩
    have h' : (1000000000000000000 : Int) ≤ c := h
    simp only [F__law_digits, run, b__law_digits]
    simp only [dEnv, List.map_nil, show (10 : Int) ^ 18 = 1000000000000000000 from rfl] at hf
    simp [h', hf, lim_le]
  · have hc : 0 ≤ c % 2147483629 := (emod_b c (by omega)).1
    have hc2 : c % 2147483629 < 2147483629 := (emod_b c (by omega)).2
    obtain ⟨ds, y4, y5, y7, b, e⟩ := dig_loop2 (.int c) ss c none hs hl ss.length 0 [] (c % 2147483629) none none (by omega) rfl hc (by omega)
    have hr : biF .rng1 [.int (ss.length : Int)] = .ok (.lst (rangeD 0 (ss.length : Int))) := rng1_ok (by omega)
    have hf : evS P__law_digits sub FUEL fo__law_digits_2 (dEnv (.int c) ss [] c (some (.int (c % 2147483629))) none none none) = .nx (dEnv (.int c) ss ds c y4 y5 none y7) := by
      rw [evS_for]
      have h1 : ev P__law_digits sub (.bi .rng1 (.cons (.bi .len (.cons (.var 1) .nil)) .nil)) (dEnv (.int c) ss [] c (some (.int (c % 2147483629))) none none none) = .ok (.lst (rangeD 0 (ss.length : Int))) := by simp [hr]
      rw [h1, out_ok, items_l, omO_some, range_eq, e]
      simp
    refine ⟨ds, by simpa using b, ?_⟩
    have h' : ¬ (1000000000000000000 : Int) ≤ c := h
    simp only [F__law_digits, run, b__law_digits]
    simp only [dEnv, List.map_nil] at hf
    simp [h', hf, lim_le]
/-! ### long texts -/
theorem lt_loop (L : List Nat) (c z : D) (hL : 0 < L.length) (hL2 : L.length ≤ 1000) : ∀ (m i : Nat) (t : List Nat) (seed : Int) (x5 : Option D), i + m ≤ 100000 → t.length ≤ i → (∀ x ∈ t, x ∈ L) → 0 ≤ seed → seed < 2147483647 →
    ∃ (t' : List Nat) (y4 y5 : Option D), t'.length = t.length + m ∧ (∀ x ∈ t', x ∈ L) ∧ forL (fun d e => omO (asg [5] true d e) (evS P__law_long_text sub FUEL lb__law_long_text_1)) ((List.range' i m).map fun (k : Nat) => D.int (k : Int)) [some (.str L), some c, some z, some (.str t), some (.int seed), x5] = .nx [some (.str L), some c, some z, some (.str t'), y4, y5]
  | 0, i, t, seed, x5, hi, ht, hm, _, _ => ⟨t, some (.int seed), x5, rfl, hm, by simp [forL]⟩
  | m + 1, i, t, seed, x5, hi, ht, hm, s1, s2 => by
    have m1 : dMul (.int seed) (.int 48271) = .ok (.int (seed * 48271)) := dMul_i (lt_big (by omega) (by omega)) (lt_big (by omega) (by omega))
    have m2 : dMul (.int 974711) (.int (i : Int)) = .ok (.int (974711 * i)) := dMul_i (lt_big (by omega) (by omega)) (lt_big (by omega) (by omega))
    obtain ⟨t1, t2⟩ := emod_b (seed * 48271 + 974711 * i + 12345) (b := 2147483647) (by omega)
    generalize hsd : (seed * 48271 + 974711 * (i : Int) + 12345) % 2147483647 = sd at t1 t2
    obtain ⟨q1, q2⟩ := emod_b (sd / 65537) (b := (L.length : Int)) (by omega)
    obtain ⟨j, hj⟩ := Int.eq_ofNat_of_zero_le q1
    have hjl : j < L.length := by omega
    have hlen : biF .len [.str L] = .ok (.int (L.length : Int)) := len_s (lim_le (by omega))
    have big1 : (65537 : Nat) < BIG := lt_big (a := 65537) (by omega) (by omega)
    have d1 := idx_s L (lim_le (by omega)) j _ (List.getElem?_eq_getElem hjl)
    have a1 : dAdd (.str t) (.str [L[j]]) = .ok (.str (t ++ [L[j]])) := addS (by simp; omega)
    obtain ⟨t', y4, y5, e1, e2, e3⟩ := lt_loop L c z hL hL2 m (i + 1) (t ++ [L[j]]) sd (some (.int (i : Int))) (by omega) (by simp; omega) (by
      intro x hx
      rcases List.mem_append.1 hx with h | h
      · exact hm x h
      · rw [List.mem_singleton.1 h]; exact List.getElem_mem hjl) t1 t2
    refine ⟨t', y4, y5, by simp at e1; omega, e2, ?_⟩
    have step : (fun d e => omO (asg [5] true d e) (evS P__law_long_text sub FUEL lb__law_long_text_1)) (D.int (i : Int)) [some (.str L), some c, some z, some (.str t), some (.int seed), x5] = .nx [some (.str L), some c, some z, some (.str (t ++ [L[j]])), some (.int sd), some (.int (i : Int))] := by
      simp [m1, m2, hsd, big1, hlen, hL, hj, d1, a1]
    rw [List.range'_succ, List.map_cons, forL_nx step, e3]
theorem long_ok (L : List Nat) (c : Int) (n : Nat) (hL : 0 < L.length) (hL2 : L.length ≤ 1000) (hn : n ≤ 100000) : ∃ t : List Nat, t.length = n ∧ (∀ x ∈ t, x ∈ L) ∧ F__law_long_text [.str L, .int c, .int (n : Int)] = .ok (.str t) := by
  obtain ⟨h1, h2⟩ := emod_b c (b := 2147483629) (by omega)
  obtain ⟨t, y4, y5, e1, e2, e3⟩ := lt_loop L (.int c) (.int (n : Int)) hL hL2 n 0 [] (c % 2147483629) none (by omega) (by simp) (by simp) h1 (by omega)
  refine ⟨t, by simpa using e1, e2, ?_⟩
  have hr : biF .rng1 [.int (n : Int)] = .ok (.lst (rangeD 0 (n : Int))) := rng1_ok (by omega)
  have hf : evS P__law_long_text sub FUEL fo__law_long_text_1 [some (.str L), some (.int c), some (.int (n : Int)), some (.str []), some (.int (c % 2147483629)), none] = .nx [some (.str L), some (.int c), some (.int (n : Int)), some (.str t), y4, y5] := by
    rw [evS_for]
    have h1 : ev P__law_long_text sub (.bi .rng1 (.cons (.var 2) .nil)) [some (.str L), some (.int c), some (.int (n : Int)), some (.str []), some (.int (c % 2147483629)), none] = .ok (.lst (rangeD 0 (n : Int))) := by simp [hr]
    rw [h1, out_ok, items_l, omO_some, range_eq, e3]
  simp only [F__law_long_text, run, b__law_long_text]
  simp [hf]
end Lw

set_option maxRecDepth 100000
set_option autoImplicit false
set_option linter.all false
namespace Lw
open E
/-! ### letters -/
abbrev alpha : List Nat := [97, 98, 99, 100, 101, 102, 103, 104, 105, 106, 107, 108, 109, 110, 111, 112, 113, 114, 115, 116, 117, 118, 119, 120, 121, 122]
structure GoodL (L : List Nat) : Prop where
  l1 : 1 ≤ L.length
  l3 : L.length ≤ 3
  asc : L.Pairwise (· < ·)
  az : ∀ c ∈ L, 97 ≤ c ∧ c < 123
theorem alpha_get : ∀ k < 26, alpha[k]? = some (97 + k) := by decide
theorem alpha_find : ∀ k < 26, findC (97 + k) alpha = some k := by decide
theorem letters_ok (r0 r1 r2 r3 : Nat) (h1 : r1 < 8) (h2 : r2 < 8) (h3 : r3 < 8) : ∃ L, GoodL L ∧ F__law_letters [.lst [.int (r0 : Int), .int (r1 : Int), .int (r2 : Int), .int (r3 : Int)]] = .ok (.str L) := by
  have g0 : dIdx (.lst [.int (r0 : Int), .int (r1 : Int), .int (r2 : Int), .int (r3 : Int)]) (.int 0) = .ok (.int (r0 : Int)) := rfl
  have g1 : dIdx (.lst [.int (r0 : Int), .int (r1 : Int), .int (r2 : Int), .int (r3 : Int)]) (.int 1) = .ok (.int (r1 : Int)) := rfl
  have g2 : dIdx (.lst [.int (r0 : Int), .int (r1 : Int), .int (r2 : Int), .int (r3 : Int)]) (.int 2) = .ok (.int (r2 : Int)) := rfl
  have g3 : dIdx (.lst [.int (r0 : Int), .int (r1 : Int), .int (r2 : Int), .int (r3 : Int)]) (.int 3) = .ok (.int (r3 : Int)) := rfl
  have e2 : (r1 : Int) + 1 + (r2 : Int) = ((r1 + 1 + r2 : Nat) : Int) := by omega
  have e3 : ((r1 + 1 + r2 : Nat) : Int) + 1 + (r3 : Int) = ((r1 + 1 + r2 + 1 + r3 : Nat) : Int) := by omega
  have i1 := idx_s alpha (lim_le (by decide)) r1 _ (alpha_get r1 (by omega))
  have i2 := idx_s alpha (lim_le (by decide)) (r1 + 1 + r2) _ (alpha_get _ (by omega))
  have i3 := idx_s alpha (lim_le (by decide)) (r1 + 1 + r2 + 1 + r3) _ (alpha_get _ (by omega))
  have a1 : dAdd (.str [97 + r1]) (.str [97 + (r1 + 1 + r2)]) = .ok (.str ([97 + r1] ++ [97 + (r1 + 1 + r2)])) := addS (by simp)
  have a2 : dAdd (.str ([97 + r1] ++ [97 + (r1 + 1 + r2)])) (.str [97 + (r1 + 1 + r2 + 1 + r3)]) = .ok (.str ([97 + r1] ++ [97 + (r1 + 1 + r2)] ++ [97 + (r1 + 1 + r2 + 1 + r3)])) := addS (by simp)
  simp only [F__law_letters, run, b__law_letters]
  by_cases q0 : r0 = 0
  · subst q0
    refine ⟨[97 + r1], ⟨by simp, by simp, by simp, by simp; omega⟩, ?_⟩
    simp only [Int.natCast_zero] at g0 g1 g2 g3 ⊢
    generalize D.lst [.int 0, .int (r1 : Int), .int (r2 : Int), .int (r3 : Int)] = rw at g0 g1 g2 g3
    generalize (r1 + 1 + r2 + 1 + r3 : Nat) = s3 at e3
    generalize (r1 + 1 + r2 : Nat) = s2 at e2 e3
    simp [g0, g1, g2, g3, e2, e3, i1]
  · by_cases q1 : r0 = 1
    · subst q1
      refine ⟨[97 + r1] ++ [97 + (r1 + 1 + r2)] ++ [97 + (r1 + 1 + r2 + 1 + r3)], ⟨by simp, by simp, by simp; omega, by simp; omega⟩, ?_⟩
      simp only [Int.natCast_one] at g0 g1 g2 g3 ⊢
      generalize D.lst [.int 1, .int (r1 : Int), .int (r2 : Int), .int (r3 : Int)] = rw at g0 g1 g2 g3
      generalize [97 + r1] ++ [97 + (r1 + 1 + r2)] ++ [97 + (r1 + 1 + r2 + 1 + r3)] = t3 at a2
      generalize [97 + r1] ++ [97 + (r1 + 1 + r2)] = t2 at a1 a2
      generalize 97 + (r1 + 1 + r2 + 1 + r3) = c3 at i3 a2
      generalize 97 + (r1 + 1 + r2) = c2 at i2 a1
      generalize 97 + r1 = c1 at i1 a1
      generalize (r1 + 1 + r2 + 1 + r3 : Nat) = s3 at e3 i3
      generalize (r1 + 1 + r2 : Nat) = s2 at e2 e3 i2
      simp [g0, g1, g2, g3, e2, e3, i1, i2, i3, a1, a2]
    · have n0 : ¬ (r0 : Int) = 0 := by omega
      have n1 : ¬ (r0 : Int) = 1 := by omega
      refine ⟨[97 + r1] ++ [97 + (r1 + 1 + r2)], ⟨by simp, by simp, by simp; omega, by simp; omega⟩, ?_⟩
      generalize D.lst [.int (r0 : Int), .int (r1 : Int), .int (r2 : Int), .int (r3 : Int)] = rw at g0 g1 g2 g3
      generalize [97 + r1] ++ [97 + (r1 + 1 + r2)] = t2 at a1
      generalize 97 + (r1 + 1 + r2) = c2 at i2 a1
      generalize 97 + r1 = c1 at i1 a1
      generalize (r1 + 1 + r2 + 1 + r3 : Nat) = s3 at e3
      generalize (r1 + 1 + r2 : Nat) = s2 at e2 e3 i2
      simp [g0, g1, g2, g3, e2, e3, i1, i2, a1, q0, n1]
theorem find_ok (c : Nat) (h : 97 ≤ c ∧ c < 123) : meth .find (.str alpha) [.str [c]] = .ok (.int (((c - 97 : Nat) : Int))) := by
  have e := alpha_find (c - 97) (by omega)
  rw [show 97 + (c - 97) = c by omega] at e
  show Res.ok (D.int (match findC c alpha with | some i => ((i : Nat) : Int) | none => -1)) = _
  rw [e]
theorem flat_ints {α : Type} (xs : List α) (h : α → Int) : (xs.map fun x => D.int (h x)).all flat = true := by
  rw [List.all_eq_true]
  intro d hd
  obtain ⟨x, _, rfl⟩ := List.mem_map.1 hd
  rfl
theorem plain_ints {α : Type} (xs : List α) (h : α → Int) : plain (.lst (xs.map fun x => D.int (h x))) 60 = true := by
  show plainL _ 59 = true
  rw [plainL_all, List.all_eq_true]
  intro d hd
  obtain ⟨x, _, rfl⟩ := List.mem_map.1 hd
  simp [plain]
theorem any_ints {α : Type} (xs : List α) (h : α → Int) (i : Int) : ((xs.map fun x => D.int (h x)).any fun y => eqv y (.int i)) = xs.any fun x => h x == i := by
  induction xs with
  | nil => rfl
  | cons x xs ih =>
    simp only [List.map_cons, List.any_cons, ih]
    simp [eqv]
theorem Pch : P_check_letters 2 = F_are_letters := by unfold P_check_letters; rfl
theorem are_ok {L : List Nat} (h : GoodL L) : F_are_letters [.str L] = .ok (.bl true) := by
  have h1 := h.l1
  have h3 := h.l3
  have p1 : ev P_are_letters sub fo_are_letters_1 [some (.str L), none, none] = .ok (.lst (L.map fun c => D.int ((c - 97 : Nat) : Int))) :=
    lcm_ok _ _ _ _ _ _ _ (.str L) L (fun c => D.str [c]) _ (by simp) (by simp) (by omega) fun c hc => ⟨_, rfl, by
      have := find_ok c (h.az c hc)
      simp [isStr_s]
      exact this⟩
  have is : intsD (L.map fun c => D.int ((c - 97 : Nat) : Int)) = some (L.map fun c => ((c - 97 : Nat) : Int)) := ints_map _ L
  have p2 : (L.map fun c => ((c - 97 : Nat) : Int)) = sortI (dedup (L.map fun c => ((c - 97 : Nat) : Int))) := sset_uniq (by
    rw [List.pairwise_map]
    refine h.asc.imp_of_mem fun {a b} ha hb hab => ?_
    have := h.az a ha
    have := h.az b hb
    omega) fun k => Iff.rfl
  have p3 : biF .sset [.lst (L.map fun c => D.int ((c - 97 : Nat) : Int))] = .ok (.lst (L.map fun c => D.int ((c - 97 : Nat) : Int))) := by
    show om (intsD _) (fun is => if is.length < 63 then Res.ok (D.lst ((sortI (dedup is)).map D.int)) else .bad) = _
    rw [is, om_some, if_pos (by simp; omega), ← p2, List.map_map]
    rfl
  have p4 : inD (.int (-1)) (.lst (L.map fun c => D.int ((c - 97 : Nat) : Int))) = .ok false := by
    show (if flat (.int (-1)) ∧ _ then Res.ok _ else _) = _
    rw [if_pos ⟨rfl, flat_ints L _⟩, any_ints]
    congr 1
    rw [List.any_eq_false]
    intro c _
    simp
  have p5 := eq_refl _ (plain_ints L fun c => ((c - 97 : Nat) : Int))
  have p6 := len_s' (s := L) (by omega)
  have p7 : (1 : Int) ≤ (L.length : Int) := by omega
  have p8 : (L.length : Int) ≤ 3 := by omega
  generalize (L.map fun c => D.int ((c - 97 : Nat) : Int)) = pl at p1 p3 p4 p5
  simp only [F_are_letters, run, b_are_letters]
  simp [p1, p3, p4, p5, p6, chnF, p7, p8]
theorem chk_letters {L : List Nat} (h : GoodL L) : F_check_letters [.str L] = .ok .non := by
  have := are_ok h
  simp only [F_check_letters, run, b_check_letters]
  simp [Pch, this]
end Lw

set_option maxRecDepth 100000
set_option autoImplicit false
set_option linter.all false
namespace Lw
open E
abbrev ID (r : List Nat) : D := .lst (r.map fun (n : Nat) => D.int (n : Int))
abbrev AD (arr : List (List Nat)) : D := .lst (arr.map ID)
structure GoodA (n len : Nat) (arr : List (List Nat)) (ys : List Nat) : Prop where
  row : ∀ r ∈ arr, r.length = len ∧ ∀ t ∈ r, t < n
  yes : ∀ y ∈ ys, y < n
theorem Pa11 : P__law_automaton 11 = F__law_cell := by unfold P__law_automaton; rfl
theorem Pa12 : P__law_automaton 12 = F__law_digits := by unfold P__law_automaton; rfl
theorem cut4 (rs : List Nat) (h : rs.length = 40) (i : Nat) (hi : i < 10) : ∃ p0 p1 p2 p3 : Nat, dSlc (ID rs) (.int (4 * (i : Int))) (.int (4 * (i : Int) + 4)) = .ok (ID [p0, p1, p2, p3]) := by
  have hl : ((rs.drop (4 * i)).take 4).length = 4 := by simp [h]; omega
  match hq : (rs.drop (4 * i)).take 4, hl with
  | [p0, p1, p2, p3], _ =>
    refine ⟨p0, p1, p2, p3, ?_⟩
    show (if (isPart (.int (4 * (i : Int))) && isPart (.int (4 * (i : Int) + 4))) = true then Res.ok (D.lst (cut (rs.map fun (n : Nat) => D.int (n : Int)) (.int (4 * (i : Int))) (.int (4 * (i : Int) + 4)))) else .bad) = _
    rw [if_pos (show (isPart (.int (4 * (i : Int))) && isPart (.int (4 * (i : Int) + 4))) = true from rfl)]
    have e1 : sx (rs.map fun (n : Nat) => D.int (n : Int)).length 0 (.int (4 * (i : Int))) = 4 * i := by
      simp only [sx, List.length_map, h]
      rw [if_neg (by omega)]
      omega
    have e2 : sx (rs.map fun (n : Nat) => D.int (n : Int)).length (rs.map fun (n : Nat) => D.int (n : Int)).length (.int (4 * (i : Int) + 4)) = 4 * i + 4 := by
      simp only [sx, List.length_map, h]
      rw [if_neg (by omega)]
      omega
    unfold cut
    rw [e1, e2, show 4 * i + 4 - 4 * i = 4 by omega, ← List.map_drop, ← List.map_take, hq]
def rowOf (P : List Nat) (many len : Nat) : List Nat := (List.range' 0 len).map fun k => P.getD k 0 % many
abbrev aEnv (s at_ : D) (L : List Nat) (sh : D) (many : Nat) (row : D) (arr : List (List Nat)) (ys : List Nat) (x8 x9 x10 x11 : Option D) : Env := [some s, some at_, some (.str L), some sh, some (.int (many : Int)), some row, some (AD arr), some (ID ys), x8, x9, x10, x11]
theorem put_at (l : List D) (x y : D) : putL (l ++ [x]) (l.length : Int) y = some (l ++ [y]) := by
  unfold putL ixOf
  rw [if_pos (by omega), if_pos (by simp; omega)]
  simp
theorem evS_put' (Φ : Nat → List D → Res D) (sb : Nat → Nat → Option Bool) (n i : Nat) (a b : C) (e : Env) (y : D) (l l2 : List D) (k : Int) (h1 : ev Φ sb b e = .ok y) (h2 : look i e = .ok (.lst l)) (h3 : ev Φ sb a e = .ok (.int k)) (h4 : putL l k y = some l2) :
    evS Φ sb n (.put i a b) e = .nx (e.set i (some (.lst l2))) := by
  rw [evS, h1, out_ok, h2, out_ok, h3, out_ok]
  show omO (putL l k y) _ = _
  rw [h4, omO_some]
theorem a_step (s at_ sh : D) (L : List Nat) (hL : GoodL L) (many : Nat) (hm : 1 ≤ many) (hm2 : many ≤ 10) (rs : List Nat) (hrs : rs.length = 40) (s1 s2 : Nat) (h1 : dIdx sh (.int 1) = .ok (.int (s1 : Int))) (h2 : dIdx sh (.int 2) = .ok (.int (s2 : Int))) (i : Nat) (hi : i < many)
    (arr : List (List Nat)) (ys : List Nat) (ha : arr.length = i) (hg : GoodA many L.length arr ys) (hy : ys.length ≤ i) (x8 x9 x10 x11 : Option D) :
    ∃ row' ys' y9, GoodA many L.length (arr ++ [row']) ys' ∧ ys'.length ≤ i + 1 ∧ (fun d e => omO (asg [8] true d e) (evS P__law_automaton sub FUEL lb__law_automaton_1)) (.int (i : Int)) (aEnv s at_ L sh many (ID rs) arr ys x8 x9 x10 x11) =
      .nx (aEnv s at_ L sh many (ID rs) (arr ++ [row']) ys' (some (.int (i : Int))) y9 x10 x11) := by
  obtain ⟨p0, p1, p2, p3, hcut⟩ := cut4 rs hrs i (by omega)
  have hlen := len_s' (s := L) (by have := hL.l3; omega)
  have m4 : dMul (.int 4) (.int (i : Int)) = .ok (.int (4 * (i : Int))) := mulI (by omega) (by omega) (by omega) (by omega)
  have hr2 : ev P__law_automaton sub fo__law_automaton_2 (aEnv s at_ L sh many (ID rs) arr ys (some (.int (i : Int))) (some (ID [p0, p1, p2, p3])) x10 x11) = .ok (ID (rowOf [p0, p1, p2, p3] many L.length)) := by
    have := lcm_ok P__law_automaton sub [10] true (.bi .rng1 (.cons (.bi .len (.cons (.var 2) .nil)) .nil)) (.op .mod (.idx (.var 9) (.var 10)) (.var 4)) (aEnv s at_ L sh many (ID rs) arr ys (some (.int (i : Int))) (some (ID [p0, p1, p2, p3])) x10 x11)
      (.lst ((List.range' 0 L.length).map fun (k : Nat) => D.int (k : Int))) (List.range' 0 L.length) (fun (k : Nat) => D.int (k : Int)) (fun (k : Nat) => D.int (([p0, p1, p2, p3].getD k 0 % many : Nat) : Int)) (by
        have := rng_n L.length (by have := hL.l3; omega)
        generalize ((List.range' 0 L.length).map fun (k : Nat) => D.int (k : Int)) = rr at this
        generalize L.length = ll at hlen this
        simp [hlen, this]) rfl (by have := hL.l3; simp; omega) fun k hk => ⟨_, rfl, by
        have hk' : k < 4 := by have := hL.l3; simp at hk; omega
        have hget : [p0, p1, p2, p3][k]? = some ([p0, p1, p2, p3].getD k 0) := by
          rcases k with _ | _ | _ | _ | k <;> first | rfl | omega
        have hix : dIdx (ID [p0, p1, p2, p3]) (.int (k : Int)) = .ok (.int (([p0, p1, p2, p3].getD k 0 : Nat) : Int)) := idx_l _ _ _ (by rw [List.getElem?_map, hget]; rfl)
        generalize [p0, p1, p2, p3].getD k 0 = v at hix ⊢
        have hmod : (v : Int) % (many : Int) = ((v % many : Nat) : Int) := by omega
        have hmp : (0 : Int) < (many : Int) := by omega
        generalize ID [p0, p1, p2, p3] = pd at hix ⊢
        simp only [ev_op, ev_idx, ev_var]
        simp [hix, hmp]
        omega⟩
    rw [this]
    simp [rowOf, ID, List.map_map, Function.comp_def]
  have hr3 : ∀ z9, ev P__law_automaton sub fo__law_automaton_3 (aEnv s at_ L sh many (ID rs) (arr ++ [rowOf [p0, p1, p2, p3] many L.length]) ys (some (.int (i : Int))) z9 x10 x11) = .ok (ID (L.map fun _ => i)) := fun z9 => by
    have := lcm_ok P__law_automaton sub [11] true (.var 2) (.var 8) (aEnv s at_ L sh many (ID rs) (arr ++ [rowOf [p0, p1, p2, p3] many L.length]) ys (some (.int (i : Int))) z9 x10 x11) (.str L) L (fun c => D.str [c]) (fun _ => D.int (i : Int)) (by simp) (by simp) (by have := hL.l3; omega) fun c hc => ⟨_, rfl, by simp⟩
    rw [this]
    simp [ID, List.map_map, Function.comp_def]
  have q0 : dIdx (ID [p0, p1, p2, p3]) (.int 0) = .ok (.int (p0 : Int)) := rfl
  have q3 : dIdx (ID [p0, p1, p2, p3]) (.int 3) = .ok (.int (p3 : Int)) := rfl
  have rg : (rowOf [p0, p1, p2, p3] many L.length).length = L.length ∧ ∀ t ∈ rowOf [p0, p1, p2, p3] many L.length, t < many := by
    refine ⟨by simp [rowOf], fun t ht => ?_⟩
    unfold rowOf at ht
    obtain ⟨k, _, rfl⟩ := List.mem_map.1 ht
    exact Nat.mod_lt _ hm
  have cg : (L.map fun _ => i).length = L.length ∧ ∀ t ∈ L.map fun _ => i, t < many := by
    refine ⟨by simp, fun t ht => ?_⟩
    obtain ⟨_, _, rfl⟩ := List.mem_map.1 ht
    exact hi
  generalize rowOf [p0, p1, p2, p3] many L.length = R at hr2 hr3 rg
  have mu1 : muF .append 6 (evL P__law_automaton sub (.cons fo__law_automaton_2 .nil)) (aEnv s at_ L sh many (ID rs) arr ys (some (.int (i : Int))) (some (ID [p0, p1, p2, p3])) x10 x11) = .nx (aEnv s at_ L sh many (ID rs) (arr ++ [R]) ys (some (.int (i : Int))) (some (ID [p0, p1, p2, p3])) x10 x11) := by
    rw [mu_app (l := arr.map ID) (d := ID R) rfl (by rw [evL_cons, hr2]; simp) (lim_lt (by simp; omega))]
    simp
  generalize hP : ID [p0, p1, p2, p3] = pd at hcut hr2 mu1 q0 q3
  have put3 : evS P__law_automaton sub FUEL (.put 6 (.var 8) fo__law_automaton_3) (aEnv s at_ L sh many (ID rs) (arr ++ [R]) ys (some (.int (i : Int))) (some pd) x10 x11) = .nx (aEnv s at_ L sh many (ID rs) (arr ++ [L.map fun _ => i]) ys (some (.int (i : Int))) (some pd) x10 x11) := by
    rw [evS_put' _ _ _ _ _ _ _ (ID (L.map fun _ => i)) ((arr ++ [R]).map ID) ((arr ++ [L.map fun _ => i]).map ID) (i : Int) (hr3 _) rfl (by simp) (by
      have := put_at (arr.map ID) (ID R) (ID (L.map fun _ => i))
      rw [List.length_map, ha] at this
      rw [List.map_append, List.map_append]
      exact this)]
    rfl
  have fin2 : ∀ row', row'.length = L.length ∧ (∀ t ∈ row', t < many) → ∃ ys', GoodA many L.length (arr ++ [row']) ys' ∧ ys'.length ≤ i + 1 ∧
      evS P__law_automaton sub FUEL (.if_ (.op .eq (.op .mod (.op .add (.var 8) (.op .fdiv (.idx (.var 9) (.int 0)) (.int 7))) (.int 2)) (.bi .int (.cons (.op .eq (.idx (.var 3) (.int 2)) (.int 0)) .nil))) (.seq (.mu .append 7 (.cons (.var 8) .nil)) .skip) .skip) (aEnv s at_ L sh many (ID rs) (arr ++ [row']) ys (some (.int (i : Int))) (some pd) x10 x11) =
        .nx (aEnv s at_ L sh many (ID rs) (arr ++ [row']) ys' (some (.int (i : Int))) (some pd) x10 x11) := fun row' hr => by
    have b7 : (7 : Nat) < BIG := nat_big (by omega)
    have mu2 : muF .append 7 (evL P__law_automaton sub (.cons (.var 8) .nil)) (aEnv s at_ L sh many (ID rs) (arr ++ [row']) ys (some (.int (i : Int))) (some pd) x10 x11) = .nx (aEnv s at_ L sh many (ID rs) (arr ++ [row']) (ys ++ [i]) (some (.int (i : Int))) (some pd) x10 x11) := by
      rw [mu_app (l := ys.map fun (n : Nat) => D.int (n : Int)) (d := .int (i : Int)) rfl (by simp) (lim_lt (by simp; omega))]
      simp
    have hrow : ∀ r ∈ arr ++ [row'], r.length = L.length ∧ ∀ t ∈ r, t < many := fun r hr2 => by
      rcases List.mem_append.1 hr2 with z | z
      · exact hg.row r z
      · rw [List.mem_singleton.1 z]; exact hr
    generalize hB : (((i : Int) + (p0 : Int) / 7) % 2 == (if ((s2 : Int) == 0) = true then 1 else 0)) = B
    cases B with
    | true =>
      refine ⟨ys ++ [i], ⟨hrow, fun y hy2 => ?_⟩, by simp; omega, ?_⟩
      · rcases List.mem_append.1 hy2 with z | z
        · exact hg.yes y z
        · rw [List.mem_singleton.1 z]; exact hi
      · rw [evS_if]
        have : ev P__law_automaton sub (.op .eq (.op .mod (.op .add (.var 8) (.op .fdiv (.idx (.var 9) (.int 0)) (.int 7))) (.int 2)) (.bi .int (.cons (.op .eq (.idx (.var 3) (.int 2)) (.int 0)) .nil))) (aEnv s at_ L sh many (ID rs) (arr ++ [row']) ys (some (.int (i : Int))) (some pd) x10 x11) = .ok (.bl true) := by
          simp [q0, h2, b7]
          simpa using hB
        rw [this, bd_ok, truth_bl, out_ok, if_pos rfl, evS_seq, evS_mu, mu2, bindO_nx, evS_skip]
    | false =>
      refine ⟨ys, ⟨hrow, hg.yes⟩, by omega, ?_⟩
      rw [evS_if]
      have : ev P__law_automaton sub (.op .eq (.op .mod (.op .add (.var 8) (.op .fdiv (.idx (.var 9) (.int 0)) (.int 7))) (.int 2)) (.bi .int (.cons (.op .eq (.idx (.var 3) (.int 2)) (.int 0)) .nil))) (aEnv s at_ L sh many (ID rs) (arr ++ [row']) ys (some (.int (i : Int))) (some pd) x10 x11) = .ok (.bl false) := by
        simp [q0, h2, b7]
        simpa using hB
      rw [this, bd_ok, truth_bl, out_ok, if_neg (by simp), evS_skip]
  have cond : ∃ b, ev P__law_automaton sub (.and (.op .eq (.idx (.var 9) (.int 3)) (.int 0)) (.and (.op .gt (.idx (.var 3) (.int 1)) (.int 0)) (.one (.op .gt (.var 8) (.int 0))))) (aEnv s at_ L sh many (ID rs) (arr ++ [R]) ys (some (.int (i : Int))) (some pd) x10 x11) = .ok (.bl b) := by
    by_cases z1 : p3 = 0
    · by_cases z2 : 0 < s1
      · exact ⟨_, by simp [q3, h1, z1, z2]; rfl⟩
      · exact ⟨false, by simp [q3, h1, z1, z2]⟩
    · exact ⟨false, by simp [q3, z1]⟩
  obtain ⟨b, hb⟩ := cond
  have hcut' : ev P__law_automaton sub (.slc (.var 5) (.op .mul (.int 4) (.var 8)) (.op .add (.op .mul (.int 4) (.var 8)) (.int 4))) (aEnv s at_ L sh many (ID rs) arr ys (some (.int (i : Int))) x9 x10 x11) = .ok pd := by
    generalize ID rs = rd at hcut ⊢
    simp [m4, prt, isPart, hcut]
  cases b with
  | true =>
    obtain ⟨ys', f1, f2, f3⟩ := fin2 (L.map fun _ => i) cg
    refine ⟨L.map fun _ => i, ys', some pd, f1, f2, ?_⟩
    show omO (asg [8] true _ _) _ = _
    rw [asg1, omO_some, evS_seq, evS_asg]
    rw [show (List.set (aEnv s at_ L sh many (ID rs) arr ys x8 x9 x10 x11) 8 (some (D.int (i : Int)))) = aEnv s at_ L sh many (ID rs) arr ys (some (.int (i : Int))) x9 x10 x11 from rfl, hcut', out_ok, asg1, omO_some, bindO_nx, evS_seq, evS_mu]
    rw [show (List.set (aEnv s at_ L sh many (ID rs) arr ys (some (.int (i : Int))) x9 x10 x11) 9 (some pd)) = aEnv s at_ L sh many (ID rs) arr ys (some (.int (i : Int))) (some pd) x10 x11 from rfl, mu1, bindO_nx, evS_seq, evS_if, hb, bd_ok, truth_bl, out_ok, if_pos rfl, evS_seq, put3, bindO_nx, evS_skip, bindO_nx, evS_seq, f3, bindO_nx, evS_skip]
  | false =>
    obtain ⟨ys', f1, f2, f3⟩ := fin2 R rg
    refine ⟨R, ys', some pd, f1, f2, ?_⟩
    show omO (asg [8] true _ _) _ = _
    rw [asg1, omO_some, evS_seq, evS_asg]
    rw [show (List.set (aEnv s at_ L sh many (ID rs) arr ys x8 x9 x10 x11) 8 (some (D.int (i : Int)))) = aEnv s at_ L sh many (ID rs) arr ys (some (.int (i : Int))) x9 x10 x11 from rfl, hcut', out_ok, asg1, omO_some, bindO_nx, evS_seq, evS_mu]
    rw [show (List.set (aEnv s at_ L sh many (ID rs) arr ys (some (.int (i : Int))) x9 x10 x11) 9 (some pd)) = aEnv s at_ L sh many (ID rs) arr ys (some (.int (i : Int))) (some pd) x10 x11 from rfl, mu1, bindO_nx, evS_seq, evS_if, hb, bd_ok, truth_bl, out_ok, if_neg (by simp), evS_skip, bindO_nx, evS_seq, f3, bindO_nx, evS_skip]
end Lw

set_option maxRecDepth 100000
set_option autoImplicit false
set_option linter.all false
namespace Lw
open E
theorem a_loop (s at_ sh : D) (L : List Nat) (hL : GoodL L) (many : Nat) (hm : 1 ≤ many) (hm2 : many ≤ 10) (rs : List Nat) (hrs : rs.length = 40) (s1 s2 : Nat) (h1 : dIdx sh (.int 1) = .ok (.int (s1 : Int))) (h2 : dIdx sh (.int 2) = .ok (.int (s2 : Int))) : ∀ (m i : Nat), i + m = many →
    ∀ (arr : List (List Nat)) (ys : List Nat), arr.length = i → GoodA many L.length arr ys → ys.length ≤ i → ∀ x8 x9 x10 x11,
    ∃ arr' ys' y8 y9, arr'.length = many ∧ GoodA many L.length arr' ys' ∧ ys'.length ≤ many ∧ forL (fun d e => omO (asg [8] true d e) (evS P__law_automaton sub FUEL lb__law_automaton_1)) ((List.range' i m).map fun (k : Nat) => D.int (k : Int)) (aEnv s at_ L sh many (ID rs) arr ys x8 x9 x10 x11) = .nx (aEnv s at_ L sh many (ID rs) arr' ys' y8 y9 x10 x11)
  | 0, i, hi, arr, ys, ha, hg, hy, x8, x9, x10, x11 => ⟨arr, ys, x8, x9, by omega, hg, by omega, rfl⟩
  | m + 1, i, hi, arr, ys, ha, hg, hy, x8, x9, x10, x11 => by
    obtain ⟨row', ys', y9, g1, g2, g3⟩ := a_step s at_ sh L hL many hm hm2 rs hrs s1 s2 h1 h2 i (by omega) arr ys ha hg hy x8 x9 x10 x11
    obtain ⟨arr2, ys2, z8, z9, q1, q2, q3, q4⟩ := a_loop s at_ sh L hL many hm hm2 rs hrs s1 s2 h1 h2 m (i + 1) (by omega) (arr ++ [row']) ys' (by simp [ha]) g1 g2 (some (.int (i : Int))) y9 x10 x11
    refine ⟨arr2, ys2, z8, z9, q1, q2, q3, ?_⟩
    rw [List.range'_succ, List.map_cons, forL_nx g3, q4]
theorem Bd_nats : ∀ {ds ss : List Int}, Bd ds ss → ∃ rs : List Nat, rs.length = ss.length ∧ .lst (ds.map D.int) = ID rs
  | [], [], _ => ⟨[], rfl, rfl⟩
  | [], _ :: _, h => h.elim
  | _ :: _, [], h => h.elim
  | d :: ds, s :: ss, h => by
    obtain ⟨rs, h1, h2⟩ := Bd_nats h.2
    obtain ⟨n, rfl⟩ := Int.eq_ofNat_of_zero_le h.1.1
    refine ⟨n :: rs, by simp [h1], ?_⟩
    injection h2 with h2
    rw [List.map_cons, h2]
    rfl
theorem many_ok (n : Nat) (h : n < 9) : ∃ m : Nat, 1 ≤ m ∧ m ≤ 10 ∧ dIdx (.lst [.int 3, .int 4, .int 2, .int 5, .int 6, .int 8, .int 1, .int 10, .int 4]) (.int (n : Int)) = .ok (.int (m : Int)) := by
  have : n = 0 ∨ n = 1 ∨ n = 2 ∨ n = 3 ∨ n = 4 ∨ n = 5 ∨ n = 6 ∨ n = 7 ∨ n = 8 := by omega
  rcases this with rfl | rfl | rfl | rfl | rfl | rfl | rfl | rfl | rfl
  · exact ⟨3, by omega, by omega, rfl⟩
  · exact ⟨4, by omega, by omega, rfl⟩
  · exact ⟨2, by omega, by omega, rfl⟩
  · exact ⟨5, by omega, by omega, rfl⟩
  · exact ⟨6, by omega, by omega, rfl⟩
  · exact ⟨8, by omega, by omega, rfl⟩
  · exact ⟨1, by omega, by omega, rfl⟩
  · exact ⟨10, by omega, by omega, rfl⟩
  · exact ⟨4, by omega, by omega, rfl⟩
theorem auto_ok (ns : List Int) (hns : ns.length ≤ 63) (k : Nat) (hk : k ≤ 100) (L : List Nat) (hL : GoodL L) : ∃ arr ys, 1 ≤ arr.length ∧ arr.length ≤ 10 ∧ GoodA arr.length L.length arr ys ∧ ys.length ≤ 10 ∧
    F__law_automaton [.scr ns, .int (k : Int), .str L] = .ok (.lst [AD arr, ID ys]) := by
  obtain ⟨v1, _, c1⟩ := cell_ok ns hns k (by omega)
  obtain ⟨v2, _, c2⟩ := cell_ok ns hns (k + 1) (by omega)
  obtain ⟨ds, b1, d1⟩ := digits_ok v1 [9, 4, 3] (by simp) (by simp)
  obtain ⟨ds2, b2, d2⟩ := digits_ok v2 (List.replicate 10 [60, 60, 60, 5]).flatten (by
    intro s hs
    rw [List.mem_flatten] at hs
    obtain ⟨l, h1, h2⟩ := hs
    rw [List.eq_of_mem_replicate h1] at h2
    simp at h2
    omega) (by simp)
  obtain ⟨rs, hrs, hd2⟩ := Bd_nats b2
  rw [hd2] at d2
  have hrs : rs.length = 40 := by rw [hrs]; simp
  match ds, b1 with
  | [a0, a1, a2], ⟨h0, h1, h2, _⟩ =>
  obtain ⟨n0, rfl⟩ := Int.eq_ofNat_of_zero_le h0.1
  obtain ⟨n1, rfl⟩ := Int.eq_ofNat_of_zero_le h1.1
  obtain ⟨n2, rfl⟩ := Int.eq_ofNat_of_zero_le h2.1
  obtain ⟨many, m1, m2, m3⟩ := many_ok n0 (by omega)
  have g0 : dIdx (.lst [.int (n0 : Int), .int (n1 : Int), .int (n2 : Int)]) (.int 0) = .ok (.int (n0 : Int)) := rfl
  have g1 : dIdx (.lst [.int (n0 : Int), .int (n1 : Int), .int (n2 : Int)]) (.int 1) = .ok (.int (n1 : Int)) := rfl
  have g2 : dIdx (.lst [.int (n0 : Int), .int (n1 : Int), .int (n2 : Int)]) (.int 2) = .ok (.int (n2 : Int)) := rfl
  have d1' : F__law_digits [.int v1, .lst [.int 9, .int 4, .int 3]] = .ok (.lst [.int (n0 : Int), .int (n1 : Int), .int (n2 : Int)]) := d1
  generalize hsh : D.lst [.int (n0 : Int), .int (n1 : Int), .int (n2 : Int)] = sh at g0 g1 g2 d1'
  obtain ⟨arr, ys, y8, y9, q1, q2, q3, q4⟩ := a_loop (.scr ns) (.int (k : Int)) sh L hL many m1 m2 rs hrs n1 n2 g1 g2 many 0 (by omega) [] [] rfl ⟨by simp, by simp⟩ (by simp) none none none none
  refine ⟨arr, ys, by omega, by omega, by rw [q1]; exact q2, by omega, ?_⟩
  have hf : evS P__law_automaton sub FUEL fo__law_automaton_1 [some (.scr ns), some (.int (k : Int)), some (.str L), some sh, some (.int (many : Int)), some (ID rs), some (.lst []), some (.lst []), none, none, none, none] = .nx (aEnv (.scr ns) (.int (k : Int)) L sh many (ID rs) arr ys y8 y9 none none) := by
    rw [evS_for]
    have hr := rng_n many (by omega)
    have h1 : ev P__law_automaton sub (.bi .rng1 (.cons (.var 4) .nil)) [some (.scr ns), some (.int (k : Int)), some (.str L), some sh, some (.int (many : Int)), some (ID rs), some (.lst []), some (.lst []), none, none, none, none] = .ok (.lst ((List.range' 0 many).map fun (k : Nat) => D.int (k : Int))) := by
      generalize (List.range' 0 many).map (fun (k : Nat) => D.int (k : Int)) = rr at hr
      simp [hr]
    rw [h1, out_ok, items_l, omO_some]
    exact q4
  have e1 : (k : Int) + 1 = ((k + 1 : Nat) : Int) := by omega
  have hmul : dMul (.lst [.int 60, .int 60, .int 60, .int 5]) (.int 10) = .ok (.lst ((List.replicate 10 [60, 60, 60, 5]).flatten.map D.int)) := by
    show (if (10 : Int) < 4611686018427387904 ∧ -4611686018427387904 < (10 : Int) ∧ [D.int 60, .int 60, .int 60, .int 5].length * (10 : Int).toNat ≤ LIM then Res.ok (D.lst (List.replicate (10 : Int).toNat [D.int 60, .int 60, .int 60, .int 5]).flatten) else .bad) = _
    rw [if_pos ⟨by omega, by omega, lim_le (by simp)⟩]
    rfl
  generalize (List.replicate 10 [60, 60, 60, 5]).flatten.map D.int = big at d2 hmul
  simp only [F__law_automaton, run, b__law_automaton]
  generalize fo__law_automaton_1 = f1 at hf
  generalize ID rs = pr at d2 hf
  generalize ((k + 1 : Nat) : Int) = k1 at e1 c2
  simp only [aEnv] at hf
  generalize AD arr = da at hf ⊢
  generalize ID ys = dy at hf ⊢
  simp [Pa11, Pa12, c1, c2, d1', d2, e1, g0, m3, hmul, hf, lim_le]
end Lw

set_option maxRecDepth 100000
set_option autoImplicit false
set_option linter.all false
namespace Lw
open E
abbrev TD (r : List Nat) : D := .tup (r.map fun (n : Nat) => D.int (n : Int))
abbrev AT (arr : List (List Nat)) : D := .tup (arr.map TD)
abbrev ySrt (ys : List Nat) : List Int := sortI (dedup (ys.map fun (n : Nat) => (n : Int)))
abbrev YT (ys : List Nat) : D := .tup ((ySrt ys).map D.int)
abbrev AU (L : List Nat) (arr : List (List Nat)) (ys : List Nat) : D := .ins 4 [.str L, AT arr, YT ys]
theorem Pf4 : P_frozen_4 0 = F_frozen_3 := by unfold P_frozen_4; rfl
theorem Pf5 : P_frozen_5 0 = F_frozen_4 := by unfold P_frozen_5; rfl
theorem fz_3i (i : Int) : F_frozen_3 [.int i] = .ok (.int i) := rfl
theorem fz_4i (i : Int) : F_frozen_4 [.int i] = .ok (.int i) := rfl
theorem fz_row4 (r : List Nat) (h : r.length ≤ 1000) : F_frozen_4 [ID r] = .ok (TD r) := by
  have h1 : ev P_frozen_4 sub fo_frozen_1 [some (ID r), none] = .ok (ID r) :=
    lcm_ok _ _ _ _ _ _ _ (ID r) r (fun (n : Nat) => D.int (n : Int)) _ (by simp) (by simp) (by omega) fun k _ => ⟨_, rfl, by
      have := fz_3i (k : Int)
      simp only [ev_call, evL_cons, evL_nil]
      simp [Pf4, this]⟩
  simp only [F_frozen_4, run, b_frozen]
  generalize fo_frozen_1 = f1 at h1
  simp [kdOk, isKd, h1, biF]
theorem fz_row5 (r : List Nat) (h : r.length ≤ 1000) : F_frozen [ID r] = .ok (TD r) := by
  have h1 : ev P_frozen_5 sub fo_frozen_1 [some (ID r), none] = .ok (ID r) :=
    lcm_ok _ _ _ _ _ _ _ (ID r) r (fun (n : Nat) => D.int (n : Int)) _ (by simp) (by simp) (by omega) fun k _ => ⟨_, rfl, by
      have := fz_4i (k : Int)
      simp only [ev_call, evL_cons, evL_nil]
      simp [Pf5, this]⟩
  show F_frozen_5 _ = _
  simp only [F_frozen_5, run, b_frozen]
  generalize fo_frozen_1 = f1 at h1
  simp [kdOk, isKd, h1, biF]
theorem fz_rows (arr : List (List Nat)) (h : arr.length ≤ 1000) (h2 : ∀ r ∈ arr, r.length ≤ 1000) : F_frozen [AD arr] = .ok (AT arr) := by
  have h1 : ev P_frozen_5 sub fo_frozen_1 [some (AD arr), none] = .ok (.lst (arr.map TD)) :=
    lcm_ok _ _ _ _ _ _ _ (AD arr) arr ID TD (by simp) (by simp) (by omega) fun r hr => ⟨_, rfl, by
      have := fz_row4 r (h2 r hr)
      simp only [ev_call, evL_cons, evL_nil]
      simp [Pf5, this]⟩
  show F_frozen_5 _ = _
  simp only [F_frozen_5, run, b_frozen]
  generalize fo_frozen_1 = f1 at h1
  simp [kdOk, isKd, h1, biF]
theorem Pn1 : P_is_number_below 1 = F_is_whole := by unfold P_is_number_below; rfl
theorem Pr5 : P_is_arrow_row 5 = F_is_number_below := by unfold P_is_arrow_row; rfl
theorem whole_i (i : Int) : F_is_whole [.int i] = .ok (.bl true) := rfl
theorem below_ok (t n : Nat) (h : t < n) : F_is_number_below [.int (t : Int), .int (n : Int)] = .ok (.bl true) := by
  simp only [F_is_number_below, run, b_is_number_below]
  simp [Pn1, whole_i, chnF]
  omega
theorem row_ok (r : List Nat) (len n : Nat) (h1 : r.length = len) (h3 : len ≤ 1000) (h2 : ∀ t ∈ r, t < n) : F_is_arrow_row [TD r, .int (len : Int), .int (n : Int)] = .ok (.bl true) := by
  have p1 : ev P_is_arrow_row sub fo_is_arrow_row_1 [some (TD r), some (.int (len : Int)), some (.int (n : Int)), none] = .ok (.lst (r.map fun _ => D.bl true)) :=
    lcm_ok _ _ _ _ _ _ _ (TD r) r (fun (n : Nat) => D.int (n : Int)) _ (by simp) (by simp) (by omega) fun t ht => ⟨_, rfl, by
      have := below_ok t n (h2 t ht)
      simp [Pr5, this]⟩
  have p2 : biF .all [.lst (r.map fun _ => D.bl true)] = .ok (.bl true) := by
    have : boolsD (r.map fun _ => D.bl true) = some (r.map fun _ => true) := by
      clear p1 h1 h2
      induction r with
      | nil => rfl
      | cons _ r ih => simp [boolsD, ih]
    show om (boolsD _) _ = _
    rw [this, om_some]
    simp
  have p3 : biF .len [TD r] = .ok (.int (len : Int)) := by simp [h1]
  have p4 : isKd (TD r) .tup = true := rfl
  have p5 : kdOk (TD r) = true := rfl
  generalize (.lst (r.map fun _ => D.bl true) : D) = bl at p1 p2
  generalize TD r = tr at p1 p3 p4 p5 ⊢
  simp only [F_is_arrow_row, run, b_is_arrow_row]
  generalize fo_is_arrow_row_1 = f1 at p1
  simp [p1, p2, p3, p4, p5]
theorem PA0 : P_Automaton 0 = F_frozen := by unfold P_Automaton; rfl
theorem PA3 : P_Automaton 3 = F_check_letters := by unfold P_Automaton; rfl
theorem PA5 : P_Automaton 5 = F_is_number_below := by unfold P_Automaton; rfl
theorem PA6 : P_Automaton 6 = F_is_arrow_row := by unfold P_Automaton; rfl
theorem ar_loop (L : List Nat) (hL : GoodL L) (x0 x2 x3 x5 : Option D) (A : D) (n : Nat) (hA : biF .len [A] = .ok (.int (n : Int))) : ∀ (t : List (List Nat)) (i : Int) (x6 x7 : Option D), (∀ r ∈ t, r.length = L.length ∧ ∀ k ∈ r, k < n) →
    ∃ y6 y7, forL (fun d e => omO (asg [6, 7] false d e) (evS P_Automaton sub FUEL lb_Automaton_1)) (enumD (t.map TD) i) [x0, some (.str L), x2, x3, some A, x5, x6, x7] = .nx [x0, some (.str L), x2, x3, some A, x5, y6, y7]
  | [], i, x6, x7, _ => ⟨x6, x7, by simp [enumD]⟩
  | c :: t, i, x6, x7, h => by
    obtain ⟨y6, y7, e⟩ := ar_loop L hL x0 x2 x3 x5 A n hA t (i + 1) (some (.int i)) (some (TD c)) (fun z hz => h z (List.mem_cons_of_mem _ hz))
    refine ⟨y6, y7, ?_⟩
    have hc := h c List.mem_cons_self
    have h3 := hL.l3
    have p1 := row_ok c L.length n hc.1 (by omega) hc.2
    have hlen := len_s' (s := L) (by omega)
    have step : (fun d e => omO (asg [6, 7] false d e) (evS P_Automaton sub FUEL lb_Automaton_1)) (.tup [.int i, TD c]) [x0, some (.str L), x2, x3, some A, x5, x6, x7] = .nx [x0, some (.str L), x2, x3, some A, x5, some (.int i), some (TD c)] := by
      generalize TD c = tc at p1 ⊢
      generalize L.length = ll at hlen p1
      simp [PA6, hlen, hA, p1]
    rw [List.map_cons, enumD, forL_nx step, e]
theorem auto_new (L : List Nat) (hL : GoodL L) (arr : List (List Nat)) (ys : List Nat) (h1 : 1 ≤ arr.length) (h2 : arr.length ≤ 10) (hg : GoodA arr.length L.length arr ys) (hy : ys.length ≤ 10) : F_Automaton [.str L, AD arr, ID ys] = .ok (AU L arr ys) := by
  have h3 := hL.l3
  have p1 := fz_rows arr (by omega) (fun r hr => by rw [(hg.row r hr).1]; omega)
  have p2 := fz_row5 ys (by omega)
  have p3 := chk_letters hL
  have hA : biF .len [AT arr] = .ok (.int (arr.length : Int)) := by simp
  obtain ⟨y6, y7, e⟩ := ar_loop L hL none (some (AD arr)) (some (ID ys)) none (AT arr) arr.length hA arr 0 none none hg.row
  have p4 : evS P_Automaton sub FUEL fo_Automaton_1 [none, some (.str L), some (AD arr), some (ID ys), some (AT arr), none, none, none] = .nx [none, some (.str L), some (AD arr), some (ID ys), some (AT arr), none, y6, y7] := by
    rw [evS_for]
    have : ev P_Automaton sub (.bi .enum (.cons (.var 4) .nil)) [none, some (.str L), some (AD arr), some (ID ys), some (AT arr), none, none, none] = .ok (.lst (enumD (arr.map TD) 0)) := by
      simp
      rfl
    rw [this, out_ok, items_l, omO_some]
    exact e
  have p5 : ev P_Automaton sub fo_Automaton_2 [none, some (.str L), some (AD arr), some (ID ys), some (AT arr), some (TD ys), y6, y7] = .ok (.lst (ys.map fun _ => D.bl true)) :=
    lcm_ok _ _ _ _ _ _ _ (TD ys) ys (fun (n : Nat) => D.int (n : Int)) _ (by simp) (by simp) (by omega) fun t ht => ⟨_, rfl, by
      have := below_ok t arr.length (hg.yes t ht)
      generalize AT arr = at_ at hA ⊢
      simp [PA5, hA, this]⟩
  have p6 : biF .all [.lst (ys.map fun _ => D.bl true)] = .ok (.bl true) := by
    have : boolsD (ys.map fun _ => D.bl true) = some (ys.map fun _ => true) := by
      clear p5 p4 p3 p2 e hg hy
      induction ys with
      | nil => rfl
      | cons _ r ih => simp [boolsD, ih]
    show om (boolsD _) _ = _
    rw [this, om_some]
    simp
  have p7 : biF .sset [TD ys] = .ok (.lst ((ySrt ys).map D.int)) := by
    show om (intsD _) (fun is => if is.length < 63 then Res.ok (D.lst ((sortI (dedup is)).map D.int)) else .bad) = _
    rw [ints_map, om_some, if_pos (by simp; omega)]
  have p8 : biF .tuple [.lst ((ySrt ys).map D.int)] = .ok (YT ys) := rfl
  have p9 : ¬ arr.length = 0 := by omega
  show _ = Res.ok (D.ins 4 [.str L, AT arr, YT ys])
  generalize YT ys = yt at p8 ⊢
  generalize (.lst ((ySrt ys).map D.int) : D) = yl at p7 p8
  generalize (.lst (ys.map fun _ => D.bl true) : D) = bl at p5 p6
  generalize TD ys = td at p2 p5 p7
  generalize AT arr = at_ at *
  generalize AD arr = ad at *
  generalize ID ys = dy at *
  simp only [F_Automaton, runI, b_Automaton, a_Automaton]
  generalize fo_Automaton_1 = f1 at p4
  generalize fo_Automaton_2 = f2 at p5
  generalize arr.length = n at *
  have e1 : evS P_Automaton sub FUEL (.seq (.expr (.call 3 [99, 104, 101, 99, 107, 95, 108, 101, 116, 116, 101, 114, 115] (.cons (.var 1) .nil))) (.seq (.asg [4] true (.call 0 [102, 114, 111, 122, 101, 110] (.cons (.var 2) .nil))) (.seq f1 (.seq (.asg [5] true (.call 0 [102, 114, 111, 122, 101, 110] (.cons (.var 3) .nil))) (.seq (.if_ (.or (.op .eq (.bi .len (.cons (.var 4) .nil)) (.int 0)) (.one (.not (.bi .all (.cons f2 .nil))))) (.seq (.raise 3 [66, 97, 100, 65, 117, 116, 111, 109, 97, 116, 111, 110] (.cons (.bi .len (.cons (.var 4) .nil)) .nil)) .skip) .skip) .skip))))) [none, some (.str L), some ad, some dy, none, none, none, none] = .nx [none, some (.str L), some ad, some dy, some at_, some td, y6, y7] := by
    simp [PA0, PA3, p1, p2, p3, p4, p5, p6, hA, p9]
  show (match evS P_Automaton sub FUEL _ [none, some (.str L), some ad, some dy, none, none, none, none] with
    | .nx e => (evL P_Automaton sub _ e).bd fun l => Res.ok (D.ins 4 l)
    | .ex _ c l => .err c l
    | _ => .bad) = _
  rw [e1]
  simp [p7, p8]
end Lw

set_option maxRecDepth 100000
set_option autoImplicit false
set_option linter.all false
namespace Lw
open E
/-! ### what can be reached -/
inductive Rch (arr : List (List Nat)) (s : Nat) : Nat → Prop
  | base : Rch arr s s
  | step {t u : Nat} : Rch arr s t → u ∈ arr.getD t [] → Rch arr s u
open Classical in
noncomputable def Wd (arr : List (List Nat)) (ys : List Nat) (s : Nat) : D := if ∀ t, Rch arr s t → t ∈ ys then .bl true else if ∀ t, Rch arr s t → t ∉ ys then .bl false else .non
theorem Rch_sub {arr : List (List Nat)} {s : Nat} {R : List Nat} (h : s ∈ R) (hc : ∀ t ∈ R, ∀ u ∈ arr.getD t [], u ∈ R) : ∀ t, Rch arr s t → t ∈ R := by
  intro t ht
  induction ht with
  | base => exact h
  | step _ hu ih => exact hc _ ih _ hu
theorem nodup_len : ∀ (n : Nat) (l : List Nat), l.Nodup → (∀ x ∈ l, x < n) → l.length ≤ n
  | 0, [], _, _ => Nat.le_refl 0
  | 0, x :: l, _, h => absurd (h x List.mem_cons_self) (by omega)
  | n + 1, l, h1, h2 => by
    have h3 := nodup_len n (l.erase n) (h1.erase n) (fun x hx => by
      have a := h2 x (List.mem_of_mem_erase hx)
      have : x ≠ n := fun z => by subst z; exact (List.Nodup.not_mem_erase h1) hx
      omega)
    by_cases hn : n ∈ l
    · rw [List.length_erase_of_mem hn] at h3
      omega
    · rw [List.erase_of_not_mem hn] at h3
      omega
theorem wd_eq (arr : List (List Nat)) (ys : List Nat) (s : Nat) (b1 b2 : Bool) (h1 : b1 = true ↔ ∃ t, Rch arr s t ∧ t ∉ ys) (h2 : b2 = true ↔ ∃ t, Rch arr s t ∧ t ∈ ys) : (if (!b1) = true then D.bl true else if (!b2) = true then .bl false else .non) = Wd arr ys s := by
  unfold Wd
  cases b1 with
  | false =>
    have h : ∀ t, Rch arr s t → t ∈ ys := fun t ht => Classical.byContradiction fun hc => by
      have := h1.2 ⟨t, ht, hc⟩
      cases this
    exact (if_pos rfl).trans (if_pos h).symm
  | true =>
    obtain ⟨t, q1, q2⟩ := h1.1 rfl
    have n1 : ¬ ∀ t, Rch arr s t → t ∈ ys := fun z => q2 (z t q1)
    refine (if_neg (by simp)).trans (Eq.trans ?_ (if_neg n1).symm)
    cases b2 with
    | false =>
      have h : ∀ t, Rch arr s t → t ∉ ys := fun t ht hc => by
        have := h2.2 ⟨t, ht, hc⟩
        cases this
      exact (if_pos rfl).trans (if_pos h).symm
    | true =>
      obtain ⟨t, q1, q2⟩ := h2.1 rfl
      have n2 : ¬ ∀ t, Rch arr s t → t ∉ ys := fun z => z t q1 q2
      exact (if_neg (by simp)).trans (if_neg n2).symm
theorem in_bools {α : Type} (R : List α) (p : α → Bool) (b : Bool) : inD (.bl b) (.lst (R.map fun t => D.bl (p t))) = .ok (R.any fun t => p t == b) := by
  have h : (R.map fun t => D.bl (p t)).all flat = true := by
    rw [List.all_eq_true]
    intro d hd
    obtain ⟨x, _, rfl⟩ := List.mem_map.1 hd
    rfl
  show (if flat (.bl b) ∧ _ then Res.ok _ else _) = _
  rw [if_pos ⟨rfl, h⟩]
  congr 1
  clear h
  induction R with
  | nil => rfl
  | cons x R ih =>
    simp only [List.map_cons, List.any_cons, ih]
    simp [eqv]
theorem in_ints {α : Type} (R : List α) (h : α → Int) (i : Int) : inD (.int i) (.lst (R.map fun x => D.int (h x))) = .ok (R.any fun x => h x == i) := by
  show (if flat (.int i) ∧ _ then Res.ok _ else _) = _
  rw [if_pos ⟨rfl, flat_ints R h⟩, any_ints]
theorem in_intsT {α : Type} (R : List α) (h : α → Int) (i : Int) : inD (.int i) (.tup (R.map fun x => D.int (h x))) = .ok (R.any fun x => h x == i) := by
  show (if flat (.int i) ∧ _ then Res.ok _ else _) = _
  rw [if_pos ⟨rfl, flat_ints R h⟩, any_ints]
theorem any_in (R : List Nat) (t : Nat) : (R.any fun x => (x : Int) == (t : Int)) = decide (t ∈ R) := beq_iff (by
  rw [List.any_eq_true, decide_eq_true_iff]
  constructor
  · rintro ⟨x, h1, h2⟩
    rw [beq_iff_eq] at h2
    have : x = t := by omega
    exact this ▸ h1
  · intro h
    exact ⟨t, h, by simp⟩)
theorem row_at {n len : Nat} {arr : List (List Nat)} {ys : List Nat} (hg : GoodA n len arr ys) (hn : n = arr.length) (t : Nat) (ht : t < n) : arr[t]? = some (arr.getD t []) ∧ (∀ u ∈ arr.getD t [], u < n) ∧ (arr.getD t []).length = len := by
  have h : arr[t]? = some arr[t] := List.getElem?_eq_getElem (by omega)
  have h2 : arr.getD t [] = arr[t] := by rw [List.getD_eq_getElem?_getD, h]; rfl
  have := hg.row arr[t] (List.getElem_mem _)
  rw [h2]
  exact ⟨h, this.2, this.1⟩
/-! ### the law's way -/
def grow (R : List Nat) : List Nat → List Nat
  | [] => R
  | t :: r => grow (if t ∈ R then R else R ++ [t]) r
theorem grow_ok (n : Nat) : ∀ (r R : List Nat), R.Nodup → (∀ x ∈ R, x < n) → (∀ x ∈ r, x < n) → (grow R r).Nodup ∧ (∀ x ∈ grow R r, x ∈ R ∨ x ∈ r) ∧ (∀ x ∈ R, x ∈ grow R r) ∧ (∀ x ∈ r, x ∈ grow R r) ∧ (∀ (j t : Nat), R[j]? = some t → (grow R r)[j]? = some t)
  | [], R, h1, h2, h3 => ⟨h1, fun x hx => .inl hx, fun x hx => hx, fun x hx => absurd hx (by simp), fun _ _ h => h⟩
  | u :: r, R, h1, h2, h3 => by
    unfold grow
    by_cases hu : u ∈ R
    · rw [if_pos hu]
      obtain ⟨q1, q2, q3, q4, q5⟩ := grow_ok n r R h1 h2 (fun x hx => h3 x (List.mem_cons_of_mem _ hx))
      refine ⟨q1, fun x hx => ?_, q3, fun x hx => ?_, q5⟩
      · rcases q2 x hx with z | z
        · exact .inl z
        · exact .inr (List.mem_cons_of_mem _ z)
      · rcases List.mem_cons.1 hx with rfl | z
        · exact q3 _ hu
        · exact q4 x z
    · rw [if_neg hu]
      obtain ⟨q1, q2, q3, q4, q5⟩ := grow_ok n r (R ++ [u]) (by
        rw [List.nodup_append]
        exact ⟨h1, by simp, fun a ha b hb => by rw [List.mem_singleton.1 hb]; rintro rfl; exact hu ha⟩) (fun x hx => by
          rcases List.mem_append.1 hx with z | z
          · exact h2 x z
          · rw [List.mem_singleton.1 z]; exact h3 u List.mem_cons_self) (fun x hx => h3 x (List.mem_cons_of_mem _ hx))
      refine ⟨q1, fun x hx => ?_, fun x hx => q3 x (List.mem_append_left _ hx), fun x hx => ?_, fun j t h => q5 j t (by
        rw [List.getElem?_append_left (lt_of_get h)]; exact h)⟩
      · rcases q2 x hx with z | z
        · rcases List.mem_append.1 z with z | z
          · exact .inl z
          · rw [List.mem_singleton.1 z]; exact .inr List.mem_cons_self
        · exact .inr (List.mem_cons_of_mem _ z)
      · rcases List.mem_cons.1 hx with rfl | z
        · exact q3 _ (by simp)
        · exact q4 x z
theorem ls_in (x0 x1 x2 x4 x5 : Option D) (n : Nat) (hn : n ≤ 1000) : ∀ (r R : List Nat) (x6 : Option D), R.Nodup → (∀ x ∈ R, x < n) → (∀ x ∈ r, x < n) →
    ∃ y6, forL (fun d e => omO (asg [6] true d e) (evS P__law_sure sub FUEL lb__law_sure_2)) (r.map fun (k : Nat) => D.int (k : Int)) [x0, x1, x2, some (ID R), x4, x5, x6] = .nx [x0, x1, x2, some (ID (grow R r)), x4, x5, y6]
  | [], R, x6, _, _, _ => ⟨x6, rfl⟩
  | u :: r, R, x6, h1, h2, h3 => by
    have hu3 := h3 u List.mem_cons_self
    have hin : inD (.int (u : Int)) (ID R) = .ok (decide (u ∈ R)) := (in_ints R (fun (n : Nat) => (n : Int)) (u : Int)).trans (by rw [any_in])
    by_cases hu : u ∈ R
    · obtain ⟨y6, e⟩ := ls_in x0 x1 x2 x4 x5 n hn r R (some (.int (u : Int))) h1 h2 (fun x hx => h3 x (List.mem_cons_of_mem _ hx))
      refine ⟨y6, ?_⟩
      have step : (fun d e => omO (asg [6] true d e) (evS P__law_sure sub FUEL lb__law_sure_2)) (.int (u : Int)) [x0, x1, x2, some (ID R), x4, x5, x6] = .nx [x0, x1, x2, some (ID R), x4, x5, some (.int (u : Int))] := by
        rw [decide_eq_true hu] at hin
        generalize ID R = dr at hin ⊢
        simp [hin]
      rw [List.map_cons, forL_nx step, e, grow, if_pos hu]
    · have h4 : (R ++ [u]).Nodup := by
        rw [List.nodup_append]
        exact ⟨h1, by simp, fun a ha b hb => by rw [List.mem_singleton.1 hb]; rintro rfl; exact hu ha⟩
      have h5 : ∀ x ∈ R ++ [u], x < n := fun x hx => by
        rcases List.mem_append.1 hx with z | z
        · exact h2 x z
        · rw [List.mem_singleton.1 z]; exact hu3
      obtain ⟨y6, e⟩ := ls_in x0 x1 x2 x4 x5 n hn r (R ++ [u]) (some (.int (u : Int))) h4 h5 (fun x hx => h3 x (List.mem_cons_of_mem _ hx))
      refine ⟨y6, ?_⟩
      have hl := nodup_len n R h1 h2
      have step : (fun d e => omO (asg [6] true d e) (evS P__law_sure sub FUEL lb__law_sure_2)) (.int (u : Int)) [x0, x1, x2, some (ID R), x4, x5, x6] = .nx [x0, x1, x2, some (ID (R ++ [u])), x4, x5, some (.int (u : Int))] := by
        rw [decide_eq_false hu] at hin
        have hm : muF .append 3 (evL P__law_sure sub (.cons (.var 6) .nil)) [x0, x1, x2, some (ID R), x4, x5, some (.int (u : Int))] = .nx [x0, x1, x2, some (ID (R ++ [u])), x4, x5, some (.int (u : Int))] := by
          rw [mu_app (l := R.map fun (n : Nat) => D.int (n : Int)) (d := .int (u : Int)) rfl (by simp) (lim_lt (by simp; omega))]
          simp
        generalize ID R = dr at hin hm ⊢
        generalize ID (R ++ [u]) = dr2 at hm ⊢
        simp [hin, hm]
      rw [List.map_cons, forL_nx step, e, grow, if_neg hu]
structure InvB (arr : List (List Nat)) (n s i : Nat) (R : List Nat) : Prop where
  nd : R.Nodup
  lt : ∀ t ∈ R, t < n
  rc : ∀ t ∈ R, Rch arr s t
  st : s ∈ R
  cl : ∀ j < i, ∀ t, R[j]? = some t → ∀ u ∈ arr.getD t [], u ∈ R
theorem ls_loop (x1 x2 x5 : Option D) (len n : Nat) (hn : n ≤ 1000) (arr : List (List Nat)) (ys : List Nat) (hg : GoodA n len arr ys) (ha : n = arr.length) (s : Nat) : ∀ (m i : Nat) (R : List Nat) (x4 x6 : Option D), InvB arr n s i R →
    ∃ R' y4 y6, InvB arr n s (i + m) R' ∧ forL (fun d e => omO (asg [4] true d e) (evS P__law_sure sub FUEL lb__law_sure_1)) ((List.range' i m).map fun (k : Nat) => D.int (k : Int)) [some (AD arr), x1, x2, some (ID R), x4, x5, x6] = .nx [some (AD arr), x1, x2, some (ID R'), y4, x5, y6]
  | 0, i, R, x4, x6, h => ⟨R, x4, x6, h, rfl⟩
  | m + 1, i, R, x4, x6, h => by
    have hlen : biF .len [ID R] = .ok (.int (R.length : Int)) := by simp
    by_cases hi : i < R.length
    · have hget : R[i]? = some R[i] := List.getElem?_eq_getElem hi
      generalize R[i] = t at hget
      have ht := h.lt t (List.mem_of_getElem? hget)
      obtain ⟨r1, r2, r3⟩ := row_at hg ha t ht
      obtain ⟨q1, q2, q3, q4, q5⟩ := grow_ok n (arr.getD t []) R h.nd h.lt r2
      obtain ⟨y6, e⟩ := ls_in (some (AD arr)) x1 x2 (some (.int (i : Int))) x5 n hn (arr.getD t []) R x6 h.nd h.lt r2
      have hI : InvB arr n s (i + 1) (grow R (arr.getD t [])) := by
        refine ⟨q1, fun x hx => ?_, fun x hx => ?_, q3 _ h.st, fun j hj u hu => ?_⟩
        · rcases q2 x hx with z | z
          · exact h.lt x z
          · exact r2 x z
        · rcases q2 x hx with z | z
          · exact h.rc x z
          · exact .step (h.rc t (List.mem_of_getElem? hget)) z
        · by_cases hj2 : j < i
          · have hj3 : R[j]? = some R[j] := List.getElem?_eq_getElem (by omega)
            have : R[j] = u := by
              have := (q5 j _ hj3).symm.trans hu
              injection this
            intro v hv
            exact q3 v (h.cl j hj2 u (this ▸ hj3) v hv)
          · have : j = i := by omega
            subst this
            have : t = u := by
              have := (q5 j _ hget).symm.trans hu
              injection this
            subst this
            exact q4
      obtain ⟨R', y4, z6, hI2, e2⟩ := ls_loop x1 x2 x5 len n hn arr ys hg ha s m (i + 1) _ (some (.int (i : Int))) y6 hI
      refine ⟨R', y4, z6, by rw [show i + (m + 1) = i + 1 + m by omega]; exact hI2, ?_⟩
      have step : (fun d e => omO (asg [4] true d e) (evS P__law_sure sub FUEL lb__law_sure_1)) (.int (i : Int)) [some (AD arr), x1, x2, some (ID R), x4, x5, x6] = .nx [some (AD arr), x1, x2, some (ID (grow R (arr.getD t []))), some (.int (i : Int)), x5, y6] := by
        have d1 : dIdx (ID R) (.int (i : Int)) = .ok (.int (t : Int)) := idx_l _ _ _ (by rw [List.getElem?_map, hget]; rfl)
        have d2 : dIdx (AD arr) (.int (t : Int)) = .ok (ID (arr.getD t [])) := idx_l _ _ _ (by rw [List.getElem?_map, r1]; rfl)
        have hf : evS P__law_sure sub FUEL fo__law_sure_2 [some (AD arr), x1, x2, some (ID R), some (.int (i : Int)), x5, x6] = .nx [some (AD arr), x1, x2, some (ID (grow R (arr.getD t []))), some (.int (i : Int)), x5, y6] := by
          rw [evS_for]
          have : ev P__law_sure sub (.idx (.var 0) (.idx (.var 3) (.var 4))) [some (AD arr), x1, x2, some (ID R), some (.int (i : Int)), x5, x6] = .ok (ID (arr.getD t [])) := by
            generalize AD arr = da at d2 ⊢
            generalize ID R = dr at d1 ⊢
            simp [d1, d2]
          rw [this, out_ok, items_l, omO_some]
          exact e
        have hb : lb__law_sure_1 = .seq (.if_ (.op .lt (.var 4) (.bi .len (.cons (.var 3) .nil))) (.seq fo__law_sure_2 .skip) .skip) .skip := rfl
        rw [hb]
        generalize fo__law_sure_2 = f2 at hf
        generalize ID R = dr at hf hlen ⊢
        generalize AD arr = da at hf ⊢
        simp [hlen, hi, hf]
      rw [List.range'_succ, List.map_cons, forL_nx step, e2]
    · have hI : InvB arr n s (i + 1) R := ⟨h.nd, h.lt, h.rc, h.st, fun j hj t ht u hu => by
        have := lt_of_get ht
        exact h.cl j (by omega) t ht u hu⟩
      obtain ⟨R', y4, z6, hI2, e2⟩ := ls_loop x1 x2 x5 len n hn arr ys hg ha s m (i + 1) _ (some (.int (i : Int))) x6 hI
      refine ⟨R', y4, z6, by rw [show i + (m + 1) = i + 1 + m by omega]; exact hI2, ?_⟩
      have step : (fun d e => omO (asg [4] true d e) (evS P__law_sure sub FUEL lb__law_sure_1)) (.int (i : Int)) [some (AD arr), x1, x2, some (ID R), x4, x5, x6] = .nx [some (AD arr), x1, x2, some (ID R), some (.int (i : Int)), x5, x6] := by
        have hb : lb__law_sure_1 = .seq (.if_ (.op .lt (.var 4) (.bi .len (.cons (.var 3) .nil))) (.seq fo__law_sure_2 .skip) .skip) .skip := rfl
        rw [hb]
        generalize fo__law_sure_2 = f2
        generalize ID R = dr at hlen ⊢
        generalize AD arr = da
        simp [hlen, hi]
      rw [List.range'_succ, List.map_cons, forL_nx step, e2]
theorem any_ff (R : List Nat) (ys : List Nat) (P : Nat → Prop) (hR : ∀ t, P t ↔ t ∈ R) (b : Bool) : (R.any fun t => decide (t ∈ ys) == b) = true ↔ ∃ t, P t ∧ (decide (t ∈ ys) == b) = true := by
  rw [List.any_eq_true]
  constructor
  · rintro ⟨t, h1, h2⟩; exact ⟨t, (hR t).2 h1, h2⟩
  · rintro ⟨t, h1, h2⟩; exact ⟨t, (hR t).1 h1, h2⟩
theorem lsure_ok (len : Nat) (arr : List (List Nat)) (ys : List Nat) (h10 : arr.length ≤ 1000) (hg : GoodA arr.length len arr ys) (s : Nat) (hs : s < arr.length) : F__law_sure [AD arr, ID ys, .int (s : Int)] = .ok (Wd arr ys s) := by
  obtain ⟨R, y4, y6, hI, e⟩ := ls_loop (some (ID ys)) (some (.int (s : Int))) none len arr.length h10 arr ys hg rfl s arr.length 0 [s] none none ⟨by simp, by simpa using hs, by simpa using Rch.base, by simp, by simp⟩
  have hl := nodup_len _ R hI.nd hI.lt
  have hR : ∀ t, Rch arr s t ↔ t ∈ R := fun t => ⟨Rch_sub hI.st (fun t ht u hu => by
    obtain ⟨j, hj⟩ := List.getElem?_of_mem ht
    exact hI.cl j (by have := lt_of_get hj; omega) t hj u hu) t, hI.rc t⟩
  have hf : evS P__law_sure sub FUEL fo__law_sure_1 [some (AD arr), some (ID ys), some (.int (s : Int)), some (.lst [.int (s : Int)]), none, none, none] = .nx [some (AD arr), some (ID ys), some (.int (s : Int)), some (ID R), y4, none, y6] := by
    rw [evS_for]
    have hr := rng_n arr.length (by omega)
    have : ev P__law_sure sub (.bi .rng1 (.cons (.bi .len (.cons (.var 0) .nil)) .nil)) [some (AD arr), some (ID ys), some (.int (s : Int)), some (.lst [.int (s : Int)]), none, none, none] = .ok (.lst ((List.range' 0 arr.length).map fun (k : Nat) => D.int (k : Int))) := by
      have hA : biF .len [AD arr] = .ok (.int (arr.length : Int)) := by simp
      generalize (List.range' 0 arr.length).map (fun (k : Nat) => D.int (k : Int)) = rr at hr ⊢
      generalize AD arr = da at hA ⊢
      generalize arr.length = n at hA hr
      simp [hA, hr]
    rw [this, out_ok, items_l, omO_some]
    exact e
  have hw : ev P__law_sure sub fo__law_sure_3 [some (AD arr), some (ID ys), some (.int (s : Int)), some (ID R), y4, none, y6] = .ok (.lst (R.map fun t => D.bl (decide (t ∈ ys)))) :=
    lcm_ok _ _ _ _ _ _ _ (ID R) R (fun (n : Nat) => D.int (n : Int)) _ (by simp) (by simp) (by omega) fun t ht => ⟨_, rfl, by
      have hin : inD (.int (t : Int)) (ID ys) = .ok (decide (t ∈ ys)) := (in_ints ys (fun (n : Nat) => (n : Int)) (t : Int)).trans (by rw [any_in])
      generalize ID ys = dy at hin ⊢
      simp [hin]⟩
  have b1 := in_bools R (fun t => decide (t ∈ ys)) false
  have b2 := in_bools R (fun t => decide (t ∈ ys)) true
  have hW := wd_eq arr ys s (R.any fun t => decide (t ∈ ys) == false) (R.any fun t => decide (t ∈ ys) == true) (by
    rw [any_ff R ys _ hR]; simp) (by
    rw [any_ff R ys _ hR]; simp)
  rw [← hW]
  simp only [F__law_sure, run, b__law_sure]
  generalize (.lst (R.map fun t => D.bl (decide (t ∈ ys))) : D) = wd at hw b1 b2
  generalize (R.any fun t => decide (t ∈ ys) == false) = c1 at b1 ⊢
  generalize (R.any fun t => decide (t ∈ ys) == true) = c2 at b2 ⊢
  generalize fo__law_sure_1 = f1 at hf
  generalize fo__law_sure_3 = f3 at hw
  generalize AD arr = da at hf hw ⊢
  generalize ID ys = dy at hf hw ⊢
  generalize ID R = dr at hf hw
  cases c1 <;> cases c2 <;> simp [hf, hw, b1, b2, lim_le]
end Lw

set_option maxRecDepth 100000
set_option autoImplicit false
set_option linter.all false
namespace Lw
open E
/-! ### the program's way -/
abbrev KD (K : List Nat) : D := .dic (K.map fun (n : Nat) => D.int (n : Int)) (K.map fun _ => D.bl true)
theorem dHas_ok (K : List Nat) (t : Nat) : dHas (K.map fun (n : Nat) => D.int (n : Int)) (.int (t : Int)) = decide (t ∈ K) := by
  refine Eq.trans ?_ (any_in K t)
  unfold dHas
  rw [List.any_map]
  rfl
theorem inK (K : List Nat) (t : Nat) : inD (.int (t : Int)) (KD K) = .ok (decide (t ∈ K)) := by
  show (if isKey (.int (t : Int)) = true then Res.ok (dHas _ _) else .bad) = _
  rw [if_pos (show isKey (.int (t : Int)) = true from rfl), dHas_ok]
theorem evS_putK (Φ : Nat → List D → Res D) (sb : Nat → Nat → Option Bool) (n i : Nat) (a b : C) (e : Env) (K : List Nat) (t : Nat) (h1 : ev Φ sb b e = .ok (.bl true)) (h2 : look i e = .ok (KD K)) (h3 : ev Φ sb a e = .ok (.int (t : Int))) (h4 : t ∉ K) (h5 : K.length ≤ 1000) :
    evS Φ sb n (.put i a b) e = .nx (e.set i (some (KD (K ++ [t])))) := by
  rw [evS, h1, out_ok, h2, out_ok, h3, out_ok]
  show (if isKey (.int (t : Int)) = true ∧ (K.map fun (n : Nat) => D.int (n : Int)).length < LIM then Out.nx _ else .bad) = _
  rw [if_pos ⟨rfl, lim_lt (by simp; omega)⟩]
  unfold dPut
  rw [dHas_ok, if_neg (by simp [h4])]
  simp [KD]
/-- what the row brings: (known, waiting) -/
def gro2 (K W : List Nat) : List Nat → List Nat × List Nat
  | [] => (K, W)
  | t :: r => if t ∈ K then gro2 K W r else gro2 (K ++ [t]) (W ++ [t]) r
theorem nd_app {K : List Nat} {u : Nat} (h1 : K.Nodup) (hu : u ∉ K) : (K ++ [u]).Nodup := by
  rw [List.nodup_append]
  exact ⟨h1, by simp, fun a ha b hb => by rw [List.mem_singleton.1 hb]; rintro rfl; exact hu ha⟩
theorem lt_app {K : List Nat} {u n : Nat} (h : ∀ x ∈ K, x < n) (hu : u < n) : ∀ x ∈ K ++ [u], x < n := fun x hx => by
  rcases List.mem_append.1 hx with z | z
  · exact h x z
  · rw [List.mem_singleton.1 z]; exact hu
theorem gro2_ok (n : Nat) : ∀ (r K W : List Nat), K.Nodup → (∀ x ∈ K, x < n) → (∀ x ∈ r, x < n) →
    (gro2 K W r).1.Nodup ∧ (∀ x ∈ (gro2 K W r).1, x ∈ K ∨ (x ∈ r ∧ x ∈ (gro2 K W r).2)) ∧ (∀ x ∈ K, x ∈ (gro2 K W r).1) ∧ (∀ x ∈ r, x ∈ (gro2 K W r).1) ∧ (∀ x ∈ W, x ∈ (gro2 K W r).2) ∧ (∀ x ∈ (gro2 K W r).2, x ∈ W ∨ x ∈ (gro2 K W r).1) ∧ (gro2 K W r).2.length + K.length = W.length + (gro2 K W r).1.length
  | [], K, W, h1, h2, h3 => ⟨h1, fun x hx => .inl hx, fun x hx => hx, fun x hx => absurd hx (by simp), fun x h => h, fun x h => .inl h, rfl⟩
  | u :: r, K, W, h1, h2, h3 => by
    unfold gro2
    have h3' : ∀ x ∈ r, x < n := fun x hx => h3 x (List.mem_cons_of_mem _ hx)
    by_cases hu : u ∈ K
    · rw [if_pos hu]
      obtain ⟨q1, q2, q3, q4, q5, q6, q7⟩ := gro2_ok n r K W h1 h2 h3'
      refine ⟨q1, fun x hx => ?_, q3, fun x hx => ?_, q5, q6, q7⟩
      · rcases q2 x hx with z | z
        · exact .inl z
        · exact .inr ⟨List.mem_cons_of_mem _ z.1, z.2⟩
      · rcases List.mem_cons.1 hx with rfl | z
        · exact q3 _ hu
        · exact q4 x z
    · rw [if_neg hu]
      obtain ⟨q1, q2, q3, q4, q5, q6, q7⟩ := gro2_ok n r (K ++ [u]) (W ++ [u]) (nd_app h1 hu) (lt_app h2 (h3 u List.mem_cons_self)) h3'
      refine ⟨q1, fun x hx => ?_, fun x hx => q3 x (List.mem_append_left _ hx), fun x hx => ?_, fun x hx => q5 x (List.mem_append_left _ hx), fun x hx => ?_, ?_⟩
      · rcases q2 x hx with z | z
        · rcases List.mem_append.1 z with z | z
          · exact .inl z
          · rw [List.mem_singleton.1 z]; exact .inr ⟨List.mem_cons_self, q5 u (by simp)⟩
        · exact .inr ⟨List.mem_cons_of_mem _ z.1, z.2⟩
      · rcases List.mem_cons.1 hx with rfl | z
        · exact q3 _ (by simp)
        · exact q4 x z
      · rcases q6 x hx with z | z
        · rcases List.mem_append.1 z with z | z
          · exact .inl z
          · rw [List.mem_singleton.1 z]; exact .inr (q3 u (by simp))
        · exact .inr z
      · simp at q7
        omega
theorem sb_in (x0 x1 : Option D) (n : Nat) (hn : n ≤ 1000) : ∀ (r K W : List Nat) (x4 : Option D), K.Nodup → (∀ x ∈ K, x < n) → (∀ x ∈ r, x < n) → W.length + r.length ≤ 100000 →
    ∃ y4, forL (fun d e => omO (asg [4] true d e) (evS P_states_behind sub FUEL lb_states_behind_2)) (r.map fun (k : Nat) => D.int (k : Int)) [x0, x1, some (KD K), some (ID W), x4] = .nx [x0, x1, some (KD (gro2 K W r).1), some (ID (gro2 K W r).2), y4]
  | [], K, W, x4, _, _, _, _ => ⟨x4, rfl⟩
  | u :: r, K, W, x4, h1, h2, h3, hw => by
    have hu3 := h3 u List.mem_cons_self
    have h3' : ∀ x ∈ r, x < n := fun x hx => h3 x (List.mem_cons_of_mem _ hx)
    have hin := inK K u
    by_cases hu : u ∈ K
    · obtain ⟨y6, e⟩ := sb_in x0 x1 n hn r K W (some (.int (u : Int))) h1 h2 h3' (by simp at hw; omega)
      refine ⟨y6, ?_⟩
      have step : (fun d e => omO (asg [4] true d e) (evS P_states_behind sub FUEL lb_states_behind_2)) (.int (u : Int)) [x0, x1, some (KD K), some (ID W), x4] = .nx [x0, x1, some (KD K), some (ID W), some (.int (u : Int))] := by
        rw [decide_eq_true hu] at hin
        generalize KD K = dr at hin ⊢
        simp [hin]
      rw [List.map_cons, forL_nx step, e, gro2, if_pos hu]
    · obtain ⟨y6, e⟩ := sb_in x0 x1 n hn r (K ++ [u]) (W ++ [u]) (some (.int (u : Int))) (nd_app h1 hu) (lt_app h2 hu3) h3' (by simp at hw ⊢; omega)
      refine ⟨y6, ?_⟩
      have hl := nodup_len n K h1 h2
      have step : (fun d e => omO (asg [4] true d e) (evS P_states_behind sub FUEL lb_states_behind_2)) (.int (u : Int)) [x0, x1, some (KD K), some (ID W), x4] = .nx [x0, x1, some (KD (K ++ [u])), some (ID (W ++ [u])), some (.int (u : Int))] := by
        rw [decide_eq_false hu] at hin
        have hp : evS P_states_behind sub FUEL (.put 2 (.var 4) (.bl true)) [x0, x1, some (KD K), some (ID W), some (.int (u : Int))] = .nx [x0, x1, some (KD (K ++ [u])), some (ID W), some (.int (u : Int))] :=
          evS_putK _ _ _ _ _ _ _ K u (by simp) rfl (by simp) hu (by omega)
        have hm : muF .append 3 (evL P_states_behind sub (.cons (.var 4) .nil)) [x0, x1, some (KD (K ++ [u])), some (ID W), some (.int (u : Int))] = .nx [x0, x1, some (KD (K ++ [u])), some (ID (W ++ [u])), some (.int (u : Int))] := by
          rw [mu_app (l := W.map fun (n : Nat) => D.int (n : Int)) (d := .int (u : Int)) rfl (by simp) (lim_lt (by simp at hw ⊢; omega))]
          simp
        generalize ID W = dw at hm hp ⊢
        generalize ID (W ++ [u]) = dw2 at hm ⊢
        generalize KD K = dr at hin hp ⊢
        generalize KD (K ++ [u]) = dr2 at hm hp ⊢
        simp [hin, hm, hp]
      rw [List.map_cons, forL_nx step, e, gro2, if_neg hu]
structure InvD (arr : List (List Nat)) (n s : Nat) (K W : List Nat) : Prop where
  nd : K.Nodup
  lt : ∀ t ∈ K, t < n
  rc : ∀ t ∈ K, Rch arr s t
  st : s ∈ K
  wk : ∀ t ∈ W, t ∈ K
  cl : ∀ t ∈ K, t ∉ W → ∀ u ∈ arr.getD t [], u ∈ K
theorem sb_loop (x1 : Option D) (L : D) (yt : D) (len n : Nat) (hn : n ≤ 100) (hlen : len ≤ 100) (arr : List (List Nat)) (ys : List Nat) (hg : GoodA n len arr ys) (ha : n = arr.length) (s : Nat) : ∀ (fuel m : Nat) (K W : List Nat) (x4 : Option D), m < fuel → InvD arr n s K W → W.length + (n - K.length) ≤ m → m ≤ 1000 →
    ∃ K' y4, InvD arr n s K' [] ∧ whL (fun e => (ev P_states_behind sub (.op .gt (.bi .len (.cons (.var 3) .nil)) (.int 0)) e).bd truth) (evS P_states_behind sub FUEL lb_states_behind_1) fuel [some (.ins 4 [L, AT arr, yt]), x1, some (KD K), some (ID W), x4] = .nx [some (.ins 4 [L, AT arr, yt]), x1, some (KD K'), some (.lst []), y4]
  | 0, m, K, W, x4, hm, _, _, _ => absurd hm (by omega)
  | fuel + 1, m, K, W, x4, hm, h, hms, hm2 => by
    have hl : biF .len [ID W] = .ok (.int (W.length : Int)) := by simp
    rcases List.eq_nil_or_concat W with rfl | ⟨W0, t, hW⟩
    · refine ⟨K, x4, h, ?_⟩
      rw [whL]
      simp
    · rw [List.concat_eq_append] at hW
      subst hW
      have htK := h.wk t (by simp)
      have ht := h.lt t htK
      obtain ⟨r1, r2, r3⟩ := row_at hg ha t ht
      obtain ⟨q1, q2, q3, q4, q5, q6, q7⟩ := gro2_ok n (arr.getD t []) K W0 h.nd h.lt r2
      have hW0 : W0.length + 1 + (n - K.length) ≤ m := by simp at hms; omega
      obtain ⟨y4, e⟩ := sb_in (some (.ins 4 [L, AT arr, yt])) x1 n (by omega) (arr.getD t []) K W0 x4 h.nd h.lt r2 (by rw [r3]; omega)
      have hKl := nodup_len n K h.nd h.lt
      generalize hK' : (gro2 K W0 (arr.getD t [])).1 = K' at q1 q2 q3 q4 q5 q6 q7 e
      generalize hW' : (gro2 K W0 (arr.getD t [])).2 = W' at q1 q2 q3 q4 q5 q6 q7 e
      have hI : InvD arr n s K' W' := by
        refine ⟨q1, fun x hx => ?_, fun x hx => ?_, q3 _ h.st, fun x hx => ?_, fun x hx hxw u hu => ?_⟩
        · rcases q2 x hx with z | z
          · exact h.lt x z
          · exact r2 x z.1
        · rcases q2 x hx with z | z
          · exact h.rc x z
          · exact .step (h.rc t htK) z.1
        · rcases q6 x hx with z | z
          · exact q3 x (h.wk x (List.mem_append_left _ z))
          · exact z
        · by_cases hxt : x = t
          · subst hxt; exact q4 u hu
          · rcases q2 x hx with z | z
            · refine q3 u (h.cl x z (fun hc => ?_) u hu)
              rcases List.mem_append.1 hc with z2 | z2
              · exact hxw (q5 x z2)
              · exact hxt (List.mem_singleton.1 z2)
            · exact absurd z.2 hxw
      have hKl2 := nodup_len n K' q1 hI.lt
      obtain ⟨K2, z4, hI2, e2⟩ := sb_loop x1 L yt len n hn hlen arr ys hg ha s fuel (m - 1) K' W' y4 (by omega) hI (by omega) (by omega)
      refine ⟨K2, z4, hI2, ?_⟩
      have d2 : dIdx (AT arr) (.int (t : Int)) = .ok (TD (arr.getD t [])) := idx_t _ _ _ (by rw [List.getElem?_map, r1]; rfl)
      have hf : evS P_states_behind sub FUEL fo_states_behind_2 [some (.ins 4 [L, AT arr, yt]), x1, some (KD K), some (ID (W0 ++ [t])), x4] = .nx [some (.ins 4 [L, AT arr, yt]), x1, some (KD K'), some (ID W'), y4] := by
        rw [evS_fpop]
        have a1 : ev P_states_behind sub (.fld 4 1 (.var 0)) [some (.ins 4 [L, AT arr, yt]), x1, some (KD K), some (ID (W0 ++ [t])), x4] = .ok (AT arr) := by
          rw [ev_fld, ev_var, look0, bd_ok]
          rfl
        have a2 : (((W0 ++ [t]).map fun (n : Nat) => D.int (n : Int)).getLast?) = some (.int (t : Int)) := by simp
        have a3 : ((W0 ++ [t]).map fun (n : Nat) => D.int (n : Int)).dropLast = W0.map fun (n : Nat) => D.int (n : Int) := by simp
        rw [a1, out_ok, show look 3 [some (D.ins 4 [L, AT arr, yt]), x1, some (KD K), some (ID (W0 ++ [t])), x4] = .ok (ID (W0 ++ [t])) from rfl, out_ok]
        show omO (((W0 ++ [t]).map fun (n : Nat) => D.int (n : Int)).getLast?) _ = _
        rw [a2, omO_some, d2, out_ok, items_t, omO_some, a3]
        exact e
      have hc : (ev P_states_behind sub (.op .gt (.bi .len (.cons (.var 3) .nil)) (.int 0)) [some (.ins 4 [L, AT arr, yt]), x1, some (KD K), some (ID (W0 ++ [t])), x4]).bd truth = .ok true := by
        generalize D.ins 4 [L, AT arr, yt] = dd
        generalize KD K = kd
        simp
      have hb : evS P_states_behind sub FUEL lb_states_behind_1 [some (.ins 4 [L, AT arr, yt]), x1, some (KD K), some (ID (W0 ++ [t])), x4] = .nx [some (.ins 4 [L, AT arr, yt]), x1, some (KD K'), some (ID W'), y4] := by
        show evS P_states_behind sub FUEL (.seq fo_states_behind_2 .skip) _ = _
        rw [evS_seq, hf, bindO_nx, evS_skip]
      rw [whL]
      simp only [hc, out_ok, if_pos, hb]
      exact e2
theorem fuel_1000 : 1000 < FUEL := by decide
theorem behind_ok (L : D) (yt : D) (len : Nat) (hlen : len ≤ 100) (arr : List (List Nat)) (ys : List Nat) (h10 : arr.length ≤ 60) (hg : GoodA arr.length len arr ys) (s : Nat) (hs : s < arr.length) :
    ∃ K : List Nat, K.length ≤ 60 ∧ (∀ t, Rch arr s t ↔ t ∈ K) ∧ F_states_behind [.ins 4 [L, AT arr, yt], .int (s : Int)] = .ok (.lst ((sortI (K.map fun (n : Nat) => (n : Int))).map D.int)) := by
  have hf1 := fuel_1000
  obtain ⟨K, y4, hI, e⟩ := sb_loop (some (.int (s : Int))) L yt len arr.length (by omega) hlen arr ys hg rfl s FUEL (1 + (arr.length - 1)) [s] [s] none (by omega) ⟨by simp, by simpa using hs, by simpa using Rch.base, by simp, by simp, by simp⟩ (by simp) (by omega)
  have hl := nodup_len _ K hI.nd hI.lt
  refine ⟨K, by omega, fun t => ⟨Rch_sub hI.st (fun t ht u hu => hI.cl t ht (by simp) u hu) t, hI.rc t⟩, ?_⟩
  have hw : evS P_states_behind sub FUEL fo_states_behind_1 [some (.ins 4 [L, AT arr, yt]), some (.int (s : Int)), some (.dic [.int (s : Int)] [.bl true]), some (.lst [.int (s : Int)]), none] = .nx [some (.ins 4 [L, AT arr, yt]), some (.int (s : Int)), some (KD K), some (.lst []), y4] := by
    rw [evS_while]
    exact e
  have hs : biF .sorted [KD K] = .ok (.lst ((sortI (K.map fun (n : Nat) => (n : Int))).map D.int)) := by
    show om (intsD (K.map fun (n : Nat) => D.int (n : Int))) (fun is => if is.length < 64 then Res.ok (D.lst ((sortI is).map D.int)) else .bad) = _
    rw [ints_map, om_some, if_pos (by simp; omega)]
  simp only [F_states_behind, run, b_states_behind]
  generalize fo_states_behind_1 = f1 at hw
  generalize KD K = kd at hw hs
  generalize D.ins 4 [L, AT arr, yt] = dd at hw
  have hk : isKey (.int (s : Int)) = true := rfl
  simp [hk, hw, hs, lim_le]
end Lw

set_option maxRecDepth 100000
set_option autoImplicit false
set_option linter.all false
namespace Lw
open E
theorem Ps7 : P_sure_word 7 = F_states_behind := by unfold P_sure_word; rfl
theorem mem_srt (l : List Int) (k : Int) : k ∈ sortI (dedup l) ↔ k ∈ l := by
  rw [(sortI_perm _).mem_iff, dedup_mem]
theorem in_yt (ys : List Nat) (k : Int) : inD (.int k) (YT ys) = .ok (decide (k ∈ ys.map fun (n : Nat) => (n : Int))) := by
  refine (in_intsT (ySrt ys) id k).trans ?_
  congr 1
  refine beq_iff ?_
  rw [List.any_eq_true, decide_eq_true_iff, ← mem_srt]
  constructor
  · rintro ⟨x, h1, h2⟩
    rw [beq_iff_eq] at h2
    exact h2 ▸ h1
  · intro h
    exact ⟨k, h, by simp⟩
theorem psure_ok (L : List Nat) (len : Nat) (hlen : len ≤ 100) (arr : List (List Nat)) (ys : List Nat) (h10 : arr.length ≤ 60) (hg : GoodA arr.length len arr ys) (s : Nat) (hs : s < arr.length) : F_sure_word [AU L arr ys, .int (s : Int)] = .ok (Wd arr ys s) := by
  obtain ⟨K, hl, hR, hb⟩ := behind_ok (.str L) (YT ys) len hlen arr ys h10 hg s hs
  have hfl : dFld 4 2 (AU L arr ys) = .ok (YT ys) := rfl
  change F_states_behind [AU L arr ys, .int (s : Int)] = _ at hb
  generalize hS : sortI (K.map fun (n : Nat) => (n : Int)) = S at hb
  have hSl : S.length ≤ 60 := by rw [← hS, (sortI_perm _).length_eq, List.length_map]; exact hl
  have hSm : ∀ k, k ∈ S ↔ k ∈ K.map fun (n : Nat) => (n : Int) := fun k => by rw [← hS, (sortI_perm _).mem_iff]
  have hw : ev P_sure_word sub fo_sure_word_1 [some (AU L arr ys), some (.int (s : Int)), none, none] = .ok (.lst (S.map fun k => D.bl (decide (k ∈ ys.map fun (n : Nat) => (n : Int))))) :=
    lcm_ok _ _ _ _ _ _ _ (.lst (S.map D.int)) S D.int _ (by
      generalize AU L arr ys = au at hb ⊢
      simp [Ps7, hb]) rfl (by omega) fun k _ => ⟨_, rfl, by
      have := in_yt ys k
      generalize AU L arr ys = au at hfl ⊢
      generalize YT ys = yt at hfl this
      simp only [ev_op, ev_var, ev_fld]
      simp [hfl, this, -List.mem_map]⟩
  have b1 := in_bools S (fun k => decide (k ∈ ys.map fun (n : Nat) => (n : Int))) false
  have b2 := in_bools S (fun k => decide (k ∈ ys.map fun (n : Nat) => (n : Int))) true
  have hmm : ∀ t : Nat, (t : Int) ∈ ys.map (fun (n : Nat) => (n : Int)) ↔ t ∈ ys := fun t => by
    rw [List.mem_map]
    constructor
    · rintro ⟨x, h1, h2⟩
      have : x = t := by omega
      exact this ▸ h1
    · intro h; exact ⟨t, h, rfl⟩
  have hK : ∀ k, k ∈ S ↔ ∃ t : Nat, Rch arr s t ∧ k = (t : Int) := fun k => by
    rw [hSm, List.mem_map]
    constructor
    · rintro ⟨t, h1, h2⟩; exact ⟨t, (hR t).2 h1, h2.symm⟩
    · rintro ⟨t, h1, h2⟩; exact ⟨t, (hR t).1 h1, h2.symm⟩
  have hW := wd_eq arr ys s (S.any fun k => decide (k ∈ ys.map fun (n : Nat) => (n : Int)) == false) (S.any fun k => decide (k ∈ ys.map fun (n : Nat) => (n : Int)) == true) (by
    rw [List.any_eq_true]
    constructor
    · rintro ⟨k, h1, h2⟩
      obtain ⟨t, q1, rfl⟩ := (hK k).1 h1
      refine ⟨t, q1, fun hc => ?_⟩
      rw [decide_eq_true ((hmm t).2 hc)] at h2
      cases h2
    · rintro ⟨t, h1, h2⟩
      refine ⟨(t : Int), (hK _).2 ⟨t, h1, rfl⟩, ?_⟩
      rw [decide_eq_false (fun hc => h2 ((hmm t).1 hc))]
      rfl) (by
    rw [List.any_eq_true]
    constructor
    · rintro ⟨k, h1, h2⟩
      obtain ⟨t, q1, rfl⟩ := (hK k).1 h1
      refine ⟨t, q1, (hmm t).1 (Classical.byContradiction fun hc => ?_)⟩
      rw [decide_eq_false hc] at h2
      cases h2
    · rintro ⟨t, h1, h2⟩
      refine ⟨(t : Int), (hK _).2 ⟨t, h1, rfl⟩, ?_⟩
      rw [decide_eq_true ((hmm t).2 h2)]
      rfl)
  rw [← hW]
  simp only [F_sure_word, run, b_sure_word]
  generalize (.lst (S.map fun k => D.bl (decide (k ∈ ys.map fun (n : Nat) => (n : Int)))) : D) = wd at hw b1 b2
  generalize (S.any fun k => decide (k ∈ ys.map fun (n : Nat) => (n : Int)) == false) = c1 at b1 ⊢
  generalize (S.any fun k => decide (k ∈ ys.map fun (n : Nat) => (n : Int)) == true) = c2 at b2 ⊢
  generalize fo_sure_word_1 = f1 at hw
  generalize AU L arr ys = au at hw ⊢
  cases c1 <;> cases c2 <;> simp [hw, b1, b2, lim_le]
/-! ### check_text -/
theorem ct_loop (L : List Nat) (b : D) : ∀ (t : List Nat) (i : Int) (x2 x3 : Option D), (∀ c ∈ t, c ∈ L) →
    ∃ y2 y3, forL (fun d e => omO (asg [2, 3] false d e) (evS P_check_text sub FUEL lb_check_text_1)) (enumD (t.map fun c => D.str [c]) i) [some (.str L), some b, x2, x3] = .nx [some (.str L), some b, y2, y3]
  | [], i, x2, x3, _ => ⟨x2, x3, by simp [enumD]⟩
  | c :: t, i, x2, x3, h => by
    obtain ⟨y2, y3, e⟩ := ct_loop L b t (i + 1) (some (.int i)) (some (.str [c])) (fun z hz => h z (List.mem_cons_of_mem _ hz))
    refine ⟨y2, y3, ?_⟩
    have hc := h c List.mem_cons_self
    have step : (fun d e => omO (asg [2, 3] false d e) (evS P_check_text sub FUEL lb_check_text_1)) (.tup [.int i, .str [c]]) [some (.str L), some b, x2, x3] = .nx [some (.str L), some b, some (.int i), some (.str [c])] := by
      simp [inS, hc]
    rw [List.map_cons, enumD, forL_nx step, e]
theorem ct_bad (L : List Nat) (b : D) (c : Nat) (r : List Nat) (hc : c ∉ L) : ∀ (t : List Nat) (i : Int) (x2 x3 : Option D), (∀ c ∈ t, c ∈ L) →
    ∃ e', forL (fun d e => omO (asg [2, 3] false d e) (evS P_check_text sub FUEL lb_check_text_1)) (enumD ((t ++ c :: r).map fun c => D.str [c]) i) [some (.str L), some b, x2, x3] = .ex e' 2 [.int (i + (t.length : Nat))]
  | [], i, x2, x3, _ => by
    have step : (fun d e => omO (asg [2, 3] false d e) (evS P_check_text sub FUEL lb_check_text_1)) (.tup [.int i, .str [c]]) [some (.str L), some b, x2, x3] = .ex [some (.str L), some b, some (.int i), some (.str [c])] 2 [.int i] := by
      simp [inS, hc]
    refine ⟨[some (.str L), some b, some (.int i), some (.str [c])], ?_⟩
    rw [List.nil_append, List.map_cons, enumD, forL_ex step, List.length_nil]
    simp
  | z :: t, i, x2, x3, h => by
    obtain ⟨e', e⟩ := ct_bad L b c r hc t (i + 1) (some (.int i)) (some (.str [z])) (fun z hz => h z (List.mem_cons_of_mem _ hz))
    refine ⟨e', ?_⟩
    have hc := h z List.mem_cons_self
    have step : (fun d e => omO (asg [2, 3] false d e) (evS P_check_text sub FUEL lb_check_text_1)) (.tup [.int i, .str [z]]) [some (.str L), some b, x2, x3] = .nx [some (.str L), some b, some (.int i), some (.str [z])] := by
      simp [inS, hc]
    rw [List.cons_append, List.map_cons, enumD, forL_nx step, e, List.length_cons]
    congr 3
    omega
theorem ct_for (L t : List Nat) : evS P_check_text sub FUEL fo_check_text_1 [some (.str L), some (.str t), none, none] = forL (fun d e => omO (asg [2, 3] false d e) (evS P_check_text sub FUEL lb_check_text_1)) (enumD (t.map fun c => D.str [c]) 0) [some (.str L), some (.str t), none, none] := by
  have h1 : biF .enum [.str t] = .ok (.lst (enumD (t.map fun c => D.str [c]) 0)) := rfl
  rw [evS_for]
  have h2 : ev P_check_text sub (.bi .enum (.cons (.var 1) .nil)) [some (.str L), some (.str t), none, none] = .ok (.lst (enumD (t.map fun c => D.str [c]) 0)) := by simp [h1]
  rw [h2, out_ok, items_l, omO_some]
theorem check_text_ok (L t : List Nat) (h : ∀ c ∈ t, c ∈ L) : F_check_text [.str L, .str t] = .ok .non := by
  obtain ⟨y2, y3, e⟩ := ct_loop L (.str t) t 0 none none h
  have hf := (ct_for L t).trans e
  simp only [F_check_text, run, b_check_text]
  generalize fo_check_text_1 = f at hf
  simp [hf]
theorem check_text_bad (L t r : List Nat) (c : Nat) (h : ∀ c ∈ t, c ∈ L) (hc : c ∉ L) : F_check_text [.str L, .str (t ++ c :: r)] = .err 2 [.int t.length] := by
  obtain ⟨e', e⟩ := ct_bad L (.str (t ++ c :: r)) c r hc t 0 none none h
  have hf := (ct_for L (t ++ c :: r)).trans e
  simp only [F_check_text, run, b_check_text]
  generalize fo_check_text_1 = f at hf
  simp [hf]
/-! ### the walk over a text -/
theorem findC_mem : ∀ (L : List Nat) (c : Nat), c ∈ L → ∃ i, findC c L = some i ∧ i < L.length
  | [], c, h => absurd h (by simp)
  | x :: r, c, h => by
    unfold findC
    by_cases hx : x = c
    · rw [if_pos hx]; exact ⟨0, rfl, by simp⟩
    · rw [if_neg hx]
      obtain ⟨i, h1, h2⟩ := findC_mem r c (by rcases List.mem_cons.1 h with z | z; exact absurd z.symm hx; exact z)
      exact ⟨i + 1, by rw [h1]; rfl, by simp; omega⟩
def nxt (arr : List (List Nat)) (L : List Nat) (s c : Nat) : Nat := (arr.getD s []).getD ((findC c L).getD 0) 0
def knw : D → Bool
  | .non => false
  | _ => true
theorem wd_is (arr : List (List Nat)) (ys : List Nat) (s : Nat) : dIs .non true (Wd arr ys s) = .ok (.bl (knw (Wd arr ys s))) := by
  unfold Wd
  split
  · rfl
  · split <;> rfl
theorem nxt_ok {arr : List (List Nat)} {ys L : List Nat} (hg : GoodA arr.length L.length arr ys) {s c : Nat} (hs : s < arr.length) (hc : c ∈ L) : nxt arr L s c < arr.length ∧ ∃ i, findC c L = some i ∧ (arr.getD s [])[i]? = some (nxt arr L s c) := by
  obtain ⟨i, h1, h2⟩ := findC_mem L c hc
  obtain ⟨r1, r2, r3⟩ := row_at hg rfl s hs
  have h3 : (arr.getD s [])[i]? = some (arr.getD s [])[i] := List.getElem?_eq_getElem (by omega)
  have h4 : nxt arr L s c = (arr.getD s [])[i] := by
    unfold nxt
    rw [h1, Option.getD_some, List.getD_eq_getElem?_getD (l := arr.getD s []), h3]
    rfl
  rw [h4]
  exact ⟨r2 _ (List.getElem_mem _), i, h1, h3⟩
noncomputable def ear (arr : List (List Nat)) (ys L : List Nat) : List Nat → Nat → Nat → Option Nat
  | [], _, _ => none
  | c :: t, s, i => if knw (Wd arr ys (nxt arr L s c)) = true then some i else ear arr ys L t (nxt arr L s c) (i + 1)
theorem Pe4 : P_earliest 4 = F_check_text := by unfold P_earliest; rfl
theorem Pe8 : P_earliest 8 = F_sure_word := by unfold P_earliest; rfl
theorem index_ok {c : Nat} {L : List Nat} {i : Nat} (h : findC c L = some i) : meth .index (.str L) [.str [c]] = .ok (.int (i : Int)) := by
  show om (findC c L) (fun i => Res.ok (D.int (i : Nat))) = _
  rw [h, om_some]
theorem ea_loop (x1 : Option D) (L : List Nat) (hL : L.length ≤ 3) (arr : List (List Nat)) (ys : List Nat) (h10 : arr.length ≤ 60) (hg : GoodA arr.length L.length arr ys) : ∀ (t : List Nat) (i s : Nat) (x3 x4 : Option D), (∀ c ∈ t, c ∈ L) → s < arr.length →
    (∃ j, ear arr ys L t s i = some j ∧ forL (fun d e => omO (asg [3, 4] false d e) (evS P_earliest sub FUEL lb_earliest_1)) (enumD (t.map fun c => D.str [c]) (i : Int)) [some (AU L arr ys), x1, some (.int (s : Int)), x3, x4] = .rt (.int (j : Int))) ∨
    (∃ y2 y3 y4, ear arr ys L t s i = none ∧ forL (fun d e => omO (asg [3, 4] false d e) (evS P_earliest sub FUEL lb_earliest_1)) (enumD (t.map fun c => D.str [c]) (i : Int)) [some (AU L arr ys), x1, some (.int (s : Int)), x3, x4] = .nx [some (AU L arr ys), x1, y2, y3, y4])
  | [], i, s, x3, x4, _, _ => .inr ⟨_, x3, x4, rfl, rfl⟩
  | c :: t, i, s, x3, x4, h, hs => by
    have hc := h c List.mem_cons_self
    obtain ⟨n1, k, n2, n3⟩ := nxt_ok hg hs hc
    have d1 : dFld 4 1 (AU L arr ys) = .ok (AT arr) := rfl
    have d0 : dFld 4 0 (AU L arr ys) = .ok (.str L) := rfl
    obtain ⟨r1, r2, r3⟩ := row_at hg rfl s hs
    have d2 : dIdx (AT arr) (.int (s : Int)) = .ok (TD (arr.getD s [])) := idx_t _ _ _ (by rw [List.getElem?_map, r1]; rfl)
    have d3 : dIdx (TD (arr.getD s [])) (.int (k : Int)) = .ok (.int (nxt arr L s c : Int)) := idx_t _ _ _ (by rw [List.getElem?_map, n3]; rfl)
    have d4 := index_ok n2
    have d5 := psure_ok L L.length (by omega) arr ys h10 hg _ n1
    have d6 := wd_is arr ys (nxt arr L s c)
    unfold ear
    generalize nxt arr L s c = s2 at *
    generalize Wd arr ys s2 = w at d5 d6 ⊢
    by_cases hk : knw w = true
    · refine .inl ⟨i, if_pos hk, ?_⟩
      rw [hk] at d6
      rw [List.map_cons, enumD]
      refine forL_rt ?_
      generalize AU L arr ys = au at *
      generalize AT arr = at_ at *
      generalize TD (arr.getD s []) = td at *
      simp [d0, d1, d2, d3, d4, d5, d6, Pe8, isStr_s]
    · have hk2 : knw w = false := by simpa using hk
      rw [hk2] at d6
      rw [if_neg hk]
      have step : (fun d e => omO (asg [3, 4] false d e) (evS P_earliest sub FUEL lb_earliest_1)) (.tup [.int (i : Int), .str [c]]) [some (AU L arr ys), x1, some (.int (s : Int)), x3, x4] = .nx [some (AU L arr ys), x1, some (.int (s2 : Int)), some (.int (i : Int)), some (.str [c])] := by
        generalize AU L arr ys = au at *
        generalize AT arr = at_ at *
        generalize TD (arr.getD s []) = td at *
        simp [d0, d1, d2, d3, d4, d5, d6, Pe8, isStr_s]
      rw [List.map_cons, enumD, forL_nx step]
      exact ea_loop x1 L hL arr ys h10 hg t (i + 1) s2 _ _ (fun z hz => h z (List.mem_cons_of_mem _ hz)) n1
theorem earliest_ok (L : List Nat) (hL : L.length ≤ 3) (arr : List (List Nat)) (ys : List Nat) (h1 : 1 ≤ arr.length) (h10 : arr.length ≤ 60) (hg : GoodA arr.length L.length arr ys) (t : List Nat) (ht : ∀ c ∈ t, c ∈ L) (hl : t.length ≤ 100000) :
    F_earliest [AU L arr ys, .str t] = .ok (.int (((ear arr ys L t 0 0).getD t.length : Nat) : Int)) := by
  have hc := check_text_ok L t ht
  have d0 : dFld 4 0 (AU L arr ys) = .ok (.str L) := rfl
  have hlen := len_s' (s := t) (by omega)
  have hf : ∀ o, forL (fun d e => omO (asg [3, 4] false d e) (evS P_earliest sub FUEL lb_earliest_1)) (enumD (t.map fun c => D.str [c]) ((0 : Nat) : Int)) [some (AU L arr ys), some (.str t), some (.int ((0 : Nat) : Int)), none, none] = o → evS P_earliest sub FUEL fo_earliest_1 [some (AU L arr ys), some (.str t), some (.int 0), none, none] = o := fun o ho => by
    have h1 : biF .enum [.str t] = .ok (.lst (enumD (t.map fun c => D.str [c]) 0)) := rfl
    rw [evS_for]
    have h2 : ev P_earliest sub (.bi .enum (.cons (.var 1) .nil)) [some (AU L arr ys), some (.str t), some (.int 0), none, none] = .ok (.lst (enumD (t.map fun c => D.str [c]) 0)) := by simp [h1]
    rw [h2, out_ok, items_l, omO_some]
    exact ho
  simp only [F_earliest, run, b_earliest]
  rcases ea_loop (some (.str t)) L hL arr ys h10 hg t 0 0 none none ht (by omega) with ⟨j, q1, q2⟩ | ⟨y2, y3, y4, q1, q2⟩
  · have := hf _ q2
    rw [q1]
    generalize fo_earliest_1 = f1 at this
    generalize AU L arr ys = au at *
    simp [Pe4, d0, hc, this]
  · have := hf _ q2
    rw [q1, Option.getD_none]
    generalize fo_earliest_1 = f1 at this
    generalize AU L arr ys = au at *
    generalize t.length = tl at hlen ⊢
    simp [Pe4, d0, hc, this, hlen]
theorem earliest_bad (L : List Nat) (arr : List (List Nat)) (ys : List Nat) (t r : List Nat) (c : Nat) (h : ∀ c ∈ t, c ∈ L) (hc : c ∉ L) : F_earliest [AU L arr ys, .str (t ++ c :: r)] = .err 2 [.int t.length] := by
  have hb := check_text_bad L t r c h hc
  have d0 : dFld 4 0 (AU L arr ys) = .ok (.str L) := rfl
  simp only [F_earliest, run, b_earliest]
  generalize fo_earliest_1 = f1
  generalize AU L arr ys = au at *
  generalize t ++ c :: r = tt at *
  simp [Pe4, d0, hb]
end Lw

set_option maxRecDepth 100000
set_option autoImplicit false
set_option linter.all false
namespace Lw
open E
/-! ### the law's walk -/
theorem Pl17 : P__law_earliest 17 = F__law_sure := by unfold P__law_earliest; rfl
theorem le_loop (L : List Nat) (hL : L.length ≤ 3) (arr : List (List Nat)) (ys : List Nat) (h10 : arr.length ≤ 60) (hg : GoodA arr.length L.length arr ys) (t : List Nat) (hl : t.length ≤ 100000) : ∀ (suf pre : List Nat) (s found : Nat) (x6 : Option D), t = pre ++ suf → (∀ c ∈ suf, c ∈ L) → s < arr.length → found ≤ t.length →
    ∃ s' y6, s' < arr.length ∧ forL (fun d e => omO (asg [6] true d e) (evS P__law_earliest sub FUEL lb__law_earliest_1)) ((List.range' pre.length suf.length).map fun (k : Nat) => D.int (k : Int)) [some (AD arr), some (ID ys), some (.str L), some (.str t), some (.int (s : Int)), some (.int (found : Int)), x6] =
      .nx [some (AD arr), some (ID ys), some (.str L), some (.str t), some (.int (s' : Int)), some (.int ((if found = t.length then (ear arr ys L suf s pre.length).getD t.length else found : Nat) : Int)), y6]
  | [], pre, s, found, x6, ht, _, hs, hf => ⟨s, x6, hs, by
    have : (if found = t.length then (ear arr ys L [] s pre.length).getD t.length else found) = found := by
      by_cases h : found = t.length
      · rw [if_pos h, ear, Option.getD_none, h]
      · rw [if_neg h]
    rw [this]
    rfl⟩
  | c :: suf, pre, s, found, x6, ht, h, hs, hf => by
    have hc := h c List.mem_cons_self
    obtain ⟨n1, k, n2, n3⟩ := nxt_ok hg hs hc
    obtain ⟨r1, r2, r3⟩ := row_at hg rfl s hs
    have hpl : pre.length < t.length := by rw [ht]; simp
    have d1 : dIdx (.str t) (.int (pre.length : Int)) = .ok (.str [c]) := idx_s t (lim_le (by omega)) _ _ (by rw [ht]; simp)
    have d2 : dIdx (AD arr) (.int (s : Int)) = .ok (ID (arr.getD s [])) := idx_l _ _ _ (by rw [List.getElem?_map, r1]; rfl)
    have d3 : dIdx (ID (arr.getD s [])) (.int (k : Int)) = .ok (.int (nxt arr L s c : Int)) := idx_l _ _ _ (by rw [List.getElem?_map, n3]; rfl)
    have d4 := index_ok n2
    have d5 := lsure_ok L.length arr ys (by omega) hg _ n1
    have d6 := wd_is arr ys (nxt arr L s c)
    have hlen := len_s' (s := t) (by omega)
    have ht2 : t = (pre ++ [c]) ++ suf := by rw [ht]; simp
    have hih := fun f hf2 => le_loop L hL arr ys h10 hg t hl suf (pre ++ [c]) (nxt arr L s c) f (some (.int (pre.length : Int))) ht2 (fun z hz => h z (List.mem_cons_of_mem _ hz)) n1 hf2
    rw [ear]
    rw [show (pre ++ [c]).length = pre.length + 1 by simp] at hih
    rw [List.length_cons, List.range'_succ, List.map_cons]
    generalize nxt arr L s c = s2 at *
    generalize hw : Wd arr ys s2 = w at d5 d6 ⊢
    by_cases hfl : found = t.length
    · rw [if_pos hfl]
      by_cases hk : knw w = true
      · rw [if_pos hk, Option.getD_some]
        obtain ⟨s', y6, q1, q2⟩ := hih pre.length (by omega)
        rw [if_neg (by omega)] at q2
        refine ⟨s', y6, q1, ?_⟩
        rw [hk] at d6
        have step : (fun d e => omO (asg [6] true d e) (evS P__law_earliest sub FUEL lb__law_earliest_1)) (.int (pre.length : Int)) [some (AD arr), some (ID ys), some (.str L), some (.str t), some (.int (s : Int)), some (.int (found : Int)), x6] = .nx [some (AD arr), some (ID ys), some (.str L), some (.str t), some (.int (s2 : Int)), some (.int (pre.length : Int)), some (.int (pre.length : Int))] := by
          subst hfl
          clear q2 hih
          generalize AD arr = da at *
          generalize ID ys = dy at *
          generalize ID (arr.getD s []) = dr at *
          generalize pre.length = p at *
          generalize t.length = tl at *
          simp [d1, d2, d3, d4, d5, d6, hlen, Pl17, isStr_s]
          omega
        rw [forL_nx step, q2]
      · have hk2 : knw w = false := by simpa using hk
        rw [if_neg hk]
        obtain ⟨s', y6, q1, q2⟩ := hih found hf
        rw [if_pos hfl] at q2
        refine ⟨s', y6, q1, ?_⟩
        rw [hk2] at d6
        have step : (fun d e => omO (asg [6] true d e) (evS P__law_earliest sub FUEL lb__law_earliest_1)) (.int (pre.length : Int)) [some (AD arr), some (ID ys), some (.str L), some (.str t), some (.int (s : Int)), some (.int (found : Int)), x6] = .nx [some (AD arr), some (ID ys), some (.str L), some (.str t), some (.int (s2 : Int)), some (.int (found : Int)), some (.int (pre.length : Int))] := by
          subst hfl
          clear q2 hih
          generalize AD arr = da at *
          generalize ID ys = dy at *
          generalize ID (arr.getD s []) = dr at *
          generalize pre.length = p at *
          generalize t.length = tl at *
          simp [d1, d2, d3, d4, d5, d6, hlen, Pl17, isStr_s]
        rw [forL_nx step, q2]
    · rw [if_neg hfl]
      obtain ⟨s', y6, q1, q2⟩ := hih found hf
      rw [if_neg hfl] at q2
      refine ⟨s', y6, q1, ?_⟩
      have step : (fun d e => omO (asg [6] true d e) (evS P__law_earliest sub FUEL lb__law_earliest_1)) (.int (pre.length : Int)) [some (AD arr), some (ID ys), some (.str L), some (.str t), some (.int (s : Int)), some (.int (found : Int)), x6] = .nx [some (AD arr), some (ID ys), some (.str L), some (.str t), some (.int (s2 : Int)), some (.int (found : Int)), some (.int (pre.length : Int))] := by
        clear q2 hih
        generalize AD arr = da at *
        generalize ID ys = dy at *
        generalize ID (arr.getD s []) = dr at *
        generalize pre.length = p at *
        generalize t.length = tl at *
        have hfl2 : ¬ (found : Int) = (tl : Int) := by omega
        simp [d1, d2, d3, d4, hlen, hfl2, isStr_s]
      rw [forL_nx step, q2]
theorem learliest_ok (L : List Nat) (hL : L.length ≤ 3) (arr : List (List Nat)) (ys : List Nat) (h1 : 1 ≤ arr.length) (h10 : arr.length ≤ 60) (hg : GoodA arr.length L.length arr ys) (t : List Nat) (ht : ∀ c ∈ t, c ∈ L) (hl : t.length ≤ 100000) :
    ∃ b, F__law_earliest [AD arr, ID ys, .str L, .str t] = .ok (.lst [.int (((ear arr ys L t 0 0).getD t.length : Nat) : Int), .bl b]) := by
  obtain ⟨s', y6, q1, q2⟩ := le_loop L hL arr ys h10 hg t hl t [] 0 t.length none rfl ht (by omega) (Nat.le_refl _)
  rw [if_pos rfl] at q2
  refine ⟨decide (s' ∈ ys), ?_⟩
  have hlen := len_s' (s := t) (by omega)
  have hin : inD (.int (s' : Int)) (ID ys) = .ok (decide (s' ∈ ys)) := (in_ints ys (fun (n : Nat) => (n : Int)) (s' : Int)).trans (by rw [any_in])
  have hf : evS P__law_earliest sub FUEL fo__law_earliest_1 [some (AD arr), some (ID ys), some (.str L), some (.str t), some (.int 0), some (.int (t.length : Int)), none] = .nx [some (AD arr), some (ID ys), some (.str L), some (.str t), some (.int (s' : Int)), some (.int (((ear arr ys L t 0 0).getD t.length : Nat) : Int)), y6] := by
    rw [evS_for]
    have hr := rng_n t.length (by omega)
    have h1 : ev P__law_earliest sub (.bi .rng1 (.cons (.bi .len (.cons (.var 3) .nil)) .nil)) [some (AD arr), some (ID ys), some (.str L), some (.str t), some (.int 0), some (.int (t.length : Int)), none] = .ok (.lst ((List.range' 0 t.length).map fun (k : Nat) => D.int (k : Int))) := by
      generalize (List.range' 0 t.length).map (fun (k : Nat) => D.int (k : Int)) = rr at hr
      generalize AD arr = da
      generalize ID ys = dy
      generalize t.length = tl at hlen hr ⊢
      simp [hlen, hr]
    rw [h1, out_ok, items_l, omO_some]
    exact q2
  simp only [F__law_earliest, run, b__law_earliest]
  generalize fo__law_earliest_1 = f1 at hf
  generalize (ear arr ys L t 0 0).getD t.length = res at hf ⊢
  generalize AD arr = da at *
  generalize ID ys = dy at *
  generalize t.length = tl at *
  simp [hlen, hf, hin, lim_le]
/-! ### the texts -/
abbrev SD (ts : List (List Nat)) : D := .lst (ts.map D.str)
theorem tx3 (x0 x1 x2 x3 : Option D) (t : List Nat) (ht : t.length ≤ 1000) : ∀ (L : List Nat) (g : List (List Nat)) (x6 : Option D), g.length + L.length ≤ 100000 →
    ∃ y6, forL (fun d e => omO (asg [6] true d e) (evS P__law_texts sub FUEL lb__law_texts_3)) (L.map fun c => D.str [c]) [x0, x1, x2, x3, some (SD g), some (.str t), x6] = .nx [x0, x1, x2, x3, some (SD (g ++ L.map fun c => t ++ [c])), some (.str t), y6]
  | [], g, x6, _ => ⟨x6, by simp⟩
  | c :: L, g, x6, h => by
    obtain ⟨y6, e⟩ := tx3 x0 x1 x2 x3 t ht L (g ++ [t ++ [c]]) (some (.str [c])) (by simp at h ⊢; omega)
    refine ⟨y6, ?_⟩
    have ha : dAdd (.str t) (.str [c]) = .ok (.str (t ++ [c])) := addS (by simp; omega)
    have step : (fun d e => omO (asg [6] true d e) (evS P__law_texts sub FUEL lb__law_texts_3)) (.str [c]) [x0, x1, x2, x3, some (SD g), some (.str t), x6] = .nx [x0, x1, x2, x3, some (SD (g ++ [t ++ [c]])), some (.str t), some (.str [c])] := by
      have hm : muF .append 4 (evL P__law_texts sub (.cons (.op .add (.var 5) (.var 6)) .nil)) [x0, x1, x2, x3, some (SD g), some (.str t), some (.str [c])] = .nx [x0, x1, x2, x3, some (SD (g ++ [t ++ [c]])), some (.str t), some (.str [c])] := by
        rw [mu_app (l := g.map D.str) (d := .str (t ++ [c])) rfl (by simp [ha]) (lim_lt (by simp at h ⊢; omega))]
        simp
      generalize SD g = dg at hm ⊢
      generalize SD (g ++ [t ++ [c]]) = dg2 at hm ⊢
      simp [hm]
    rw [List.map_cons, forL_nx step, e]
    simp
theorem tx2 (x1 x2 x3 : Option D) (L : List Nat) (hL : L.length ≤ 3) : ∀ (ts g : List (List Nat)) (x5 x6 : Option D), (∀ t ∈ ts, t.length ≤ 1000) → g.length + 3 * ts.length ≤ 50000 →
    ∃ y5 y6, forL (fun d e => omO (asg [5] true d e) (evS P__law_texts sub FUEL lb__law_texts_2)) (ts.map D.str) [some (.str L), x1, x2, x3, some (SD g), x5, x6] = .nx [some (.str L), x1, x2, x3, some (SD (g ++ ts.flatMap fun t => L.map fun c => t ++ [c])), y5, y6]
  | [], g, x5, x6, _, _ => ⟨x5, x6, by simp⟩
  | t :: ts, g, x5, x6, h, hg => by
    obtain ⟨z6, e1⟩ := tx3 (some (.str L)) x1 x2 x3 t (h t List.mem_cons_self) L g x6 (by simp at hg; omega)
    obtain ⟨y5, y6, e⟩ := tx2 x1 x2 x3 L hL ts (g ++ L.map fun c => t ++ [c]) (some (.str t)) z6 (fun z hz => h z (List.mem_cons_of_mem _ hz)) (by simp at hg ⊢; omega)
    refine ⟨y5, y6, ?_⟩
    have step : (fun d e => omO (asg [5] true d e) (evS P__law_texts sub FUEL lb__law_texts_2)) (.str t) [some (.str L), x1, x2, x3, some (SD g), x5, x6] = .nx [some (.str L), x1, x2, x3, some (SD (g ++ L.map fun c => t ++ [c])), some (.str t), z6] := by
      have hf : evS P__law_texts sub FUEL fo__law_texts_3 [some (.str L), x1, x2, x3, some (SD g), some (.str t), x6] = .nx [some (.str L), x1, x2, x3, some (SD (g ++ L.map fun c => t ++ [c])), some (.str t), z6] := by
        rw [evS_for, ev_var, look0, out_ok, items_s, omO_some]
        exact e1
      show omO (asg [5] true _ _) (evS P__law_texts sub FUEL (.seq fo__law_texts_3 .skip)) = _
      generalize fo__law_texts_3 = f3 at hf
      generalize SD g = dg at hf ⊢
      simp [hf]
    rw [List.map_cons, forL_nx step, e]
    simp
def allT (L : List Nat) : Nat → List (List Nat)
  | 0 => [[]]
  | n + 1 => (allT L n).flatMap fun t => L.map fun c => t ++ [c]
theorem allT_mem (L : List Nat) : ∀ (n : Nat), ∀ t ∈ allT L n, t.length = n ∧ ∀ c ∈ t, c ∈ L
  | 0, t, h => by
    rw [List.mem_singleton.1 h]
    simp
  | n + 1, t, h => by
    obtain ⟨u, h1, h2⟩ := List.mem_flatMap.1 h
    obtain ⟨c, h3, rfl⟩ := List.mem_map.1 h2
    obtain ⟨q1, q2⟩ := allT_mem L n u h1
    refine ⟨by simp [q1], fun z hz => ?_⟩
    rcases List.mem_append.1 hz with k | k
    · exact q2 z k
    · rw [List.mem_singleton.1 k]; exact h3
theorem flatMap_len {α β : Type} (f : α → List β) (k : Nat) : ∀ l : List α, (∀ a ∈ l, (f a).length = k) → (l.flatMap f).length = l.length * k
  | [], _ => by simp
  | a :: l, h => by
    rw [List.flatMap_cons, List.length_append, h a List.mem_cons_self, flatMap_len f k l (fun x hx => h x (List.mem_cons_of_mem _ hx)), List.length_cons, Nat.add_mul]
    omega
theorem allT_len (L : List Nat) (hL : L.length ≤ 3) : ∀ n, (allT L n).length ≤ 3 ^ n
  | 0 => by simp [allT]
  | n + 1 => by
    rw [allT, flatMap_len _ L.length _ (by simp), Nat.pow_succ]
    exact Nat.mul_le_mul (allT_len L hL n) hL
theorem tx1 (x1 : Option D) (L : List Nat) (hL : L.length ≤ 3) : ∀ (m i : Nat) (x3 x4 x5 x6 : Option D), i + m ≤ 8 →
    ∃ y3 y4 y5 y6, forL (fun d e => omO (asg [3] true d e) (evS P__law_texts sub FUEL lb__law_texts_1)) ((List.range' i m).map fun (k : Nat) => D.int (k : Int)) [some (.str L), x1, some (SD (allT L i)), x3, x4, x5, x6] = .nx [some (.str L), x1, some (SD (allT L (i + m))), y3, y4, y5, y6]
  | 0, i, x3, x4, x5, x6, _ => ⟨x3, x4, x5, x6, rfl⟩
  | m + 1, i, x3, x4, x5, x6, h => by
    have hl : (allT L i).length ≤ 3 ^ 8 := Nat.le_trans (allT_len L hL i) (Nat.pow_le_pow_right (by omega) (by omega))
    obtain ⟨z5, z6, e1⟩ := tx2 x1 (some (SD (allT L i))) (some (.int (i : Int))) L hL (allT L i) [] x5 x6 (fun t ht => by have := (allT_mem L i t ht).1; omega) (by simp; omega)
    rw [List.nil_append] at e1
    obtain ⟨y3, y4, y5, y6, e⟩ := tx1 x1 L hL m (i + 1) (some (.int (i : Int))) (some (SD (allT L (i + 1)))) z5 z6 (by omega)
    refine ⟨y3, y4, y5, y6, ?_⟩
    have step : (fun d e => omO (asg [3] true d e) (evS P__law_texts sub FUEL lb__law_texts_1)) (.int (i : Int)) [some (.str L), x1, some (SD (allT L i)), x3, x4, x5, x6] = .nx [some (.str L), x1, some (SD (allT L (i + 1))), some (.int (i : Int)), some (SD (allT L (i + 1))), z5, z6] := by
      have hf : evS P__law_texts sub FUEL fo__law_texts_2 [some (.str L), x1, some (SD (allT L i)), some (.int (i : Int)), some (.lst []), x5, x6] = .nx [some (.str L), x1, some (SD (allT L i)), some (.int (i : Int)), some (SD (allT L (i + 1))), z5, z6] := by
        rw [evS_for, ev_var, show look 2 [some (D.str L), x1, some (SD (allT L i)), some (D.int (i : Int)), some (.lst []), x5, x6] = .ok (SD (allT L i)) from rfl, out_ok, items_l, omO_some]
        exact e1
      show omO (asg [3] true _ _) (evS P__law_texts sub FUEL (.seq (.own 4 (.lst .nil)) (.seq fo__law_texts_2 (.seq (.frz 4 (.asg [2] true (.var 4))) .skip)))) = _
      generalize fo__law_texts_2 = f3 at hf
      generalize SD (allT L i) = dg at hf ⊢
      generalize SD (allT L (i + 1)) = dg2 at hf ⊢
      simp [hf, lim_le]
    rw [List.range'_succ, List.map_cons, forL_nx step, e, show i + (m + 1) = i + 1 + m by omega]
theorem texts_ok (L : List Nat) (hL : L.length ≤ 3) (n : Nat) (hn : n ≤ 8) : F__law_texts [.str L, .int (n : Int)] = .ok (SD (allT L n)) := by
  obtain ⟨y3, y4, y5, y6, e⟩ := tx1 (some (.int (n : Int))) L hL n 0 none none none none (by omega)
  have hf : evS P__law_texts sub FUEL fo__law_texts_1 [some (.str L), some (.int (n : Int)), some (.lst [.str []]), none, none, none, none] = .nx [some (.str L), some (.int (n : Int)), some (SD (allT L n)), y3, y4, y5, y6] := by
    rw [evS_for]
    have hr := rng_n n (by omega)
    have h1 : ev P__law_texts sub (.bi .rng1 (.cons (.var 1) .nil)) [some (.str L), some (.int (n : Int)), some (.lst [.str []]), none, none, none, none] = .ok (.lst ((List.range' 0 n).map fun (k : Nat) => D.int (k : Int))) := by
      generalize (List.range' 0 n).map (fun (k : Nat) => D.int (k : Int)) = rr at hr
      simp [hr]
    rw [h1, out_ok, items_l, omO_some]
    rw [Nat.zero_add] at e
    exact e
  simp only [F__law_texts, run, b__law_texts]
  generalize fo__law_texts_1 = f1 at hf
  generalize SD (allT L n) = dg at hf ⊢
  simp [hf, lim_le]
end Lw

set_option maxRecDepth 100000
set_option autoImplicit false
set_option linter.all false
namespace Lw
open E
theorem Pf9 : P__law_refused 9 = F_earliest := by unfold P__law_refused; rfl
theorem Pf10 : P__law_refused 10 = F__law_whole := by unfold P__law_refused; rfl
theorem lwhole (i : Int) : F__law_whole [.int i] = .ok (.bl true) := rfl
theorem sub20 : sub 2 0 = some true := rfl
theorem sub22 : sub 2 2 = some true := rfl
theorem refused_ok (L : List Nat) (arr : List (List Nat)) (ys : List Nat) (t r : List Nat) (c : Nat) (h : ∀ c ∈ t, c ∈ L) (hc : c ∉ L) : F__law_refused [AU L arr ys, .str (t ++ c :: r), .int (t.length : Int)] = .ok (.bl true) := by
  have hb := earliest_bad L arr ys t r c h hc
  simp only [F__law_refused, run, b__law_refused]
  generalize AU L arr ys = au at *
  generalize t ++ c :: r = tt at *
  generalize t.length = n at *
  simp [hb, Pf9, Pf10, lwhole, tryF, hdStep, sub20, sub22, efldF, eisiF]
theorem Pl9 : P_law 9 = F_earliest := by unfold P_law; rfl
theorem Pl10 : P_law 10 = F__law_whole := by unfold P_law; rfl
theorem Pl11 : P_law 11 = F__law_cell := by unfold P_law; rfl
theorem Pl12 : P_law 12 = F__law_digits := by unfold P_law; rfl
theorem Pl13 : P_law 13 = F__law_letters := by unfold P_law; rfl
theorem Pl14 : P_law 14 = F__law_long_text := by unfold P_law; rfl
theorem Pl15 : P_law 15 = F__law_texts := by unfold P_law; rfl
theorem Pl16 : P_law 16 = F__law_automaton := by unfold P_law; rfl
theorem Pl18 : P_law 18 = F__law_earliest := by unfold P_law; rfl
theorem Pl19 : P_law 19 = F__law_refused := by unfold P_law; rfl
theorem Pl1004 : P_law 1004 = F_Automaton := by unfold P_law; rfl
theorem step1 (ns : List Int) (hns : ns.length ≤ 63) (L : List Nat) (hL : GoodL L) (told au sh : D) (k n : Nat) (hk : k ≤ 100) (g : dIdx sh (.int (k : Int)) = .ok (.int (n : Int))) (hn : n ≤ 1000) (ts : List (List Nat)) (hts : ts.length ≤ 1000) (x6 x7 x8 : Option D) :
    ∃ t : List Nat, (∀ c ∈ t, c ∈ L) ∧ t.length = n ∧ (fun d e => omO (asg [6] true d e) (evS P_law sub FUEL lb_law_1)) (.int (k : Int)) [some (.scr ns), some (.str L), some told, some au, some sh, some (SD ts), x6, x7, x8] =
      .nx [some (.scr ns), some (.str L), some told, some au, some sh, some (SD (ts ++ [t])), some (.int (k : Int)), x7, x8] := by
  obtain ⟨v, _, hv⟩ := cell_ok ns hns (4 + k) (by omega)
  obtain ⟨t, t1, t2, t3⟩ := long_ok L v n (by have := hL.l1; omega) (by have := hL.l3; omega) (by omega)
  refine ⟨t, t2, t1, ?_⟩
  have e1 : (4 : Int) + (k : Int) = ((4 + k : Nat) : Int) := by omega
  have hm : muF .append 5 (evL P_law sub (.cons (.call 14 [95, 108, 97, 119, 95, 108, 111, 110, 103, 95, 116, 101, 120, 116] (.cons (.var 1) (.cons (.call 11 [95, 108, 97, 119, 95, 99, 101, 108, 108] (.cons (.var 0) (.cons (.op .add (.int 4) (.var 6)) .nil))) (.cons (.idx (.var 4) (.var 6)) .nil)))) .nil)) [some (.scr ns), some (.str L), some told, some au, some sh, some (SD ts), some (.int (k : Int)), x7, x8] =
      .nx [some (.scr ns), some (.str L), some told, some au, some sh, some (SD (ts ++ [t])), some (.int (k : Int)), x7, x8] := by
    rw [mu_app (l := ts.map D.str) (d := .str t) rfl (by
      generalize SD ts = dt
      generalize ((4 + k : Nat) : Int) = k4 at e1 hv
      simp [Pl14, Pl11, e1, hv, g, t3]) (lim_lt (by simp; omega))]
    simp
  generalize SD ts = dt at hm ⊢
  generalize SD (ts ++ [t]) = dt2 at hm ⊢
  simp only [asg1, omO_some, evS_seq, evS_mu, evS_skip, List.set_cons_succ, List.set_cons_zero]
  rw [hm, bindO_nx, evS_skip]
theorem step2 (ns : List Int) (L : List Nat) (hL : GoodL L) (arr : List (List Nat)) (ys : List Nat) (h1 : 1 ≤ arr.length) (h10 : arr.length ≤ 10) (hg : GoodA arr.length L.length arr ys) (sh txs : D) (x6 x7 x8 : Option D) (t : List Nat) (ht : ∀ c ∈ t, c ∈ L) (hl : t.length ≤ 1000) :
    ∃ y8, (fun d e => omO (asg [7] true d e) (evS P_law sub FUEL lb_law_2)) (.str t) [some (.scr ns), some (.str L), some (.lst [AD arr, ID ys]), some (AU L arr ys), some sh, some txs, x6, x7, x8] =
      .nx [some (.scr ns), some (.str L), some (.lst [AD arr, ID ys]), some (AU L arr ys), some sh, some txs, x6, some (.str t), y8] := by
  obtain ⟨b, e1⟩ := learliest_ok L hL.l3 arr ys h1 (by omega) hg t ht (by omega)
  have e2 := earliest_ok L hL.l3 arr ys h1 (by omega) hg t ht (by omega)
  have g0 : dIdx (.lst [AD arr, ID ys]) (.int 0) = .ok (AD arr) := rfl
  have g1 : dIdx (.lst [AD arr, ID ys]) (.int 1) = .ok (ID ys) := rfl
  have g2 : ∀ a c : D, dIdx (.lst [a, c]) (.int 0) = .ok a := fun _ _ => rfl
  refine ⟨some (.int (((ear arr ys L t 0 0).getD t.length : Nat) : Int)), ?_⟩
  generalize (ear arr ys L t 0 0).getD t.length = r at *
  generalize D.lst [AD arr, ID ys] = told at *
  generalize AD arr = da at *
  generalize ID ys = dy at *
  generalize AU L arr ys = au at *
  simp [Pl18, Pl9, Pl10, g0, g1, g2, e1, e2, lwhole]
theorem law_true : ∀ ns : List Int, ns.length ≤ 63 → Lw.F_law [.scr ns] = .ok (.bl true) := by
  intro ns hns
  obtain ⟨v0, _, c0⟩ := cell_ok ns hns 0 (by omega)
  obtain ⟨ds, hb, hdig⟩ := digits_ok v0 [8, 8, 8, 8] (by simp) (by simp)
  match ds, hb with
  | [a0, a1, a2, a3], ⟨h0, h1, h2, h3, _⟩ =>
  obtain ⟨n0, rfl⟩ := Int.eq_ofNat_of_zero_le h0.1
  obtain ⟨n1, rfl⟩ := Int.eq_ofNat_of_zero_le h1.1
  obtain ⟨n2, rfl⟩ := Int.eq_ofNat_of_zero_le h2.1
  obtain ⟨n3, rfl⟩ := Int.eq_ofNat_of_zero_le h3.1
  obtain ⟨L, hL, hlet⟩ := letters_ok n0 n1 n2 n3 (by omega) (by omega) (by omega)
  obtain ⟨arr, ys, q1, q2, q3, q4, hau⟩ := auto_ok ns hns 1 (by omega) L hL
  have hnew := auto_new L hL arr ys q1 q2 q3 q4
  obtain ⟨v3, _, c3⟩ := cell_ok ns hns 3 (by omega)
  obtain ⟨ds3, hb3, hdig3⟩ := digits_ok v3 [13, 13, 401, 9, 9] (by simp) (by simp)
  match ds3, hb3 with
  | [b0, b1, b2, b3, b4], ⟨k0, k1, k2, k3, k4, _⟩ =>
  obtain ⟨m0, rfl⟩ := Int.eq_ofNat_of_zero_le k0.1
  obtain ⟨m1, rfl⟩ := Int.eq_ofNat_of_zero_le k1.1
  obtain ⟨m2, rfl⟩ := Int.eq_ofNat_of_zero_le k2.1
  obtain ⟨m3, rfl⟩ := Int.eq_ofNat_of_zero_le k3.1
  obtain ⟨m4, rfl⟩ := Int.eq_ofNat_of_zero_le k4.1
  obtain ⟨sh, hsh⟩ : ∃ sh, sh = D.lst [.int (m0 : Int), .int (m1 : Int), .int (m2 : Int), .int (m3 : Int), .int (m4 : Int)] := ⟨_, rfl⟩
  have g0 : dIdx sh (.int ((0 : Nat) : Int)) = .ok (.int (m0 : Int)) := by rw [hsh]; rfl
  have g1 : dIdx sh (.int ((1 : Nat) : Int)) = .ok (.int (m1 : Int)) := by rw [hsh]; rfl
  have g2 : dIdx sh (.int ((2 : Nat) : Int)) = .ok (.int (m2 : Int)) := by rw [hsh]; rfl
  have g3 : dIdx sh (.int 3) = .ok (.int (m3 : Int)) := by rw [hsh]; rfl
  have g4 : dIdx sh (.int 4) = .ok (.int (m4 : Int)) := by rw [hsh]; rfl
  have hdig3' : F__law_digits [.int v3, .lst [.int 13, .int 13, .int 401, .int 9, .int 9]] = .ok sh := by rw [hsh]; exact hdig3
  have hdig' : F__law_digits [.int v0, .lst [.int 8, .int 8, .int 8, .int 8]] = .ok (.lst [.int (n0 : Int), .int (n1 : Int), .int (n2 : Int), .int (n3 : Int)]) := hdig
  have hL3 := hL.l3
  have tx1 := texts_ok L hL.l3 1 (by omega)
  have tx2 := texts_ok L hL.l3 2 (by omega)
  have al1 := allT_len L hL.l3 1
  have al2 := allT_len L hL.l3 2
  obtain ⟨told, htold⟩ : ∃ told, told = D.lst [AD arr, ID ys] := ⟨_, rfl⟩
  obtain ⟨ts, hts⟩ : ∃ ts : List (List Nat), ts = [[]] ++ allT L 1 ++ allT L 2 := ⟨_, rfl⟩
  have htsl : ts.length ≤ 100 := by rw [hts]; simp; omega
  have htsm : ∀ t ∈ ts, (∀ c ∈ t, c ∈ L) ∧ t.length ≤ 1000 := fun t ht => by
    rw [hts] at ht
    rcases List.mem_append.1 ht with z | z
    · rcases List.mem_append.1 z with z | z
      · rw [List.mem_singleton.1 z]; simp
      · have := allT_mem L 1 t z
        exact ⟨this.2, by omega⟩
    · have := allT_mem L 2 t z
      exact ⟨this.2, by omega⟩
  have hadd1 : dAdd (.lst [.str []]) (SD (allT L 1)) = .ok (.lst ([D.str []] ++ (allT L 1).map D.str)) := addL (by simp; omega)
  have hadd2 : dAdd (.lst ([D.str []] ++ (allT L 1).map D.str)) (SD (allT L 2)) = .ok (SD ts) := by
    rw [hts]
    refine (addL (by simp; omega)).trans ?_
    simp [SD]
  obtain ⟨t0, t0a, t0b, s0⟩ := step1 ns hns L hL told (AU L arr ys) sh 0 m0 (by omega) g0 (by omega) ts (by omega) none none none
  obtain ⟨t1, t1a, t1b, s1⟩ := step1 ns hns L hL told (AU L arr ys) sh 1 m1 (by omega) g1 (by omega) (ts ++ [t0]) (by simp; omega) (some (.int ((0 : Nat) : Int))) none none
  obtain ⟨t2, t2a, t2b, s2⟩ := step1 ns hns L hL told (AU L arr ys) sh 2 m2 (by omega) g2 (by omega) (ts ++ [t0] ++ [t1]) (by simp; omega) (some (.int ((1 : Nat) : Int))) none none
  obtain ⟨TS, hTS⟩ : ∃ TS : List (List Nat), TS = ts ++ [t0] ++ [t1] ++ [t2] := ⟨_, rfl⟩
  have hTSm : ∀ t ∈ TS, (∀ c ∈ t, c ∈ L) ∧ t.length ≤ 1000 := fun t ht => by
    rw [hTS] at ht
    simp only [List.mem_append, List.mem_singleton] at ht
    rcases ht with ((z | rfl) | rfl) | rfl
    · exact htsm t z
    · exact ⟨t0a, by omega⟩
    · exact ⟨t1a, by omega⟩
    · exact ⟨t2a, by omega⟩
  have hl1 : evS P_law sub FUEL fo_law_1 [some (.scr ns), some (.str L), some told, some (AU L arr ys), some sh, some (SD ts), none, none, none] = .nx [some (.scr ns), some (.str L), some told, some (AU L arr ys), some sh, some (SD TS), some (.int 2), none, none] := by
    rw [evS_for, show ev P_law sub (.bi .rng1 (.cons (.int 3) .nil)) [some (.scr ns), some (.str L), some told, some (AU L arr ys), some sh, some (SD ts), none, none, none] = .ok (.lst [.int ((0 : Nat) : Int), .int ((1 : Nat) : Int), .int ((2 : Nat) : Int)]) by rw [ev_bi, evL_cons, ev_int, bd_ok, evL_nil, bd_ok, bd_ok]; rfl, out_ok, items_l, omO_some, forL_nx s0, forL_nx s1, forL_nx s2, forL_nil, hTS]
    rfl
  obtain ⟨e', hl2, y7, y8, he'⟩ := forL_inv (fun d e => omO (asg [7] true d e) (evS P_law sub FUEL lb_law_2)) (fun e => ∃ y7 y8, e = [some (.scr ns), some (.str L), some told, some (AU L arr ys), some sh, some (SD TS), some (.int 2), y7, y8]) (TS.map D.str) (by
    intro d hd e he
    obtain ⟨t, ht, rfl⟩ := List.mem_map.1 hd
    obtain ⟨y7, y8, rfl⟩ := he
    obtain ⟨z8, hz⟩ := step2 ns L hL arr ys q1 q2 q3 sh (SD TS) (some (.int 2)) y7 y8 t (hTSm t ht).1 (hTSm t ht).2
    rw [← htold] at hz
    exact ⟨_, hz, _, _, rfl⟩) _ ⟨none, none, rfl⟩
  subst he'
  have hl2' : evS P_law sub FUEL fo_law_2 [some (.scr ns), some (.str L), some told, some (AU L arr ys), some sh, some (SD TS), some (.int 2), none, none] = .nx [some (.scr ns), some (.str L), some told, some (AU L arr ys), some sh, some (SD TS), some (.int 2), y7, y8] := by
    rw [evS_for, ev_var, show look 5 [some (D.scr ns), some (.str L), some told, some (AU L arr ys), some sh, some (SD TS), some (.int 2), none, none] = .ok (SD TS) from rfl, out_ok, items_l, omO_some]
    exact hl2
  obtain ⟨v7, _, c7⟩ := cell_ok ns hns 7 (by omega)
  obtain ⟨v8, _, c8⟩ := cell_ok ns hns 8 (by omega)
  obtain ⟨u, u1, u2, u3⟩ := long_ok L v7 m3 (by have := hL.l1; omega) (by omega) (by omega)
  obtain ⟨w, w1, w2, w3⟩ := long_ok L v8 m4 (by have := hL.l1; omega) (by omega) (by omega)
  have ha1 : dAdd (.str u) (.str [65]) = .ok (.str (u ++ [65])) := addS (by simp; omega)
  have ha2 : dAdd (.str (u ++ [65])) (.str w) = .ok (.str (u ++ 65 :: w)) := by
    refine (addS (by simp; omega)).trans ?_
    simp
  have href := refused_ok L arr ys u w 65 u2 (fun hc => by have := hL.az 65 hc; omega)
  rw [u1] at href
  have gt0 : dIdx told (.int 0) = .ok (AD arr) := by rw [htold]; rfl
  have gt1 : dIdx told (.int 1) = .ok (ID ys) := by rw [htold]; rfl
  rw [← htold] at hau
  simp only [Int.natCast_zero, Int.natCast_one] at c0 hau
  have c3' : F__law_cell [.scr ns, .int 3] = .ok (.int v3) := c3
  have c7' : F__law_cell [.scr ns, .int 7] = .ok (.int v7) := c7
  have c8' : F__law_cell [.scr ns, .int 8] = .ok (.int v8) := c8
  have tx1' : F__law_texts [.str L, .int 1] = .ok (SD (allT L 1)) := tx1
  have tx2' : F__law_texts [.str L, .int 2] = .ok (SD (allT L 2)) := tx2
  clear s0 s1 s2 hl2 hTSm htsm hTS hts htold hsh hdig hdig3 c3 c7 c8 tx1 tx2
  simp only [F_law, run, b_law]
  generalize fo_law_1 = f1 at hl1
  generalize fo_law_2 = f2 at hl2'
  generalize SD TS = dTS at *
  have hon : onlyL (SD ts) = .ok (SD ts) := rfl
  generalize SD ts = dts at *
  generalize (D.lst ([D.str []] ++ (allT L 1).map D.str)) = dt3 at *
  generalize SD (allT L 1) = dt1 at *
  generalize SD (allT L 2) = dt2 at *
  generalize AU L arr ys = au at *
  generalize AD arr = da at *
  generalize ID ys = dy at *
  generalize u ++ 65 :: w = uw at *
  generalize u ++ [65] = ua at *
  generalize D.lst [.int (n0 : Int), .int (n1 : Int), .int (n2 : Int), .int (n3 : Int)] = dn at *
  simp [Pl11, Pl12, Pl13, Pl14, Pl15, Pl16, Pl19, Pl1004, c0, hdig', hlet, hau, gt0, gt1, hnew, c3', hdig3', tx1', tx2', hadd1, hadd2, hl1, hl2', c7', c8', g3, g4, u3, w3, ha1, ha2, href, hon, lim_le]
end Lw

open PySem PySem.W PyProof.Rows
set_option maxRecDepth 100000 in
set_option maxHeartbeats 0 in
theorem PySem.Challenge.cw_straightclock_k65_earliest_holds : PySem.Challenge.rw_straightclock_k65_earliest.Holds := by
  w_on; o_law; k_head; (case hw => w_witness2)
  k_fill
  refine L2.walk_of (l := PySem.Challenge.rw_straightclock_k65_earliest) (n := 63) (k := 8) (x := "script") (CX := fun w => L2N.CX PySem.Challenge.rw_straightclock_k65_earliest.prog w) (sp := fun w => E.spLaw _) rfl (by decide) rfl ⟨rfl, by decide, by decide⟩ (fun w h Y => PySem.W.kIn_of Y) ?F (fun _ _ a ns hl _ hS => ⟨a, ns, rfl, hS, hl, fun _ => rfl⟩) (fun _ _ _ _ _ ⟨_, _, _, _, _, _, _, _, _, _, _, _, h⟩ => h)
  case F =>
    intro w mg fa h KX G hmg
    refine' Lw.all_mk KX G hmg ?z_len ?z_int ?z_min ?z_max ?z_sum ?z_sorted ?z_str ?z_tuple ?z_list ?z_all ?z_any ?z_range ?z_enumerate ?z_zip ?z_reversed ?z_abs ?z_bool ?z_isinstance ?z_set ?z_dict ?a_ClockError ?a_BadLetters ?a_BadText ?a_BadAutomaton ?a_Automaton ?x_BadLetters ?rv_BadLetters ?sa_BadLetters ?ga_BadLetters ?gg_BadLetters ?cc_BadLetters ?mo_BadLetters ?kc_BadLetters ?hd_BadLetters ?se_BadLetters ?ii_BadLetters ?ti_BadLetters ?li_BadLetters ?ci_BadLetters ?ki_BadLetters ?n_BadLetters_letters ?s_BadLetters_ClockError ?s_BadLetters_BadText ?x_BadText ?rv_BadText ?sa_BadText ?ga_BadText ?gg_BadText ?cc_BadText ?mo_BadText ?kc_BadText ?hd_BadText ?se_BadText ?ii_BadText ?ti_BadText ?li_BadText ?ci_BadText ?ki_BadText ?n_BadText_index ?s_BadText_ClockError ?x_BadAutomaton ?rv_BadAutomaton ?sa_BadAutomaton ?ga_BadAutomaton ?gg_BadAutomaton ?cc_BadAutomaton ?mo_BadAutomaton ?kc_BadAutomaton ?hd_BadAutomaton ?se_BadAutomaton ?ii_BadAutomaton ?ti_BadAutomaton ?li_BadAutomaton ?ci_BadAutomaton ?ki_BadAutomaton ?n_BadAutomaton_state ?s_BadAutomaton_ClockError ?s_BadAutomaton_BadText ?be_ClockError ?ty_ClockError ?ic_ClockError ?be_BadLetters ?ty_BadLetters ?ic_BadLetters ?be_BadText ?ty_BadText ?ic_BadText ?be_BadAutomaton ?ty_BadAutomaton ?ic_BadAutomaton ?sp_cls ?tk_cls ?a_ALPHABET ?pg_Automaton ?hd_Automaton ?po_Automaton ?sa_Automaton ?mk_Automaton ?ii_Automaton ?fn_Automaton ?kc_Automaton ?li_Automaton ?ci_Automaton ?ki_Automaton ?n_Automaton_letters ?n_Automaton_arrows ?n_Automaton_yes ?a_frozen ?l_frozen ?cd_frozen_ ?k_frozen ?a_is_whole ?l_is_whole ?cd_is_whole_ ?k_is_whole ?a_are_letters ?l_are_letters ?cd_are_letters_ ?k_are_letters ?a_check_letters ?l_check_letters ?cd_check_letters_ ?k_check_letters ?a_check_text ?l_check_text ?cd_check_text_ ?k_check_text ?a_is_number_below ?l_is_number_below ?cd_is_number_below_ ?k_is_number_below ?a_is_arrow_row ?l_is_arrow_row ?cd_is_arrow_row_ ?k_is_arrow_row ?a_states_behind ?l_states_behind ?cd_states_behind_ ?k_states_behind ?a_sure_word ?l_sure_word ?cd_sure_word_ ?k_sure_word ?a_earliest ?l_earliest ?cd_earliest_ ?k_earliest ?a__law_whole ?l__law_whole ?cd__law_whole_ ?k__law_whole ?a__law_cell ?l__law_cell ?cd__law_cell_ ?k__law_cell ?a__law_digits ?l__law_digits ?cd__law_digits_ ?k__law_digits ?a__law_letters ?l__law_letters ?cd__law_letters_ ?k__law_letters ?a__law_long_text ?l__law_long_text ?cd__law_long_text_ ?k__law_long_text ?a__law_texts ?l__law_texts ?cd__law_texts_ ?k__law_texts ?a__law_automaton ?l__law_automaton ?cd__law_automaton_ ?k__law_automaton ?a__law_sure ?l__law_sure ?cd__law_sure_ ?k__law_sure ?a__law_earliest ?l__law_earliest ?cd__law_earliest_ ?k__law_earliest ?a__law_refused ?l__law_refused ?cd__law_refused_ ?k__law_refused ?a_law ?l_law ?cd_law_ ?k_law Lw.law_true
    (case z_len => first | k_is | rfl | decide +kernel)
    (case z_int => first | k_is | rfl | decide +kernel)
    (case z_min => first | k_is | rfl | decide +kernel)
    (case z_max => first | k_is | rfl | decide +kernel)
    (case z_sum => first | k_is | rfl | decide +kernel)
    (case z_sorted => first | k_is | rfl | decide +kernel)
    (case z_str => first | k_is | rfl | decide +kernel)
    (case z_tuple => first | k_is | rfl | decide +kernel)
    (case z_list => first | k_is | rfl | decide +kernel)
    (case z_all => first | k_is | rfl | decide +kernel)
    (case z_any => first | k_is | rfl | decide +kernel)
    (case z_range => first | k_is | rfl | decide +kernel)
    (case z_enumerate => first | k_is | rfl | decide +kernel)
    (case z_zip => first | k_is | rfl | decide +kernel)
    (case z_reversed => first | k_is | rfl | decide +kernel)
    (case z_abs => first | k_is | rfl | decide +kernel)
    (case z_bool => first | k_is | rfl | decide +kernel)
    (case z_isinstance => first | k_is | rfl | decide +kernel)
    (case z_set => first | k_is | rfl | decide +kernel)
    (case z_dict => first | k_is | rfl | decide +kernel)
    (case a_ClockError => first | k_is | rfl | decide +kernel)
    (case a_BadLetters => first | k_is | rfl | decide +kernel)
    (case a_BadText => first | k_is | rfl | decide +kernel)
    (case a_BadAutomaton => first | k_is | rfl | decide +kernel)
    (case a_Automaton => first | k_is | rfl | decide +kernel)
    (case x_BadLetters => first | k_is | rfl | decide +kernel)
    (case rv_BadLetters => first | k_is | rfl | decide +kernel)
    (case sa_BadLetters => first | k_is | rfl | decide +kernel)
    (case ga_BadLetters => first | k_is | rfl | decide +kernel)
    (case gg_BadLetters => first | k_is | rfl | decide +kernel)
    (case cc_BadLetters => first | k_is | rfl | decide +kernel)
    (case mo_BadLetters => first | k_is | rfl | decide +kernel)
    (case kc_BadLetters => first | k_is | rfl | decide +kernel)
    (case hd_BadLetters => first | k_is | rfl | decide +kernel)
    (case se_BadLetters => first | k_is | rfl | decide +kernel)
    (case ii_BadLetters => first | k_is | rfl | decide +kernel)
    (case ti_BadLetters => first | k_is | rfl | decide +kernel)
    (case li_BadLetters => first | k_is | rfl | decide +kernel)
    (case ci_BadLetters => first | k_is | rfl | decide +kernel)
    (case ki_BadLetters => first | k_is | rfl | decide +kernel)
    (case n_BadLetters_letters => first | k_is | rfl | decide +kernel)
    (case s_BadLetters_ClockError => first | k_is | rfl | decide +kernel)
    (case s_BadLetters_BadText => first | k_is | rfl | decide +kernel)
    (case x_BadText => first | k_is | rfl | decide +kernel)
    (case rv_BadText => first | k_is | rfl | decide +kernel)
    (case sa_BadText => first | k_is | rfl | decide +kernel)
    (case ga_BadText => first | k_is | rfl | decide +kernel)
    (case gg_BadText => first | k_is | rfl | decide +kernel)
    (case cc_BadText => first | k_is | rfl | decide +kernel)
    (case mo_BadText => first | k_is | rfl | decide +kernel)
    (case kc_BadText => first | k_is | rfl | decide +kernel)
    (case hd_BadText => first | k_is | rfl | decide +kernel)
    (case se_BadText => first | k_is | rfl | decide +kernel)
    (case ii_BadText => first | k_is | rfl | decide +kernel)
    (case ti_BadText => first | k_is | rfl | decide +kernel)
    (case li_BadText => first | k_is | rfl | decide +kernel)
    (case ci_BadText => first | k_is | rfl | decide +kernel)
    (case ki_BadText => first | k_is | rfl | decide +kernel)
    (case n_BadText_index => first | k_is | rfl | decide +kernel)
    (case s_BadText_ClockError => first | k_is | rfl | decide +kernel)
    (case x_BadAutomaton => first | k_is | rfl | decide +kernel)
    (case rv_BadAutomaton => first | k_is | rfl | decide +kernel)
    (case sa_BadAutomaton => first | k_is | rfl | decide +kernel)
    (case ga_BadAutomaton => first | k_is | rfl | decide +kernel)
    (case gg_BadAutomaton => first | k_is | rfl | decide +kernel)
    (case cc_BadAutomaton => first | k_is | rfl | decide +kernel)
    (case mo_BadAutomaton => first | k_is | rfl | decide +kernel)
    (case kc_BadAutomaton => first | k_is | rfl | decide +kernel)
    (case hd_BadAutomaton => first | k_is | rfl | decide +kernel)
    (case se_BadAutomaton => first | k_is | rfl | decide +kernel)
    (case ii_BadAutomaton => first | k_is | rfl | decide +kernel)
    (case ti_BadAutomaton => first | k_is | rfl | decide +kernel)
    (case li_BadAutomaton => first | k_is | rfl | decide +kernel)
    (case ci_BadAutomaton => first | k_is | rfl | decide +kernel)
    (case ki_BadAutomaton => first | k_is | rfl | decide +kernel)
    (case n_BadAutomaton_state => first | k_is | rfl | decide +kernel)
    (case s_BadAutomaton_ClockError => first | k_is | rfl | decide +kernel)
    (case s_BadAutomaton_BadText => first | k_is | rfl | decide +kernel)
    (case be_ClockError => first | k_is | rfl | decide +kernel)
    (case ty_ClockError => first | k_is | rfl | decide +kernel)
    (case ic_ClockError => first | k_is | rfl | decide +kernel)
    (case be_BadLetters => first | k_is | rfl | decide +kernel)
    (case ty_BadLetters => first | k_is | rfl | decide +kernel)
    (case ic_BadLetters => first | k_is | rfl | decide +kernel)
    (case be_BadText => first | k_is | rfl | decide +kernel)
    (case ty_BadText => first | k_is | rfl | decide +kernel)
    (case ic_BadText => first | k_is | rfl | decide +kernel)
    (case be_BadAutomaton => first | k_is | rfl | decide +kernel)
    (case ty_BadAutomaton => first | k_is | rfl | decide +kernel)
    (case ic_BadAutomaton => first | k_is | rfl | decide +kernel)
    (case sp_cls => first | k_is | rfl | decide +kernel)
    (case tk_cls => first | k_is | rfl | decide +kernel)
    (case a_ALPHABET => first | k_is | rfl | decide +kernel)
    (case pg_Automaton => first | k_is | rfl | decide +kernel)
    (case hd_Automaton => first | k_is | rfl | decide +kernel)
    (case po_Automaton => first | k_is | rfl | decide +kernel)
    (case sa_Automaton => first | k_is | rfl | decide +kernel)
    (case mk_Automaton => first | k_is | rfl | decide +kernel)
    (case ii_Automaton => first | k_is | rfl | decide +kernel)
    (case fn_Automaton => first | k_is | rfl | decide +kernel)
    (case kc_Automaton => first | k_is | rfl | decide +kernel)
    (case li_Automaton => first | k_is | rfl | decide +kernel)
    (case ci_Automaton => first | k_is | rfl | decide +kernel)
    (case ki_Automaton => first | k_is | rfl | decide +kernel)
    (case n_Automaton_letters => first | k_is | rfl | decide +kernel)
    (case n_Automaton_arrows => first | k_is | rfl | decide +kernel)
    (case n_Automaton_yes => first | k_is | rfl | decide +kernel)
    (case a_frozen => first | k_is | rfl | decide +kernel)
    (case l_frozen => first | k_is | rfl | decide +kernel)
    (case cd_frozen_ => first | k_is | rfl | decide +kernel)
    (case k_frozen => first | k_is | rfl | decide +kernel)
    (case a_is_whole => first | k_is | rfl | decide +kernel)
    (case l_is_whole => first | k_is | rfl | decide +kernel)
    (case cd_is_whole_ => first | k_is | rfl | decide +kernel)
    (case k_is_whole => first | k_is | rfl | decide +kernel)
    (case a_are_letters => first | k_is | rfl | decide +kernel)
    (case l_are_letters => first | k_is | rfl | decide +kernel)
    (case cd_are_letters_ => first | k_is | rfl | decide +kernel)
    (case k_are_letters => first | k_is | rfl | decide +kernel)
    (case a_check_letters => first | k_is | rfl | decide +kernel)
    (case l_check_letters => first | k_is | rfl | decide +kernel)
    (case cd_check_letters_ => first | k_is | rfl | decide +kernel)
    (case k_check_letters => first | k_is | rfl | decide +kernel)
    (case a_check_text => first | k_is | rfl | decide +kernel)
    (case l_check_text => first | k_is | rfl | decide +kernel)
    (case cd_check_text_ => first | k_is | rfl | decide +kernel)
    (case k_check_text => first | k_is | rfl | decide +kernel)
    (case a_is_number_below => first | k_is | rfl | decide +kernel)
    (case l_is_number_below => first | k_is | rfl | decide +kernel)
    (case cd_is_number_below_ => first | k_is | rfl | decide +kernel)
    (case k_is_number_below => first | k_is | rfl | decide +kernel)
    (case a_is_arrow_row => first | k_is | rfl | decide +kernel)
    (case l_is_arrow_row => first | k_is | rfl | decide +kernel)
    (case cd_is_arrow_row_ => first | k_is | rfl | decide +kernel)
    (case k_is_arrow_row => first | k_is | rfl | decide +kernel)
    (case a_states_behind => first | k_is | rfl | decide +kernel)
    (case l_states_behind => first | k_is | rfl | decide +kernel)
    (case cd_states_behind_ => first | k_is | rfl | decide +kernel)
    (case k_states_behind => first | k_is | rfl | decide +kernel)
    (case a_sure_word => first | k_is | rfl | decide +kernel)
    (case l_sure_word => first | k_is | rfl | decide +kernel)
    (case cd_sure_word_ => first | k_is | rfl | decide +kernel)
    (case k_sure_word => first | k_is | rfl | decide +kernel)
    (case a_earliest => first | k_is | rfl | decide +kernel)
    (case l_earliest => first | k_is | rfl | decide +kernel)
    (case cd_earliest_ => first | k_is | rfl | decide +kernel)
    (case k_earliest => first | k_is | rfl | decide +kernel)
    (case a__law_whole => first | k_is | rfl | decide +kernel)
    (case l__law_whole => first | k_is | rfl | decide +kernel)
    (case cd__law_whole_ => first | k_is | rfl | decide +kernel)
    (case k__law_whole => first | k_is | rfl | decide +kernel)
    (case a__law_cell => first | k_is | rfl | decide +kernel)
    (case l__law_cell => first | k_is | rfl | decide +kernel)
    (case cd__law_cell_ => first | k_is | rfl | decide +kernel)
    (case k__law_cell => first | k_is | rfl | decide +kernel)
    (case a__law_digits => first | k_is | rfl | decide +kernel)
    (case l__law_digits => first | k_is | rfl | decide +kernel)
    (case cd__law_digits_ => first | k_is | rfl | decide +kernel)
    (case k__law_digits => first | k_is | rfl | decide +kernel)
    (case a__law_letters => first | k_is | rfl | decide +kernel)
    (case l__law_letters => first | k_is | rfl | decide +kernel)
    (case cd__law_letters_ => first | k_is | rfl | decide +kernel)
    (case k__law_letters => first | k_is | rfl | decide +kernel)
    (case a__law_long_text => first | k_is | rfl | decide +kernel)
    (case l__law_long_text => first | k_is | rfl | decide +kernel)
    (case cd__law_long_text_ => first | k_is | rfl | decide +kernel)
    (case k__law_long_text => first | k_is | rfl | decide +kernel)
    (case a__law_texts => first | k_is | rfl | decide +kernel)
    (case l__law_texts => first | k_is | rfl | decide +kernel)
    (case cd__law_texts_ => first | k_is | rfl | decide +kernel)
    (case k__law_texts => first | k_is | rfl | decide +kernel)
    (case a__law_automaton => first | k_is | rfl | decide +kernel)
    (case l__law_automaton => first | k_is | rfl | decide +kernel)
    (case cd__law_automaton_ => first | k_is | rfl | decide +kernel)
    (case k__law_automaton => first | k_is | rfl | decide +kernel)
    (case a__law_sure => first | k_is | rfl | decide +kernel)
    (case l__law_sure => first | k_is | rfl | decide +kernel)
    (case cd__law_sure_ => first | k_is | rfl | decide +kernel)
    (case k__law_sure => first | k_is | rfl | decide +kernel)
    (case a__law_earliest => first | k_is | rfl | decide +kernel)
    (case l__law_earliest => first | k_is | rfl | decide +kernel)
    (case cd__law_earliest_ => first | k_is | rfl | decide +kernel)
    (case k__law_earliest => first | k_is | rfl | decide +kernel)
    (case a__law_refused => first | k_is | rfl | decide +kernel)
    (case l__law_refused => first | k_is | rfl | decide +kernel)
    (case cd__law_refused_ => first | k_is | rfl | decide +kernel)
    (case k__law_refused => first | k_is | rfl | decide +kernel)
    (case a_law => first | k_is | rfl | decide +kernel)
    (case l_law => first | k_is | rfl | decide +kernel)
    (case cd_law_ => first | k_is | rfl | decide +kernel)
    (case k_law => first | k_is | rfl | decide +kernel)

import PyProof.Rows.All
import Wide.All
import OpenK.AllK
import Wide.FinOn
import PyProof.P3Statements
import PyProof.ReprReads
import KE.LtData
import HandS.ForMost
import HandS.Iter
import HandS.Zip
import KE.GoesEnum
import KE.GoesMore
import HandS.Exc
import HandS.WordsExc
import HandS.Lambda
import KE.DataEq
import HandS.SortInts
import HandS.ExcOwn
import HandS.ExcValue
import HandS.TupAny
import HandS.TupMul
import HandS.Style
import HandS.IsInst
import KE.DataAny
import HandS.Defaults
import HandS.CallSlots
import HandS.Comp
import HandS.Sort
import HandS.Conv
import HandS.Rev
import HandS.SetFor
import HandS.Strs
import HandS.Deep
import KE.KDictZip
import HandS.More
import HandS.RaiseMore
import PyProof.ReprRoads
import HandS.ExcIs
import HandS.ExcField
import KE.DataFind
import KE.KTryMore
import HandS.MakeKw
import HandS.ExcInit
import KE.KExcInit
import PyProof.InstStoreFacts
import HandS.HeadHook2
import KE.KStateDown
import Lean
import HandS.Head0
import HandS.Head1
import HandS.Head2
import HandS.HeadEnd
import HandS.HeadHook1
import PySem.Challenge.RW_ladderchart_k03_chains_and_teams
set_option Elab.async false
set_option linter.all false
set_option maxRecDepth 100000
set_option maxHeartbeats 0
/-! PvD: a small language of values (expressions X, statements S), its data and its evaluator. No program and no heap in sight. -/
namespace Pv
open PySem

abbrev D := PyData

/-- a value: data; a fresh list that one place alone holds; a list in the store -/
inductive Vl where
  | d (x : D)
  | own (xs : List D)
  | cell (k : Nat)

/-- what stands in the store -/
inductive Cel where
  | arr (xs : List D)
  | tbl (q : Str)
  | exn (k : Nat) (f : D)

abbrev Slots := List (Option Vl)
abbrev Cels := List Cel

/-- what a def's call comes to -/
inductive FRes where
  | ok (v : Vl) (m : Cels)
  | exc (c : Nat) (f : D) (m : Cels)
  | stuck

inductive Res (α : Type) where
  | ok (a : α) (e : Slots) (m : Cels)
  | exc (c : Nat) (f : D) (e : Slots) (m : Cels)
  | stuck

def Res.bind {α β : Type} (r : Res α) (k : α → Slots → Cels → Res β) : Res β :=
  match r with
  | .ok a e m => k a e m
  | .exc c f e m => .exc c f e m
  | .stuck => .stuck
@[simp] theorem Res.bind_ok {α β : Type} (a : α) (e : Slots) (m : Cels) (k : α → Slots → Cels → Res β) : (Res.ok a e m).bind k = k a e m := rfl
@[simp] theorem Res.bind_stuck {α β : Type} (k : α → Slots → Cels → Res β) : (Res.stuck : Res α).bind k = .stuck := rfl
@[simp] theorem Res.bind_exc {α β : Type} (c : Nat) (f : D) (e : Slots) (m : Cels) (k : α → Slots → Cels → Res β) : (Res.exc c f e m : Res α).bind k = .exc c f e m := rfl
def Res.of {α : Type} (o : Option α) (e : Slots) (m : Cels) : Res α := match o with
  | some a => .ok a e m
  | none => .stuck
@[simp] theorem Res.of_some {α : Type} (a : α) (e : Slots) (m : Cels) : Res.of (some a) e m = .ok a e m := rfl
@[simp] theorem Res.of_none {α : Type} (e : Slots) (m : Cels) : Res.of (none : Option α) e m = .stuck := rfl

/-- the length that lists and texts keep below -/
def lim : Nat := 1000000
/-- .. and a text that repr gives -/
def rlim : Nat := 15000000

/-! ### data -/
mutual
/-- no dict within, and no deeper than n -/
def shp : Nat → D → Bool
  | _, .none => true
  | _, .bool _ => true
  | _, .int _ => true
  | _, .str _ => true
  | 0, .list _ => false
  | 0, .tuple _ => false
  | n + 1, .list xs => shpAll n xs
  | n + 1, .tuple xs => shpAll n xs
  | _, .dict _ => false
def shpAll : Nat → List D → Bool
  | _, [] => true
  | n, x :: xs => shp n x && shpAll n xs
end
def okD (x : D) : Bool := shp 60 x
mutual
/-- no list within -/
def noLst : D → Bool
  | .none => true
  | .bool _ => true
  | .int _ => true
  | .str _ => true
  | .list _ => false
  | .tuple xs => noLstAll xs
  | .dict _ => false
def noLstAll : List D → Bool
  | [] => true
  | x :: xs => noLst x && noLstAll xs
end

def intOf : D → Option Int
  | .int i => some i
  | _ => none
def intsOf : List D → Option (List Int)
  | [] => some []
  | .int i :: r => match intsOf r with
    | some l => some (i :: l)
    | none => none
  | _ :: _ => none
def boolsOf : List D → Option (List Bool)
  | [] => some []
  | .bool i :: r => match boolsOf r with
    | some l => some (i :: l)
    | none => none
  | _ :: _ => none
/-- the items of a list or a tuple -/
def seqOf : D → Option (List D)
  | .list xs => some xs
  | .tuple xs => some xs
  | _ => none
/-- the place that an index means -/
def ixOf (n : Nat) (i : Int) : Option Nat := if 0 ≤ i then (if i < n then some i.toNat else none) else if -(n : Int) ≤ i then some (i + n).toNat else none
def atD (xs : List D) (i : Int) : Option D := (ixOf xs.length i).bind fun j => xs[j]?
/-- a slice's place -/
def sIx (n d : Nat) : Option Int → Nat
  | none => d
  | some i => if i < 0 then (i + n).toNat else min i.toNat n
def cutD {α : Type} (xs : List α) (lo hi : Option Int) : List α := (xs.drop (sIx xs.length 0 lo)).take (sIx xs.length xs.length hi - sIx xs.length 0 lo)

/-- a value's truth -/
def truth : D → Option Bool
  | .none => some false
  | .bool b => some b
  | .int i => some (i != 0)
  | .str x => if x.length ≤ lim then some ((x.length : Int) != 0) else none
  | .list xs => some !xs.isEmpty
  | .tuple xs => some !xs.isEmpty
  | .dict _ => none

/-! ### operators -/
inductive Op where
  | add | sub | mul | fdiv | mod | pow
  deriving DecidableEq, Repr
inductive Cm where
  | eq | ne | lt | le | gt | ge | isin | notin | is | isnot
  deriving DecidableEq, Repr

def intOp : Op → Int → Int → Option Int
  | .add, i, j => some (i + j)
  | .sub, i, j => some (i - j)
  | .mul, i, j => if i.natAbs < 18446744073709551616 ∨ j.natAbs < 18446744073709551616 then some (i * j) else none
  | .fdiv, i, j => if j ≠ 0 ∧ j.natAbs < 1073741824 then some (i.fdiv j) else none
  | .mod, i, j => if j ≠ 0 then some (i.fmod j) else none
  | .pow, i, j => if 0 ≤ j ∧ j ≤ 1000000 ∧ i.natAbs < 2 ^ 64 then some (i ^ j.toNat) else none

/-- a op= b at a name -/
def augOp : Op → Int → Int → Option Int
  | .fdiv, i, j => if 0 < j ∧ j.natAbs < 1073741824 then some (i / j) else none
  | .mod, i, j => if 0 < j then some (i % j) else none
  | .pow, _, _ => none
  | o, i, j => intOp o i j

def binOp : Op → D → D → Option Vl
  | o, .int i, .int j => (intOp o i j).map fun k => .d (.int k)
  | .add, .str x, .str y => if x.length + y.length ≤ lim then some (.d (.str (x ++ y))) else none
  | .add, .list xs, .list ys => if xs.length + ys.length ≤ lim then some (.own (xs ++ ys)) else none
  | .add, .tuple xs, .tuple ys => if xs.length + ys.length ≤ lim then some (.d (.tuple (xs ++ ys))) else none
  | .mul, .list xs, .int k => if xs.length * k.toNat ≤ lim ∧ k.natAbs ≤ 1000000 then some (.own (List.replicate k.toNat xs).flatten) else none
  | .mul, .tuple xs, .int k => if xs.length ≤ 1000 ∧ k.natAbs ≤ 1000 then some (.d (.tuple (List.replicate k.toNat xs).flatten)) else none
  | .add, .bool a, .int j => some (.d (.int ((if a = true then 1 else 0) + j)))
  | .sub, .bool a, .int j => some (.d (.int ((if a = true then 1 else 0) - j)))
  | .sub, .int i, .bool b => some (.d (.int (i - if b = true then 1 else 0)))
  | _, _, _ => none

/-- == -/
def eqD : D → D → Option Bool
  | .int i, .int j => some (i == j)
  | .str x, .str y => some (x == y)
  | .bool x, .bool y => some (x == y)
  | x, y => if okD x && okD y then some (PyData.eqv x y) else none
def inD (x : D) : List D → Bool
  | [] => false
  | y :: r => PyData.eqv y x || inD x r
def subStr (x y : Str) : Bool := !(Builtin.Str.occurrences y x 0 y.length 1).isEmpty
def intCmp (f : Int → Int → Bool) : D → D → Option Bool
  | .int i, .int j => some (f i j)
  | _, _ => none
def inOp (x : D) : D → Option Bool
  | .list ys => if okD x && okD (.list ys) then some (inD x ys) else none
  | .tuple ys => if okD x && okD (.tuple ys) then some (inD x ys) else none
  | .str b => match x with
    | .str a => some (subStr a b)
    | _ => none
  | _ => none
def isNon : D → Bool
  | .none => true
  | _ => false
def isOp (x : D) : D → Option Bool
  | .none => some (isNon x)
  | .bool b => match x with
    | .bool a => some (a == b)
    | _ => none
  | _ => none
def cmpOp : Cm → D → D → Option Bool
  | .eq => eqD
  | .ne => fun x y => (eqD x y).map (!·)
  | .lt => intCmp fun i j => decide (i < j)
  | .le => intCmp fun i j => decide (i ≤ j)
  | .gt => intCmp fun i j => decide (j < i)
  | .ge => intCmp fun i j => decide (j ≤ i)
  | .isin => inOp
  | .notin => fun x y => (inOp x y).map (!·)
  | .is => isOp
  | .isnot => fun x y => (isOp x y).map (!·)

/-! ### built-ins -/
inductive TyK where
  | int | bool | str | list | tuple | listtuple
  deriving DecidableEq, Repr
def isTy : TyK → D → Bool
  | .int, .int _ => true
  | .int, .bool _ => true
  | .bool, .bool _ => true
  | .str, .str _ => true
  | .list, .list _ => true
  | .tuple, .tuple _ => true
  | .listtuple, .list _ => true
  | .listtuple, .tuple _ => true
  | _, _ => false

inductive B1 where
  | len | abs | toint | totuple | tolist | sorted | sum | maxl | minl | all | any | tostr
  deriving DecidableEq, Repr
inductive B2 where
  | max2 | min2
  deriving DecidableEq, Repr

/-- a list of ints in ascending order -/
def insI (x : Int) : List Int → List Int
  | [] => [x]
  | y :: r => if x ≤ y then x :: y :: r else y :: insI x r
def sortI : List Int → List Int
  | [] => []
  | x :: r => insI x (sortI r)
/-- .. without doubles -/
def dedup : List Int → List Int
  | [] => []
  | [x] => [x]
  | x :: y :: r => if x = y then dedup (y :: r) else x :: dedup (y :: r)
def maxI : List Int → Option Int
  | [] => none
  | [x] => some x
  | x :: r => match maxI r with
    | some m => some (if m ≤ x then x else m)
    | none => none
def minI : List Int → Option Int
  | [] => none
  | [x] => some x
  | x :: r => match minI r with
    | some m => some (if x ≤ m then x else m)
    | none => none

def b1Op : B1 → D → Option Vl
  | .len, .str x => if x.length ≤ lim then some (.d (.int x.length)) else none
  | .len, .list xs => some (.d (.int xs.length))
  | .len, .tuple xs => some (.d (.int xs.length))
  | .abs, .int i => some (.d (.int (if i < 0 then -i else i)))
  | .toint, .int i => some (.d (.int i))
  | .toint, .bool b => some (.d (.int (if b then 1 else 0)))
  | .totuple, .list xs => some (.d (.tuple xs))
  | .totuple, .tuple xs => some (.d (.tuple xs))
  | .tolist, .list xs => some (.own xs)
  | .tolist, .tuple xs => some (.own xs)
  | .sorted, .list xs => match intsOf xs with
    | some ns => some (.own ((sortI ns).map .int))
    | none => none
  | .sorted, .tuple xs => match intsOf xs with
    | some ns => some (.own ((sortI ns).map .int))
    | none => none
  | .sum, .list xs => match intsOf xs with
    | some ns => some (.d (.int ns.sum))
    | none => none
  | .maxl, .list xs => match intsOf xs with
    | some ns => (maxI ns).map fun m => .d (.int m)
    | none => none
  | .minl, .list xs => match intsOf xs with
    | some ns => (minI ns).map fun m => .d (.int m)
    | none => none
  | .all, .list xs => match boolsOf xs with
    | some bs => some (.d (.bool (bs.all id)))
    | none => none
  | .any, .list xs => match boolsOf xs with
    | some bs => some (.d (.bool (bs.any id)))
    | none => none
  | .tostr, .int i => if i.natAbs.log2 < 1920 then some (.d (.str (toString i))) else none
  | .tostr, .bool b => some (.d (.str (if b = true then "True" else "False")))
  | _, _ => none
def b2Op : B2 → D → D → Option Vl
  | .max2, .int i, .int j => some (.d (.int (if j > i then j else i)))
  | .min2, .int i, .int j => some (.d (.int (if j < i then j else i)))
  | _, _, _ => none

/-! ### the language -/
/-- what a loop or a comprehension walks -/
inductive IK where
  | seq | rng1 | rng2 | rng3 | enum | zip | revs
  deriving DecidableEq, Repr
/-- a target -/
inductive Tg where
  | v (i : Nat)
  | t (ts : List Tg)

inductive X where
  | omit
  | var (i : Nat)
  | non | bl (b : Bool) | int (i : Int) | str (s : Str)
  | glob (k : Nat)
  | op (o : Op) (a b : X)
  | cmp (o : Cm) (a b : X)
  | chain (o p : Cm) (a b c : X)
  | inr (neg : Bool) (a : X) (rs : List X)
  | neg (a : X)
  | not (a : X)
  | and (a b : X)
  | or (a b : X)
  | ite (c a b : X)
  | tup (es : List X)
  | lst (es : List X)
  | ix (a i : X)
  | sl (a lo hi : X)
  | rev (a : X)
  | isi (k : TyK) (a : X)
  | b1 (b : B1) (a : X)
  | b2 (b : B2) (a c : X)
  | comp (tg : Tg) (own : List Nat) (k : IK) (as : List X) (cond elt : X)
  | comp2 (tg : Tg) (own : List Nat) (k : IK) (as : List X) (tg1 : Tg) (own1 : List Nat) (k1 : IK) (as1 : List X) (cond elt : X)
  | call (f : Nat) (es : List X) (ord : List (Nat ⊕ D))
  | callP (f : Nat) (es : List X) (ord : List (Nat ⊕ D))
  | callL (f : Nat) (es : List X) (ord : List (Nat ⊕ D))
  | cel (a : X)
  | mat (tup : Bool) (k : IK) (as : List X)
  | cidx (a b : X)
  | csum (a : X)
  | trv (a : X)
  | sset (a : X)
  | rep (a : X)
  | isE (bs : List Bool) (a : X)
  | fld (nm : Str) (ok : List Nat) (a : X)
  | cntT (a : X)
  | outc (t : Nat) (q : Str) (fr : Nat) (ks : List Nat) (a : X)

inductive S where
  | asg (t : Tg) (e : X)
  | par (is : List Nat) (es : List X)
  | aug (i : Nat) (o : Op) (e : X)
  | app (i : Nat) (e : X)
  | ext (i : Nat) (e : X)
  | appPop (i j : Nat) (e : X)
  | popAt (i : Nat) (e : X)
  | ins (i : Nat) (k e : X)
  | setSl (i : Nat) (lo hi e : X)
  | setIx (i : Nat) (k e : X)
  | expr (e : X)
  | ite (c : X) (a b : List S)
  | for (t : Tg) (k : IK) (as : List X) (body : List S)
  | while (fuel : Nat) (c : X) (body : List S)
  | ret (e : X)
  | pass
  | never
  | brk
  | cont
  | raise (k : Nat) (e : X)

inductive Fl where
  | nx | ret (v : Vl) | brk | cont

/-! ### the evaluator -/
/-- the data of a value as it stands -/
def dat (m : Cels) : Vl → Option D
  | .d x => some x
  | .own xs => some (.list xs)
  | .cell k => match m[k]? with
    | some (.arr xs) => some (.list xs)
    | _ => none
/-- a value that is kept by another: it is not changed any more -/
def frz : Vl → Option D
  | .d x => some x
  | .own xs => some (.list xs)
  | .cell _ => none

def getV (e : Slots) (m : Cels) (i : Nat) : Res Vl := match e[i]? with
  | some (some v) => .ok v e m
  | _ => .stuck
/-- .. and it is kept elsewhere from now on -/
def takeV (e : Slots) (m : Cels) (i : Nat) : Res Vl := match e[i]? with
  | some (some (.own xs)) => .ok (.d (.list xs)) (e.set i (some (.d (.list xs)))) m
  | some (some v) => .ok v e m
  | _ => .stuck

/-- 0, 1, .. as data -/
def upTo (lo : Int) : Nat → List D
  | 0 => []
  | n + 1 => .int lo :: upTo (lo + 1) n
def downTo (lo : Int) : Nat → List D
  | 0 => []
  | n + 1 => .int lo :: downTo (lo - 1) n
def enumD (i : Int) : List D → List D
  | [] => []
  | x :: r => .tuple [.int i, x] :: enumD (i + 1) r
def zipD : List D → List D → List D
  | x :: xs, y :: ys => .tuple [x, y] :: zipD xs ys
  | _, _ => []
/-- what is walked -/
def itemsOf : IK → List D → Option (List D)
  | .seq, [x] => seqOf x
  | .rng1, [.int n] => if n.natAbs ≤ 1000000 then some (upTo 0 n.toNat) else none
  | .rng2, [.int a, .int b] => if a.natAbs ≤ 1000000 ∧ b.natAbs ≤ 1000000 then some (upTo a (b - a).toNat) else none
  | .rng3, [.int a, .int b, .int c] => if c = -1 ∧ a.natAbs ≤ 1000000 ∧ b.natAbs ≤ 1000000 then some (downTo a (a - b).toNat) else none
  | .enum, [x] => (seqOf x).map (enumD 0)
  | .revs, [.list xs] => some xs.reverse
  | .revs, [.tuple xs] => some xs.reverse
  | .zip, [.list xs, .list ys] => some (zipD xs ys)
  | .zip, [.tuple xs, .tuple ys] => some (zipD xs ys)
  | _, _ => none

mutual
/-- a target takes a value -/
def bindT : Tg → Vl → Slots → Option Slots
  | .v i, x, e => if i < e.length then some (e.set i (some x)) else none
  | .t ts, x, e => match x with
    | .d (.tuple xs) => bindTs ts xs e
    | _ => none
def bindTs : List Tg → List D → Slots → Option Slots
  | [], [], e => some e
  | t :: ts, x :: xs, e => match bindT t (.d x) e with
    | some e' => bindTs ts xs e'
    | none => none
  | _, _, _ => none
end

def wipeE (e : Slots) : List Nat → Slots
  | [] => e
  | i :: r => (wipeE e r).set i none
/-- the slots as they were, behind a comprehension -/
def restoreE (e old : Slots) : List Nat → Slots
  | [] => e
  | i :: r => (restoreE e old r).set i (old[i]?.getD none)

def arrange (vs : List Vl) : List (Nat ⊕ D) → Option (List Vl)
  | [] => some []
  | .inl j :: r => match vs[j]?, arrange vs r with
    | some v, some l => some (v :: l)
    | _, _ => none
  | .inr d :: r => match arrange vs r with
    | some l => some (.d d :: l)
    | none => none

def datAll (m : Cels) : List Vl → Option (List D)
  | [] => some []
  | v :: r => match dat m v, datAll m r with
    | some x, some l => some (x :: l)
    | _, _ => none
def frzAll : List Vl → Option (List D)
  | [] => some []
  | v :: r => match frz v, frzAll r with
    | some x, some l => some (x :: l)
    | _, _ => none
def frzArg : Vl → Vl
  | .d x => .d x
  | .own xs => .d (.list xs)
  | .cell k => .cell k

/-- the result of a call that saw no store, an own list of the caller's among its arguments or not -/
def pureRes (lent : Bool) : FRes → Slots → Cels → Res Vl
  | .ok (.d x) [], e, m => if lent && !noLst x then .stuck else .ok (.d x) e m
  | .ok (.own xs) [], e, m => if lent && !noLstAll xs then .stuck else .ok (.own xs) e m
  | .exc c f [], e, m => if noLst f then .exc c f e m else .stuck
  | _, _, _ => .stuck
mutual
/-- every list within is shorter than n -/
def lenLt (n : Nat) : D → Bool
  | .none => true
  | .bool _ => true
  | .int _ => true
  | .str _ => true
  | .list xs => decide (xs.length < n) && lenLtAll n xs
  | .tuple xs => lenLtAll n xs
  | .dict _ => false
def lenLtAll (n : Nat) : List D → Bool
  | [] => true
  | x :: xs => lenLt n x && lenLtAll n xs
end
/-- none of the lent lists stands within -/
def offL (vs : List Vl) (x : D) : Bool := vs.all fun v => match v with
  | .own ys => lenLt ys.length x
  | _ => true
def noLstC (m : Cels) : Bool := m.all fun c => match c with
  | .arr xs => noLstAll xs
  | .tbl _ => true
  | .exn _ f => noLst f
/-- the result of a call that saw the store, lists of the caller's among its arguments -/
def lentRes (vs : List Vl) : FRes → Slots → Res Vl
  | .ok (.d x) m, e => if noLstC m && offL vs x then .ok (.d x) e m else .stuck
  | .ok (.own xs) m, e => if noLstC m && noLstAll xs then .ok (.own xs) e m else .stuck
  | .exc c f m, e => if noLstC m && noLst f then .exc c f e m else .stuck
  | _, _ => .stuck
def callRes : FRes → Slots → Res Vl
  | .ok v m, e => .ok v e m
  | .exc c f m, e => .exc c f e m
  | .stuck, _ => .stuck

section
variable (G : List D) (call : Nat → List Vl → Cels → FRes)

/-- the turns of a comprehension -/
def compL (turn : D → Slots → Cels → Res (Option D)) : List D → List D → Slots → Cels → Res (List D)
  | [], acc, e, m => .ok acc e m
  | x :: xs, acc, e, m => match turn x e m with
    | .ok (some y) e m => if acc.length < lim then compL turn xs (acc ++ [y]) e m else .stuck
    | .ok none e m => compL turn xs acc e m
    | _ => .stuck

/-- what an expression means: its value, as a test; is it a slot, is it left out -/
structure Sm where
  v : Slots → Cels → Res Vl
  t : Slots → Cels → Res Bool
  var : Option Nat
  om : Bool

/-- a value's test -/
def tOf (v : Slots → Cels → Res Vl) : Slots → Cels → Res Bool := fun e m => (v e m).bind fun v e m => match dat m v with
  | some x => Res.of (truth x) e m
  | none => .stuck
/-- an expression that is tested by its value -/
def Sm.mk' (v : Slots → Cels → Res Vl) : Sm := ⟨v, tOf v, none, false⟩
/-- where the value is kept -/
def Sm.g (s : Sm) : Slots → Cels → Res Vl := fun e m => match s.var with
  | some i => takeV e m i
  | none => s.v e m
/-- .. where it is returned -/
def Sm.r (s : Sm) : Slots → Cels → Res Vl := fun e m => match s.var with
  | some i => getV e m i
  | none => s.v e m
/-- a slice's end -/
def Sm.o (s : Sm) : Slots → Cels → Res (Option Int) := fun e m => match s.om with
  | true => .ok none e m
  | false => (s.v e m).bind fun v e m => match v with
    | .d (.int i) => .ok (some i) e m
    | _ => .stuck
/-- a comprehension's condition; none is true -/
def Sm.c (s : Sm) : Slots → Cels → Res Bool := fun e m => match s.om with
  | true => .ok true e m
  | false => s.t e m
def smV : List Sm → Slots → Cels → Res (List Vl)
  | [], e, m => .ok [] e m
  | x :: xs, e, m => (x.v e m).bind fun v e m => (smV xs e m).bind fun vs e m => .ok (v :: vs) e m
def smG : List Sm → Slots → Cels → Res (List Vl)
  | [], e, m => .ok [] e m
  | x :: xs, e, m => (x.g e m).bind fun v e m => (smG xs e m).bind fun vs e m => .ok (v :: vs) e m
def lentOf : Option Nat → Vl → Bool
  | some _, .own _ => true
  | _, _ => false
/-- arguments that are lent: is a list of one's own among them -/
def smA : List Sm → Slots → Cels → Res (List Vl × Bool)
  | [], e, m => .ok ([], false) e m
  | x :: xs, e, m => (x.v e m).bind fun v e m => (smA xs e m).bind fun vs e m => .ok (v :: vs.1, vs.2 || lentOf x.var v) e m

/-! what an operation on values comes to -/
def two2 (g : D → D → Option Vl) (sa sb : Sm) : Slots → Cels → Res Vl := fun e m => (sa.v e m).bind fun v e m => (sb.v e m).bind fun u e m => match dat m v, dat m u with
  | some x, some y => Res.of (g x y) e m
  | _, _ => .stuck
def one1 (g : D → Option Vl) (sa : Sm) : Slots → Cels → Res Vl := fun e m => (sa.v e m).bind fun v e m => match dat m v with
  | some x => Res.of (g x) e m
  | none => .stuck
def negD : D → Option Vl
  | .int i => some (.d (.int (-i)))
  | _ => none
def ixD (x y : D) : Option Vl := match y with
  | .int k => match seqOf x with
    | some xs => (atD xs k).map Vl.d
    | none => none
  | _ => none
def slD (lo hi : Option Int) : D → Option Vl
  | .list xs => some (.own (cutD xs lo hi))
  | .tuple xs => some (.d (.tuple (cutD xs lo hi)))
  | _ => none
def revLD : D → Option Vl
  | .list xs => some (.own xs.reverse)
  | .tuple xs => some (.d (.tuple xs.reverse))
  | _ => none
/-- tuple(reversed(x)) -/
def trvD : D → Option Vl
  | .list xs => some (.d (.tuple xs.reverse))
  | _ => none
/-- ascending, each once -/
def insU (x : Int) : List Int → List Int
  | [] => [x]
  | y :: r => if x < y then x :: y :: r else if x = y then y :: r else y :: insU x r
def sortU : List Int → List Int
  | [] => []
  | x :: r => insU x (sortU r)
/-- sorted(set(x)) -/
def reprD (x : D) : Option Vl := if okD x = true ∧ x.showable = true ∧ x.shown.length ≤ rlim then some (.d (.str x.shown)) else none
def ssetD (x : D) : Option Vl := match seqOf x with
  | some xs => match intsOf xs with
    | some ns => if ns.length ≤ 4000 ∧ (sortU ns).length < 64 then some (.own ((sortU ns).map PyData.int)) else none
    | none => none
  | none => none
def rngIn (neg : Bool) (i : Int) : List D → Option Vl
  | [.int n] => some (.d (.bool ((decide (0 ≤ i ∧ i < n)) != neg)))
  | [.int a, .int n] => some (.d (.bool ((decide (a ≤ i ∧ i < n)) != neg)))
  | _ => none
/-- a truth value, or nothing -/
def boolR : Vl → Slots → Cels → Res Vl
  | .d (.bool k), e, m => .ok (.d (.bool k)) e m
  | _, _, _ => .stuck
def andV (sa sb : Sm) : Slots → Cels → Res Vl := fun e m => (sa.v e m).bind fun v e m => match v with
  | .d (.bool true) => (sb.v e m).bind boolR
  | .d (.bool false) => .ok (.d (.bool false)) e m
  | _ => .stuck
def orV (sa sb : Sm) : Slots → Cels → Res Vl := fun e m => (sa.v e m).bind fun v e m => match v with
  | .d (.bool true) => .ok (.d (.bool true)) e m
  | .d (.bool false) => (sb.v e m).bind boolR
  | _ => .stuck
def notV (sa : Sm) : Slots → Cels → Res Vl := fun e m => (sa.v e m).bind fun v e m => match v with
  | .d (.bool k) => .ok (.d (.bool !k)) e m
  | _ => .stuck
def andT (sa sb : Sm) : Slots → Cels → Res Bool := fun e m => (sa.t e m).bind fun k e m => match k with
  | true => sb.t e m
  | false => .ok false e m
def orT (sa sb : Sm) : Slots → Cels → Res Bool := fun e m => (sa.t e m).bind fun k e m => match k with
  | true => .ok true e m
  | false => sb.t e m
def notT (sa : Sm) : Slots → Cels → Res Bool := fun e m => (sa.t e m).bind fun k e m => .ok (!k) e m
def iteV (sc sa sb : Sm) : Slots → Cels → Res Vl := fun e m => (sc.t e m).bind fun k e m => match k with
  | true => sa.g e m
  | false => sb.g e m
def chainV (o p : Cm) (sa sb sc : Sm) : Slots → Cels → Res Vl := fun e m => (sa.v e m).bind fun v e m => (sb.v e m).bind fun u e m => match dat m v, dat m u with
  | some x, some y => match cmpOp o x y with
    | some false => .ok (.d (.bool false)) e m
    | some true => (sc.v e m).bind fun w e m => match dat m u, dat m w with
      | some y, some z => Res.of ((cmpOp p y z).map fun k => Vl.d (.bool k)) e m
      | _, _ => .stuck
    | none => .stuck
  | _, _ => .stuck
def dispV (f : List D → Vl) (ss : List Sm) : Slots → Cels → Res Vl := fun e m => (smG ss e m).bind fun vs e m => match frzAll vs with
  | some xs => if xs.length ≤ lim then .ok (f xs) e m else .stuck
  | none => .stuck
def sliceV (sa lo hi : Sm) : Slots → Cels → Res Vl := fun e m => (sa.v e m).bind fun v e m => (lo.o e m).bind fun l e m => (hi.o e m).bind fun h e m => match dat m v with
  | some x => Res.of (slD l h x) e m
  | none => .stuck
def inrV (neg : Bool) (sa : Sm) (rs : List Sm) : Slots → Cels → Res Vl := fun e m => (sa.v e m).bind fun v e m => (smV rs e m).bind fun us e m => match dat m v, datAll m us with
  | some (.int i), some ds => Res.of (rngIn neg i ds) e m
  | _, _ => .stuck
/-- a comprehension's turn -/
def turnC (tg : Tg) (own : List Nat) (cond elt : Sm) : D → Slots → Cels → Res (Option D) := fun x e m => match bindT tg (.d x) e with
  | some e => (cond.c e m).bind fun b e m => match b with
    | true => (elt.g e m).bind fun v e m => match frz v with
      | some y => .ok (some y) (wipeE e own) m
      | none => .stuck
    | false => .ok none (wipeE e own) m
  | none => .stuck
/-- what is walked, by what is looked at; by what is kept -/
def itW (r : Res (List Vl)) (k : IK) : Res (List D) := r.bind fun vs e m => match frzAll vs with
  | some ds => Res.of (itemsOf k ds) e m
  | none => .stuck
def compV (tg : Tg) (own : List Nat) (k : IK) (as : List Sm) (cond elt : Sm) : Slots → Cels → Res Vl := fun e m => (itW (smV as e m) k).bind fun items e m =>
  (compL (turnC tg own cond elt) items [] (wipeE e own) m).bind fun xs e' m => .ok (.own xs) (restoreE e' e own) m
/-- the turns of the first of two fors -/
def comp2L (tg : Tg) (own own1 : List Nat) (it1 : Slots → Cels → Res (List D)) (turn1 : D → Slots → Cels → Res (Option D)) : List D → List D → Slots → Cels → Res (List D)
  | [], acc, e, m => .ok acc e m
  | x :: xs, acc, e, m => match bindT tg (.d x) e with
    | some e1 => match it1 e1 m with
      | .ok items e2 m2 => match compL turn1 items acc (wipeE e2 own1) m2 with
        | .ok acc e3 m3 => comp2L tg own own1 it1 turn1 xs acc (wipeE (wipeE e3 own1) own) m3
        | _ => .stuck
      | _ => .stuck
    | none => .stuck
def comp2V (tg : Tg) (own : List Nat) (k : IK) (as : List Sm) (tg1 : Tg) (own1 : List Nat) (k1 : IK) (as1 : List Sm) (cond elt : Sm) : Slots → Cels → Res Vl := fun e m => (itW (smV as e m) k).bind fun items e m =>
  (comp2L tg own own1 (fun e m => itW (smG as1 e m) k1) (turnC tg1 own1 cond elt) items [] (wipeE e own) m).bind fun xs e' m => .ok (.own xs) (restoreE e' e own) m
def callV (call : Nat → List Vl → Cels → FRes) (f : Nat) (ss : List Sm) (ord : List (Nat ⊕ D)) : Slots → Cels → Res Vl := fun e m => (smG ss e m).bind fun vs e m => match arrange (vs.map frzArg) ord with
  | some us => callRes (call f us m) e
  | none => .stuck
def callPV (call : Nat → List Vl → Cels → FRes) (f : Nat) (ss : List Sm) (ord : List (Nat ⊕ D)) : Slots → Cels → Res Vl := fun e m => (smA ss e m).bind fun vs e m => match frzAll vs.1 with
  | some xs => match arrange (xs.map Vl.d) ord with
    | some us => pureRes vs.2 (call f us []) e m
    | none => .stuck
  | none => .stuck
def callLV (call : Nat → List Vl → Cels → FRes) (f : Nat) (ss : List Sm) (ord : List (Nat ⊕ D)) : Slots → Cels → Res Vl := fun e m => (smA ss e m).bind fun vs e m => match arrange (vs.1.map frzArg) ord with
  | some us => lentRes vs.1 (call f us m) e
  | none => .stuck

/-- a fresh list goes to the store -/
def celV (sa : Sm) : Slots → Cels → Res Vl := fun e m => (sa.v e m).bind fun v e m => match sa.var, v with
  | none, .own xs => .ok (.cell m.length) e (m ++ [.arr xs])
  | _, _ => .stuck

/-- list(..), tuple(..) of what is walked -/
def matV (tup : Bool) (k : IK) (as : List Sm) : Slots → Cels → Res Vl := fun e m => (itW (smV as e m) k).bind fun items e m => if items.length ≤ lim then match tup with
    | true => .ok (.d (.tuple items)) e m
    | false => .ok (.own items) e m
  else .stuck
/-- x.index(b), truth values -/
def idxB (b : Bool) : List Bool → Nat → Option Nat
  | [], _ => none
  | x :: r, i => if x == b then some i else idxB b r (i + 1)
def idxD (x y : D) : Option Vl := match x, y with
  | .list xs, .bool b => match boolsOf xs with
    | some bs => (idxB b bs 0).map fun i => Vl.d (.int (i : Nat))
    | none => none
  | _, _ => none
def cidxV (sa sb : Sm) : Slots → Cels → Res Vl := fun e m => (sa.v e m).bind fun v e m => match dat m v with
  | some (.list _) => (sb.v e m).bind fun u e m => match dat m v, dat m u with
    | some x, some y => Res.of (idxD x y) e m
    | _, _ => .stuck
  | _ => .stuck
/-- sum(x, []) -/
def lstsOf : List D → Option (List (List D))
  | [] => some []
  | .list xs :: r => match lstsOf r with
    | some l => some (xs :: l)
    | none => none
  | _ :: _ => none
def sumlD : D → Option Vl
  | .list xs => match lstsOf xs with
    | some l => if l.flatten.length ≤ lim then some (.own l.flatten) else none
    | none => none
  | _ => none
/-- isinstance(e, C), e an exception in the store: by its kind -/
def isEV (bs : List Bool) (sa : Sm) : Slots → Cels → Res Vl := fun e m => (sa.v e m).bind fun v e m => match v with
  | .cell k => match m[k]? with
    | some (.exn c _) => Res.of ((bs[c]?).map fun b => Vl.d (.bool b)) e m
    | _ => .stuck
  | _ => .stuck
/-- its field -/
def fldV (ok : List Nat) (sa : Sm) : Slots → Cels → Res Vl := fun e m => (sa.v e m).bind fun v e m => match v with
  | .cell k => match m[k]? with
    | some (.exn c f) => if c ∈ ok then .ok (.d f) e m else .stuck
    | _ => .stuck
  | _ => .stuck
/-- x.count(True) -/
def cntTD : D → Option Vl
  | .list xs => match boolsOf xs with
    | some bs => some (.d (.int ((bs.filter id).length : Nat)))
    | none => none
  | _ => none
/-- an outcome: the value, or what the def fr says of the exception -/
def outcV (call : Nat → List Vl → Cels → FRes) (t : Nat) (q : Str) (fr : Nat) (ks : List Nat) (sa : Sm) : Slots → Cels → Res Vl := fun e m => match m[t]?, sa.var with
  | some (.tbl q'), none => if q' = q then match sa.v e m with
    | .ok v e m => .ok v e m
    | .exc k f e m => if k ∈ ks then match call fr [.cell m.length] (m ++ [.exn k f]) with
      | .ok (.d x) m2 => if m2.length = m.length + 1 then .ok (.d x) e (m2.take m.length) else .stuck
      | _ => .stuck
      else .stuck
    | .stuck => .stuck
    else .stuck
  | _, _ => .stuck
mutual
def sem : X → Sm
  | .omit => ⟨fun _ _ => .stuck, fun _ _ => .stuck, none, true⟩
  | .var i => ⟨fun e m => getV e m i, tOf fun e m => getV e m i, some i, false⟩
  | .non => .mk' fun e m => .ok (.d .none) e m
  | .bl b => .mk' fun e m => .ok (.d (.bool b)) e m
  | .int i => .mk' fun e m => .ok (.d (.int i)) e m
  | .str s => .mk' fun e m => .ok (.d (.str s)) e m
  | .glob k => .mk' fun e m => Res.of ((G[k]?).map Vl.d) e m
  | .op o a b => .mk' (two2 (binOp o) (sem a) (sem b))
  | .cmp o a b => .mk' (two2 (fun x y => (cmpOp o x y).map fun k => Vl.d (.bool k)) (sem a) (sem b))
  | .chain o p a b c => .mk' (chainV o p (sem a) (sem b) (sem c))
  | .inr neg a rs => .mk' (inrV neg (sem a) (sems rs))
  | .neg a => .mk' (one1 negD (sem a))
  | .not a => ⟨notV (sem a), notT (sem a), none, false⟩
  | .and a b => ⟨andV (sem a) (sem b), andT (sem a) (sem b), none, false⟩
  | .or a b => ⟨orV (sem a) (sem b), orT (sem a) (sem b), none, false⟩
  | .ite c a b => .mk' (iteV (sem c) (sem a) (sem b))
  | .tup es => .mk' (dispV (fun xs => .d (.tuple xs)) (sems es))
  | .lst es => .mk' (dispV (fun xs => .own xs) (sems es))
  | .ix a i => .mk' (two2 ixD (sem a) (sem i))
  | .sl a lo hi => .mk' (sliceV (sem a) (sem lo) (sem hi))
  | .rev a => .mk' (one1 revLD (sem a))
  | .isi k a => .mk' (one1 (fun x => some (.d (.bool (isTy k x)))) (sem a))
  | .b1 b a => .mk' (one1 (b1Op b) (sem a))
  | .b2 b a c => .mk' (two2 (b2Op b) (sem a) (sem c))
  | .comp tg own k as cond elt => .mk' (compV tg own k (sems as) (sem cond) (sem elt))
  | .comp2 tg own k as tg1 own1 k1 as1 cond elt => .mk' (comp2V tg own k (sems as) tg1 own1 k1 (sems as1) (sem cond) (sem elt))
  | .call f es ord => .mk' (callV call f (sems es) ord)
  | .callP f es ord => .mk' (callPV call f (sems es) ord)
  | .callL f es ord => .mk' (callLV call f (sems es) ord)
  | .cel a => .mk' (celV (sem a))
  | .mat tup k as => .mk' (matV tup k (sems as))
  | .cidx a b => .mk' (cidxV (sem a) (sem b))
  | .csum a => .mk' (one1 sumlD (sem a))
  | .trv a => .mk' (one1 trvD (sem a))
  | .sset a => .mk' (one1 ssetD (sem a))
  | .rep a => .mk' (one1 reprD (sem a))
  | .isE bs a => .mk' (isEV bs (sem a))
  | .fld _ ok a => .mk' (fldV ok (sem a))
  | .cntT a => .mk' (one1 cntTD (sem a))
  | .outc t q fr ks a => .mk' (outcV call t q fr ks (sem a))
termination_by structural x => x
def sems : List X → List Sm
  | [] => []
  | x :: xs => sem x :: sems xs
termination_by structural x => x
end

/-! ### statements -/
/-- the turns of a for -/
def forL (turn : D → Slots → Cels → Res Fl) : List D → Slots → Cels → Res Fl
  | [], e, m => .ok .nx e m
  | x :: xs, e, m => (turn x e m).bind fun f e m => match f with
    | .nx => forL turn xs e m
    | .cont => forL turn xs e m
    | .brk => .ok .nx e m
    | .ret v => .ok (.ret v) e m
def whileL (test : Slots → Cels → Res Bool) (body : Slots → Cels → Res Fl) : Nat → Slots → Cels → Res Fl
  | 0, _, _ => .stuck
  | n + 1, e, m => (test e m).bind fun k e m => match k with
    | false => .ok .nx e m
    | true => (body e m).bind fun f e m => match f with
      | .nx => whileL test body n e m
      | .cont => whileL test body n e m
      | .brk => .ok .nx e m
      | .ret v => .ok (.ret v) e m
/-- one value a slot, one after another -/
def parB : List Nat → List Vl → Slots → Option Slots
  | [], [], e => some e
  | i :: is, v :: vs, e => if i < e.length then parB is vs (e.set i (some v)) else none
  | _, _, _ => none
/-- the list that a slot holds for itself -/
def ownAt (e : Slots) (i : Nat) : Option (List D) := match e[i]? with
  | some (some (.own xs)) => some xs
  | _ => none

mutual
def exec : S → Slots → Cels → Res Fl
  | .asg t x, e, m => ((sem G call x).g e m).bind fun v e m => match bindT t v e with
    | some e => .ok .nx e m
    | none => .stuck
  | .par is xs, e, m => (smG (sems G call xs) e m).bind fun vs e m => match parB is vs e with
    | some e => .ok .nx e m
    | none => .stuck
  | .aug i o x, e, m => match e[i]? with
    | some (some (.d (.int a))) => ((sem G call x).v e m).bind fun v e m => match v with
      | .d (.int b) => match augOp o a b with
        | some c => .ok .nx (e.set i (some (.d (.int c)))) m
        | none => .stuck
      | _ => .stuck
    | _ => .stuck
  | .app i x, e, m => match ownAt e i with
    | some _ => ((sem G call x).g e m).bind fun v e m => match frz v, ownAt e i with
      | some y, some xs => if xs.length < lim then .ok .nx (e.set i (some (.own (xs ++ [y])))) m else .stuck
      | _, _ => .stuck
    | none => .stuck
  | .ext i x, e, m => match ownAt e i with
    | some _ => ((sem G call x).v e m).bind fun v e m => match v, ownAt e i with
      | .own ys, some xs => if xs.length + ys.length ≤ lim then .ok .nx (e.set i (some (.own (xs ++ ys)))) m else .stuck
      | _, _ => .stuck
    | none => .stuck
  | .appPop i j x, e, m => match ownAt e i, ownAt e j with
    | some _, some _ => ((sem G call x).v e m).bind fun v e m => match v, ownAt e i, ownAt e j with
      | .d (.int k), some xs, some ys => match ixOf ys.length k with
        | some p => match ys[p]? with
          | some y => if xs.length < lim ∧ i ≠ j ∧ ys.length ≤ lim then .ok .nx ((e.set j (some (.own (ys.eraseIdx p)))).set i (some (.own (xs ++ [y])))) m else .stuck
          | none => .stuck
        | none => .stuck
      | _, _, _ => .stuck
    | _, _ => .stuck
  | .popAt i x, e, m => match ownAt e i with
    | some _ => ((sem G call x).v e m).bind fun v e m => match v, ownAt e i with
      | .d (.int k), some xs => match ixOf xs.length k with
        | some p => if xs.length ≤ lim then .ok .nx (e.set i (some (.own (xs.eraseIdx p)))) m else .stuck
        | none => .stuck
      | _, _ => .stuck
    | none => .stuck
  | .ins i k x, e, m => match ownAt e i with
    | some _ => (smG [sem G call k, sem G call x] e m).bind fun vs e m => match frzAll vs, ownAt e i with
      | some [.int k, y], some xs => if 0 ≤ k ∧ k ≤ 1000000 ∧ xs.length < lim then .ok .nx (e.set i (some (.own (xs.take k.toNat ++ [y] ++ xs.drop k.toNat)))) m else .stuck
      | _, _ => .stuck
    | none => .stuck
  | .setSl i lo hi x, e, m => ((sem G call x).v e m).bind fun v e m => match (sem G call x).var, v with
    | none, .own ys => match ownAt e i with
      | some _ => ((sem G call lo).v e m).bind fun a e m => match a with
        | .d (.int a) => ((sem G call hi).v e m).bind fun b e m => match b, ownAt e i with
          | .d (.int b), some xs => if 0 ≤ a ∧ a ≤ b ∧ a ≤ xs.length ∧ xs.length + ys.length ≤ lim then .ok .nx (e.set i (some (.own (xs.take a.toNat ++ ys ++ xs.drop b.toNat)))) m else .stuck
          | _, _ => .stuck
        | _ => .stuck
      | none => .stuck
    | _, _ => .stuck
  | .setIx i k x, e, m => ((sem G call x).g e m).bind fun v e m => match frz v with
    | some y => (getV e m i).bind fun o e m => ((sem G call k).v e m).bind fun u e m => match o, u with
      | .own _, .d (.int p) => match ownAt e i with
        | some xs => match ixOf xs.length p with
          | some q => .ok .nx (e.set i (some (.own (xs.set q y)))) m
          | none => .stuck
        | none => .stuck
      | .cell c, .d (.int p) => match m[c]? with
        | some (.arr xs) => match ixOf xs.length p with
          | some q => .ok .nx e (m.set c (.arr (xs.set q y)))
          | none => .stuck
        | _ => .stuck
      | _, _ => .stuck
    | none => .stuck
  | .expr x, e, m => ((sem G call x).v e m).bind fun _ e m => .ok .nx e m
  | .ite c a b, e, m => ((sem G call c).t e m).bind fun k e m => match k with
    | true => execs a e m
    | false => execs b e m
  | .for t k as body, e, m => (itW (smG (sems G call as) e m) k).bind fun items e m => forL (fun x e m => match bindT t (.d x) e with
    | some e => execs body e m
    | none => .stuck) items e m
  | .while n c body, e, m => whileL (sem G call c).t (execs body) n e m
  | .ret x, e, m => ((sem G call x).r e m).bind fun v e m => .ok (.ret v) e m
  | .pass, e, m => .ok .nx e m
  | .never, _, _ => .stuck
  | .brk, e, m => .ok .brk e m
  | .cont, e, m => .ok .cont e m
  | .raise k x, e, m => ((sem G call x).g e m).bind fun v e m => match v with
    | .d y => .exc k y e m
    | _ => .stuck
termination_by structural x => x
def execs : List S → Slots → Cels → Res Fl
  | [], e, m => .ok .nx e m
  | s :: r, e, m => (exec s e m).bind fun f e m => match f with
    | .nx => execs r e m
    | f => .ok f e m
termination_by structural x => x
end
end

/-- a def: how many slots it has, its body -/
structure Fn where
  slots : Nat
  body : List S

def startE (n : Nat) (us : List Vl) : Slots := us.map some ++ List.replicate (n - us.length) none
def outcome : Res Fl → FRes
  | .ok .nx _ m => .ok (.d .none) m
  | .ok (.ret v) _ m => .ok v m
  | .exc c f _ m => .exc c f m
  | _ => .stuck
/-- the defs, so many calls deep -/
def callD (G : List D) (F : List Fn) : Nat → Nat → List Vl → Cels → FRes
  | 0, _, _, _ => .stuck
  | n + 1, f, us, m => match F[f]? with
    | some fn => if us.length ≤ fn.slots then outcome (execs G (callD G F n) fn.body (startE fn.slots us) m) else .stuck
    | none => .stuck
end Pv

/-! PvE: enumerate of a tuple. -/
namespace Pv
open PySem PySem.Spec PyProof.Rows L2
open Sem (wp)

set_option maxHeartbeats 1000000 in
theorem meets_enum1 {v : Value} {o : Obj} {H : Heap → Prop} (B : Begins v o H) :
    Meets (Builtin.«enumerate.__new__» ⟨[.type "enumerate", v], []⟩) (fun _ R s => H s.heap ∧
      R (.ok (.ret (.ref (s.heap.push o).objs.size))) { s with heap := (s.heap.push o).push { cls := .type "enumerate", data := .fields #[.none, .bool false, .ref s.heap.objs.size, rawInt 0, .none, .none] } }) :=
  .of_wp fun prog w A R s h => by
    obtain ⟨hp, g, d, tk, os⟩ := s; obtain ⟨h1, h⟩ := h
    have hsub := sub_enumerate
    have q1 : ∀ {A' : Around} {E : Value → Shared → Prop} {Q : Value → Shared → Prop}, Q (.ref hp.objs.size) ⟨hp.push o, g, d, tk, os⟩ → wpAny (model prog w) A' (pyIter v) Q E ⟨hp, g, d, tk, os⟩ :=
      fun q => B.iter prog w _ _ ⟨hp, g, d, tk, os⟩ _ h1 q
    wp_walk using q1
    refine wpAny_stack_any fun st => wpAny_pure ?_
    split
    · rename_i c _ _ _ _ _
      cases (c == Value.type "enumerate")
      · wp_walk using q1
        exact ⟨_, rfl, h⟩
      · wp_walk using q1
        exact ⟨_, rfl, h⟩
    · wp_walk using q1
      exact ⟨_, rfl, h⟩
section
variable {prog : Program} {w : World} {A : Around} {E : Value → Shared → Prop} {s : Shared}
theorem enum1_begins {v : Value} {o : Obj} {H : Heap → Prop} {Q : Value → Shared → Prop} (B : Begins v o H) (h1 : H s.heap)
    (h : ∀ h', IsEnum h' (s.heap.objs.size + 1) s.heap.objs.size 0 .none → h'.get? s.heap.objs.size = some o → h'.objs.size = s.heap.objs.size + 2 →
      (∀ b o, s.heap.get? b = some o → h'.get? b = some o) → Q (.ref (s.heap.objs.size + 1)) { s with heap := h' }) :
    wpAny (model prog w) A (call (.type "enumerate") [v]) Q E s := by
  refine callType_new F.called_enumerate (by decide) (F.typeCall_enumerate_1 _) (F.newCall_enumerate_1 _) (fun obj => F.args_object_init_2 obj _) F.entry_enumerate_new
    (meets_enum1 B) ⟨h1, ?_⟩
  have hz : (s.heap.push o).objs.size = s.heap.objs.size + 1 := Heap.size_push ..
  show _ ∧ _
  rw [hz]
  have he : IsEnum ((s.heap.push o).push { cls := .type "enumerate", data := .fields #[.none, .bool false, .ref s.heap.objs.size, rawInt 0, .none, .none] }) (s.heap.objs.size + 1) s.heap.objs.size 0 .none := by
    have := Heap.get?_push_size (s.heap.push o) (o := { cls := .type "enumerate", data := .fields #[.none, .bool false, .ref s.heap.objs.size, rawInt 0, .none, .none] }) rfl
    rw [hz] at this; exact this
  refine ⟨⟨_, he, rfl⟩, h _ he (Heap.get?_push_of_some _ (Heap.get?_push_size _ B.free)) (by rw [Heap.size_push, hz]) fun b o x => Heap.get?_push_of_some _ (Heap.get?_push_of_some _ x)⟩
end
/-- the tuple at a, each item in a new pair -/
def IteT (K : PySem.W.Frag) (a : Addr) : It :=
  ⟨fun i H => ∃ (xs : List V) (x : V), SqT K H a xs ∧ xs[i]? = some x, fun i H v H' => ∃ T x, v = .ref T ∧ H T = none ∧ H' = upd H T (.tup [.int (i : Nat), x]) ∧ ∀ xs, SqT K H a xs → xs[i]? = some x, fun i H => ∃ xs : List V, SqT K H a xs ∧ i = xs.length⟩
theorem turn_enumT {P : Program} {w : World} {K : PySem.W.Frag} {elts : List Expr} {kk : Nat} {tpos : Pos} (a e it : Addr) (hai : a ≠ it) (hae : a ≠ e) :
    Turn P w K (.Tuple elts kk tpos) (IteT K a) [e, it] e (fun i h => (∃ old, IsEnum h e it ((i : Nat) : Int) old) ∧ h.IsTupleIter it a i ∧ e ≠ it) where
  mem := by simp
  obj := fun i h st b hb => by
    obtain ⟨⟨old, he⟩, ⟨o, ho, hc, hd⟩, _⟩ := st
    have e' : b = e ∨ b = it := by simpa using hb
    rcases e' with z | z
    · rw [z]; exact ⟨_, he, fun v q => nomatch q⟩
    · rw [z]; exact ⟨o, ho, fun v q => by rw [hd] at q; cases q⟩
  keep := fun i h h' st k => let ⟨⟨old, he⟩, hi, hne⟩ := st; ⟨⟨old, k e (by simp) _ he⟩, hi.at fun o q => k it (by simp) o q, hne⟩
  item := by
    intro X hP hw hK hc i pins s σ H E I hf st hg
    subst hP hw hK
    obtain ⟨⟨old, he⟩, hit, hne⟩ := st
    obtain ⟨xs, x, hq, hx⟩ := hg
    obtain ⟨its, rv, p, hz⟩ := I.tuple hq
    obtain ⟨u, hu, ru⟩ := rv.get hx
    have hel : e < s.heap.objs.size := Heap.lt_size he
    have hil : it < s.heap.objs.size := by obtain ⟨_, q, _⟩ := hit; exact Heap.lt_size q
    have hlt : i < its.toArray.size := by
      have := (List.getElem?_eq_some_iff.mp hu).1
      simpa using this
    have D : Draws X.prog X.w X.A.in1 it [it, a] its.toArray.size (fun i v => its.toArray[i]? = some v) (fun i h => h.IsTupleIter it a i ∧ h.IsTuple a its.toArray) := Draws.tuple (show X.A.in1.handled = none from I.ok.hd hc) it a hai its.toArray
    refine wpAny_pyNext_enum_itemD D he ⟨hit, p⟩ hlt hne (by simp; exact ⟨hne, fun z => hae z.symm⟩) fun u' h' tk hu' ho hit' hT hsz hk => ?_
    have eu : u' = u := by
      have : its[i]? = some u' := by simpa using hu'
      rw [hu] at this
      exact (Option.some.inj this).symm
    subst eu
    refine ⟨_, rfl, wpAny_letOwnedTupleGo_enum (s := { s with heap := h', toks := tk + 1 }) ho fun h'' he' sb => ?_⟩
    have hT2 : h''.get? s.heap.objs.size = some { cls := .type "tuple", data := .seq #[.int i tk, u'] } := (sb.2 _ (Nat.ne_of_gt hel)).trans hT
    have new : ObjOk X.prog X.w (upd H s.heap.objs.size (.tup [.int (i : Nat), x])) h'' s.heap.objs.size (.tup [.int (i : Nat), x]) :=
      ⟨by show 2 ≤ sizeLine; decide, [.int i tk, u'], .cons ⟨_, rfl⟩ (.cons ru .nil), ⟨_, hT2, rfl, _, rfl⟩⟩
    have I1 : Inv X pins σ (upd H s.heap.objs.size (.tup [.int (i : Nat), x])) { s with heap := h'', toks := tk + 1 } :=
      I.turnedNew (ch := [e, it]) (fun b ob hb q => (sb.2 b (fun z => hb (by simp [z]))).trans (hk b ob (fun z => hb (by simp [z])) (fun z => hb (by simp [z])) q)) hf (Nat.le_refl _) new
    refine ⟨.ref s.heap.objs.size, _, I1, rfl, ⟨_, x, rfl, I.hok.fresh (Nat.le_refl _), rfl, fun ys hy => by rw [I.tuple_inj hy hq]; exact hx⟩, ⟨⟨u', ?_⟩, hit'.1.at fun o q => (sb.2 it (Ne.symm hne)).trans q, hne⟩, fun b hb => ?_⟩
    · have e1 : ((i + 1 : Nat) : Int) = (i : Int) + 1 := by omega
      rw [e1]; exact he'
    · have hb' : b < s.heap.objs.size := by
        have e' : b = e ∨ b = it := by simpa using hb
        rcases e' with z | z
        · rw [z]; exact hel
        · rw [z]; exact hil
      rw [upd_ne (Nat.ne_of_lt hb')]
      exact (hf b hb).1
  done := by
    intro X hP hw hK hc i pins s σ H E I hf st hg
    subst hP hw hK
    obtain ⟨⟨old, he⟩, hit, hne⟩ := st
    obtain ⟨xs, hq, hx⟩ := hg
    obtain ⟨its, rv, p, hz⟩ := I.tuple hq
    obtain ⟨f0, f1, f2, f3, f4, f5⟩ := hf it (by simp)
    have hl := rv.length
    have D : Draws X.prog X.w X.A.in1 it [it, a] its.toArray.size (fun i v => its.toArray[i]? = some v) (fun i h => h.IsTupleIter it a i ∧ h.IsTuple a its.toArray) := Draws.tuple (show X.A.in1.handled = none from I.ok.hd hc) it a hai its.toArray
    have hi : i = its.toArray.size := by simp; omega
    subst hi
    exact wpAny_pyNext_enum_endD D he ⟨hit, p⟩ fun h' eb => ⟨rfl, I.turned (t' := s.toks) (fun b o hb q => eb b o hb q) f0 f1 f3 f4 f5⟩
  self := fun A i s Q E st h => let ⟨⟨_, he⟩, _⟩ := st; wpAny_pyIter_enum he h
/-- a list or a tuple, its items in new pairs -/
def iEnumA (K : PySem.W.Frag) (ta : TA) : TI := fun σ H R => ta σ H fun vs H1 => ∃ a xs, vs = [.ref a] ∧ ((SqL K H1 a xs ∧ R (Ite K a) H1) ∨ (SqT K H1 a xs ∧ R (IteT K a) H1))
theorem pi_enumA {X : Cx} {e : Expr} {ta : TA} {p pos tpos : Pos} {elts : List Expr} {kk : Nat} (hg : Gl X "enumerate") (hm : X.mg "enumerate" = none) (ha : PA X [e] ta) (hs : starEach [e] X.env = [(false, eval e X.env)]) :
    PI X (.Tuple elts kk tpos) (.Call (.Name "enumerate" p) [e] [] pos) (iEnumA X.K ta) := by
  refine ⟨fun pins s σ H R I h => ?_⟩
  refine Call_ (ld_blt I hg hm boot_enumerate (PyProof.Rows.callWith_type1 (thn (ha.run pos pins s σ H _ I h) fun us s1 ⟨vs, H1, I1, r1, q1⟩ => ?_) hs rfl))
  obtain ⟨a, xs, ex, q⟩ := q1
  subst ex
  cases r1 with
  | cons r rr =>
    cases rr
    cases r
    have fr : ∀ b, b ∈ [s1.heap.objs.size + 1, s1.heap.objs.size] → FpOk X pins H1 b := fun b hb => by
      have e' : b = s1.heap.objs.size + 1 ∨ b = s1.heap.objs.size := by simpa using hb
      have hle : s1.heap.objs.size ≤ b := by
        rcases e' with z | z
        · rw [z]; exact Nat.le_add_right _ _
        · rw [z]; exact Nat.le_refl _
      exact I1.fpOk hle (I1.hok.fresh hle)
    rcases q with ⟨hq, q⟩ | ⟨hq, q⟩
    · obtain ⟨its, rv, p', hz⟩ := I1.list hq
      refine call_enumerate_list p'.isList fun h' he hit hsz hk => wpAny_pyIter_enum he ?_
      have I2 : Inv X pins σ H1 { s1 with heap := h' } := I1.kept (t' := s1.toks) hk
      exact ⟨s1.heap.objs.size + 1, [s1.heap.objs.size + 1, s1.heap.objs.size], _, _, H1, rfl, I2, turn_enum a (s1.heap.objs.size + 1) s1.heap.objs.size, ⟨⟨.none, he⟩, hit, Nat.succ_ne_self _⟩, fr, q⟩
    · obtain ⟨its, rv, p', hz⟩ := I1.tuple hq
      have hlt : a < s1.heap.objs.size := by obtain ⟨o, ho, _⟩ := id p'; exact Heap.lt_size ho
      refine enum1_begins (begins_tuple a its.toArray) (show s1.heap.IsTuple a its.toArray from p') fun h' he hit hsz hk => wpAny_pyIter_enum he ?_
      have I2 : Inv X pins σ H1 { s1 with heap := h' } := I1.kept (t' := s1.toks) hk
      exact ⟨s1.heap.objs.size + 1, [s1.heap.objs.size + 1, s1.heap.objs.size], _, _, H1, rfl, I2, turn_enumT a (s1.heap.objs.size + 1) s1.heap.objs.size (Nat.ne_of_lt hlt) (Nat.ne_of_lt (Nat.lt_succ_of_lt hlt)), ⟨⟨.none, he⟩, ⟨_, hit, rfl, rfl⟩, Nat.succ_ne_self _⟩, fr, q⟩
end Pv

/-! PvR: how the evaluator's data stand in the hand layer's abstract heap. -/
namespace Pv
open PySem PySem.Spec PyProof.Rows L2

/-- the module's things: its defs (name, parameters), its constants, its exceptions (class, field), the tables of its lambdas' makers -/
structure Mo where
  fns : List (Str × List Str)
  G : List (Str × D)
  excs : List (Addr × Option Str)
  tab : Str → Option Addr

theorem lim_ok {n : Nat} (h : n ≤ lim) : n ≤ sizeLine := Nat.le_trans h (by decide)
theorem lim_lt {n : Nat} (h : n < lim) : n < sizeLine := Nat.lt_of_lt_of_le h (by decide)

/-! ### data in a heap: lists that nobody writes -/
mutual
inductive Dq (K : PySem.W.Frag) (H : Hp) (W : Addr → Prop) : V → D → Prop
  | non : Dq K H W .non .none
  | bl (b : Bool) : Dq K H W (.bl b) (.bool b)
  | int (i : Int) : Dq K H W (.int i) (.int i)
  | str (x : Str) : Dq K H W (.str x) (.str x)
  | lst {a : Addr} {xs : List V} {ds : List D} : Rd H a (.lst xs) → ¬ W a → DqAll K H W xs ds → Dq K H W (.ref a) (.list ds)
  | tup {a : Addr} {xs : List V} {ds : List D} : SqT K H a xs → DqAll K H W xs ds → Dq K H W (.ref a) (.tuple ds)
inductive DqAll (K : PySem.W.Frag) (H : Hp) (W : Addr → Prop) : List V → List D → Prop
  | nil : DqAll K H W [] []
  | cons {v : V} {vs : List V} {d : D} {ds : List D} : Dq K H W v d → DqAll K H W vs ds → DqAll K H W (v :: vs) (d :: ds)
end

section
variable {K : PySem.W.Frag} {H H' : Hp} {W W' : Addr → Prop}
mutual
theorem Dq.dp : ∀ {d : D} {v : V}, Dq K H W v d → Dp K H v d
  | .none, _, h => by cases h; exact .non
  | .bool b, _, h => by cases h; exact .bl b
  | .int i, _, h => by cases h; exact .int i
  | .str x, _, h => by cases h; exact .str x
  | .list ds, _, h => by cases h with | lst a b c => exact .lst (.inl a) (DqAll.dp c)
  | .tuple ds, _, h => by cases h with | tup a c => exact .tup a (DqAll.dp c)
  | .dict _, _, h => by cases h
theorem DqAll.dp : ∀ {ds : List D} {vs : List V}, DqAll K H W vs ds → DpAll K H vs ds
  | [], _, h => by cases h; exact .nil
  | d :: ds, _, h => by cases h with | cons a b => exact .cons (Dq.dp a) (DqAll.dp b)
end
theorem rd_keep {a : Addr} {u : HO} (k : ∀ o, H a = some o → H' a = some o) (h : Rd H a u) : Rd H' a u := by
  rcases h with h | ⟨o, h⟩
  · exact .inl (k _ h)
  · exact .inr ⟨o, k _ h⟩
theorem rd_some {a : Addr} {u : HO} (h : Rd H a u) : H a ≠ none := by
  rcases h with h | ⟨o, h⟩ <;> rw [h] <;> exact fun e => nomatch e
theorem sqt_keep {a : Addr} {xs : List V} (k : ∀ o, H a = some o → H' a = some o) (h : SqT K H a xs) : SqT K H' a xs := by
  rcases h with h | h
  · exact .inl (rd_keep k h)
  · exact .inr h
/-- what may be written; a table of code objects too -/
def MutT : HO → Prop
  | .tbl _ => True
  | o => Mut (some o)
/-- the writable things are tracked, and may be written -/
def Wok (H : Hp) (W : Addr → Prop) : Prop := ∀ a, W a → ∃ o, H a = some o ∧ MutT o
theorem Wok.tup (w : Wok H W) {a : Addr} {xs : List V} (h : Rd H a (.tup xs)) : ¬ W a := fun z => by
  obtain ⟨o, e, m⟩ := w a z
  rcases h with h | ⟨ob, h⟩ <;> (rw [h] at e; cases e; exact m)
mutual
theorem Dq.keep (w : Wok H W) (k : ∀ a o, H a = some o → ¬ W a → H' a = some o) (ww : ∀ a, H a ≠ none → W' a → W a) : ∀ {d : D} {v : V}, Dq K H W v d → Dq K H' W' v d
  | .none, _, h => by cases h; exact .non
  | .bool b, _, h => by cases h; exact .bl b
  | .int i, _, h => by cases h; exact .int i
  | .str x, _, h => by cases h; exact .str x
  | .list ds, _, h => by cases h with | lst a b c => exact .lst (rd_keep (fun o e => k _ o e b) a) (fun z => b (ww _ (rd_some a) z)) (DqAll.keep w k ww c)
  | .tuple ds, _, h => by
    cases h with
    | tup a c =>
      refine .tup ?_ (DqAll.keep w k ww c)
      rcases a with a | a
      · exact .inl (rd_keep (fun o e => k _ o e (w.tup a)) a)
      · exact .inr a
  | .dict _, _, h => by cases h
theorem DqAll.keep (w : Wok H W) (k : ∀ a o, H a = some o → ¬ W a → H' a = some o) (ww : ∀ a, H a ≠ none → W' a → W a) : ∀ {ds : List D} {vs : List V}, DqAll K H W vs ds → DqAll K H' W' vs ds
  | [], _, h => by cases h; exact .nil
  | d :: ds, _, h => by cases h with | cons a b => exact .cons (Dq.keep w k ww a) (DqAll.keep w k ww b)
end
theorem DqAll.length : ∀ {ds : List D} {vs : List V}, DqAll K H W vs ds → vs.length = ds.length
  | [], _, h => by cases h; rfl
  | d :: ds, _, h => by cases h with | cons a b => rw [List.length_cons, List.length_cons, DqAll.length b]
theorem DqAll.get : ∀ {ds : List D} {vs : List V} {i : Nat} {x : D}, DqAll K H W vs ds → ds[i]? = some x → ∃ v, vs[i]? = some v ∧ Dq K H W v x
  | [], _, i, x, h, e => by simp at e
  | d :: ds, _, 0, x, h, e => by
    cases h with | cons a b => exact ⟨_, rfl, by simp at e; rw [← e]; exact a⟩
  | d :: ds, _, i + 1, x, h, e => by
    cases h with
    | cons a b =>
      obtain ⟨v, h1, h2⟩ := DqAll.get (i := i) (x := x) b (by simpa using e)
      exact ⟨v, by simpa using h1, h2⟩
theorem DqAll.getV : ∀ {ds : List D} {vs : List V} {i : Nat} {v : V}, DqAll K H W vs ds → vs[i]? = some v → ∃ x, ds[i]? = some x ∧ Dq K H W v x
  | [], _, i, x, h, e => by cases h; simp at e
  | d :: ds, _, 0, x, h, e => by
    cases h with | cons a b => exact ⟨_, rfl, by simp at e; rw [← e]; exact a⟩
  | d :: ds, _, i + 1, x, h, e => by
    cases h with
    | cons a b =>
      obtain ⟨v, h1, h2⟩ := DqAll.getV (i := i) (v := x) b (by simpa using e)
      exact ⟨v, by simpa using h1, h2⟩
theorem DqAll.append : ∀ {ds es : List D} {vs us : List V}, DqAll K H W vs ds → DqAll K H W us es → DqAll K H W (vs ++ us) (ds ++ es)
  | [], _, _, _, h, h' => by cases h; exact h'
  | d :: ds, _, _, _, h, h' => by cases h with | cons a b => exact .cons a (DqAll.append b h')
theorem DqAll.take : ∀ (n : Nat) {ds : List D} {vs : List V}, DqAll K H W vs ds → DqAll K H W (vs.take n) (ds.take n)
  | 0, _, _, h => .nil
  | n + 1, [], _, h => by cases h; exact .nil
  | n + 1, d :: ds, _, h => by cases h with | cons a b => exact .cons a (DqAll.take n b)
theorem DqAll.drop : ∀ (n : Nat) {ds : List D} {vs : List V}, DqAll K H W vs ds → DqAll K H W (vs.drop n) (ds.drop n)
  | 0, _, _, h => h
  | n + 1, [], _, h => by cases h; exact .nil
  | n + 1, d :: ds, _, h => by cases h with | cons a b => exact DqAll.drop n b
theorem DqAll.reverse : ∀ {ds : List D} {vs : List V}, DqAll K H W vs ds → DqAll K H W vs.reverse ds.reverse
  | [], _, h => by cases h; exact .nil
  | d :: ds, _, h => by cases h with | cons a b => rw [List.reverse_cons, List.reverse_cons]; exact (DqAll.reverse b).append (.cons a .nil)
theorem DqAll.set {x : D} {v : V} (r : Dq K H W v x) : ∀ {ds : List D} {vs : List V} (i : Nat), DqAll K H W vs ds → DqAll K H W (vs.set i v) (ds.set i x)
  | [], _, i, h => by cases h; exact .nil
  | d :: ds, _, 0, h => by cases h with | cons a b => exact .cons r b
  | d :: ds, _, i + 1, h => by cases h with | cons a b => exact .cons a (DqAll.set r i b)
theorem DqAll.eraseIdx : ∀ {ds : List D} {vs : List V} (i : Nat), DqAll K H W vs ds → DqAll K H W (vs.eraseIdx i) (ds.eraseIdx i)
  | [], _, i, h => by cases h; exact .nil
  | d :: ds, _, 0, h => by cases h with | cons a b => exact b
  | d :: ds, _, i + 1, h => by cases h with | cons a b => exact .cons a (DqAll.eraseIdx i b)
theorem DqAll.rep {ds : List D} {vs : List V} (h : DqAll K H W vs ds) : ∀ n : Nat, DqAll K H W (List.replicate n vs).flatten (List.replicate n ds).flatten
  | 0 => .nil
  | n + 1 => by
    rw [List.replicate_succ, List.replicate_succ, List.flatten_cons, List.flatten_cons]
    exact h.append (DqAll.rep h n)
theorem DqAll.ints : ∀ {ds : List D} {vs : List V} {ns : List Int}, DqAll K H W vs ds → intsOf ds = some ns → vs = ns.map V.int ∧ ds = ns.map PyData.int
  | [], _, ns, h, e => by cases h; cases e; exact ⟨rfl, rfl⟩
  | d :: ds, _, ns, h, e => by
    cases h with
    | cons a b =>
      cases a with
      | int i =>
        unfold intsOf at e
        cases q : intsOf ds with
        | none => rw [q] at e; cases e
        | some l =>
          rw [q] at e
          cases e
          obtain ⟨e1, e2⟩ := DqAll.ints b q
          exact ⟨by rw [e1]; rfl, by rw [e2]; rfl⟩
      | _ => cases e
theorem DqAll.bools : ∀ {ds : List D} {vs : List V} {bs : List Bool}, DqAll K H W vs ds → boolsOf ds = some bs → vs = bs.map V.bl ∧ ds = bs.map PyData.bool
  | [], _, ns, h, e => by cases h; cases e; exact ⟨rfl, rfl⟩
  | d :: ds, _, ns, h, e => by
    cases h with
    | cons a b =>
      cases a with
      | bl i =>
        unfold boolsOf at e
        cases q : boolsOf ds with
        | none => rw [q] at e; cases e
        | some l =>
          rw [q] at e
          cases e
          obtain ⟨e1, e2⟩ := DqAll.bools b q
          exact ⟨by rw [e1]; rfl, by rw [e2]; rfl⟩
      | _ => cases e
theorem DqAll.of_ints : ∀ (ns : List Int), DqAll K H W (ns.map V.int) (ns.map PyData.int)
  | [] => .nil
  | n :: ns => .cons (.int n) (DqAll.of_ints ns)
mutual
/-- data without lists stand wherever the lists stand -/
theorem Dq.wide : ∀ {d : D} {v : V}, noLst d = true → Dq K H W v d → Dq K H W' v d
  | .none, _, _, h => by cases h; exact .non
  | .bool b, _, _, h => by cases h; exact .bl b
  | .int i, _, _, h => by cases h; exact .int i
  | .str x, _, _, h => by cases h; exact .str x
  | .list ds, _, n, h => by cases n
  | .tuple ds, _, n, h => by cases h with | tup a c => exact .tup a (DqAll.wide n c)
  | .dict _, _, _, h => by cases h
theorem DqAll.wide : ∀ {ds : List D} {vs : List V}, noLstAll ds = true → DqAll K H W vs ds → DqAll K H W' vs ds
  | [], _, _, h => by cases h; exact .nil
  | d :: ds, _, n, h => by
    cases h with
    | cons a b =>
      unfold noLstAll at n
      rw [Bool.and_eq_true] at n
      exact .cons (Dq.wide n.1 a) (DqAll.wide n.2 b)
end
end

/-! ### values, slots, the store -/
/-- a value, by what may be read -/
def LR (K : PySem.W.Frag) (H : Hp) (W : Addr → Prop) (μ : List Addr) (u : V) : Vl → Prop
  | .d x => Dq K H W u x
  | .own xs => ∃ a vs, u = .ref a ∧ H a = some (.lst vs) ∧ DqAll K H W vs xs ∧ a ∉ μ
  | .cell k => ∃ a, μ[k]? = some a ∧ u = .ref a
/-- a caught exception of the class C at a, its dict at dx -/
def excO (C dx a : Addr) : HO := .ext fun h => ∃ oe : Obj, h.get? a = some oe ∧ Zc (.ref C) (some dx) oe ∧ ∃ vs, oe.data = .fields vs
/-- a table of code objects, each of the name q and never written -/
def TabW (H : Hp) (W : Addr → Prop) (P : Addr) (q : Str) : Prop := ∃ ps : Array Value, H P = some (.tbl ps) ∧ TriplesOk ps.toList ∧ ∀ (pos : Pos) (cv : Value), codeAmong pos ps.toList = some cv → ∃ b, cv = .ref b ∧ H b = some (LamX.CodeO b q) ∧ ¬ W b
def CelR (M : Mo) (K : PySem.W.Frag) (H : Hp) (W : Addr → Prop) (a : Addr) : Cel → Prop
  | .arr xs => ∃ vs, H a = some (.lst vs) ∧ DqAll K H W vs xs
  | .tbl q => M.tab q = some a ∧ TabW H W a q
  | .exn k f => ∃ C fl dx u, M.excs[k]? = some (C, some fl) ∧ H a = some (excO C dx a) ∧ H dx = some (.xd [(fl, u)]) ∧ Dq K H W u f
theorem CelR.keep {M : Mo} {K : PySem.W.Frag} {H H' : Hp} {W W' : Addr → Prop} {a : Addr} (w : Wok H W) (k : ∀ a o, H a = some o → ¬ W a → H' a = some o) (ww : ∀ a, H a ≠ none → W' a → W a) (ka : ∀ o, H a = some o → H' a = some o) : ∀ {c : Cel}, CelR M K H W a c → CelR M K H' W' a c
  | .arr xs, h => by
    obtain ⟨vs, e, q⟩ := h
    exact ⟨vs, ka _ e, DqAll.keep w k ww q⟩
  | .tbl q, h => by
    obtain ⟨t, ps, e, tr, am⟩ := h
    refine ⟨t, ps, ka _ e, tr, fun pos cv z => ?_⟩
    obtain ⟨b, e1, e2, e3⟩ := am pos cv z
    exact ⟨b, e1, k b _ e2 e3, fun z => e3 (ww b (by rw [e2]; exact fun z => nomatch z) z)⟩
  | .exn j f, h => by
    obtain ⟨C, fl, dx, u, e1, e2, e3, e4⟩ := h
    refine ⟨C, fl, dx, u, e1, ka _ e2, k dx _ e3 fun z => ?_, Dq.keep w k ww e4⟩
    obtain ⟨o, z1, z2⟩ := w dx z
    rw [e3] at z1
    cases z1
    exact z2
/-- a slot's own list stands at a -/
def OwnS (e : Slots) (σ : L2.St) (a : Addr) : Prop := ∃ (i : Nat) (xs : List D), e[i]? = some (some (.own xs)) ∧ σ[i]? = some (some (.ref a))

/-- the entry: the heap, the cells, the writable -/
structure Bs where
  H : Hp
  μ : List Addr
  W : Addr → Prop
  wt : ∀ a, W a → H a ≠ none

structure StR (M : Mo) (K : PySem.W.Frag) (H : Hp) (W : Addr → Prop) (μ : List Addr) (m : Cels) : Prop where
  wok : Wok H W
  μw : ∀ a ∈ μ, W a
  nd : μ.Nodup
  cel : Paired (CelR M K H W) μ m

structure SR (M : Mo) (K : PySem.W.Frag) (B : Bs) (σ : L2.St) (H : Hp) (W : Addr → Prop) (μ : List Addr) (e : Slots) (m : Cels) : Prop where
  st : StR M K H W μ m
  keep : ∀ a o, B.H a = some o → a ∉ B.μ → H a = some o
  bt : ∀ a, B.H a ≠ none → H a ≠ none
  bw : ∀ a, B.W a → W a
  wb : ∀ a, B.H a ≠ none → W a → B.W a
  pre : ∃ r, μ = B.μ ++ r
  new : ∀ a ∈ μ, a ∈ B.μ ∨ B.H a = none
  len : e.length = σ.length
  env : ∀ (i : Nat) (v : Vl), e[i]? = some (some v) → ∃ u, σ[i]? = some (some u) ∧ LR K H W μ u v
  own : ∀ a, OwnS e σ a → W a ∧ B.H a = none
  dis : ∀ (i j : Nat) (xs ys : List D) (a : Addr), i ≠ j → e[i]? = some (some (.own xs)) → e[j]? = some (some (.own ys)) → σ[i]? = some (some (.ref a)) → σ[j]? = some (some (.ref a)) → False

/-- from one state to a later one, over an expression -/
structure Ext (σ : L2.St) (H : Hp) (W : Addr → Prop) (μ : List Addr) (e : Slots) (H' : Hp) (W' : Addr → Prop) (μ' : List Addr) (e' : Slots) : Prop where
  keep : ∀ a o, H a = some o → a ∉ μ → H' a = some o
  there : ∀ a, H a ≠ none → H' a ≠ none
  wk : ∀ a, H a ≠ none → W' a → W a
  pre : ∃ r, μ' = μ ++ r
  new : ∀ a ∈ μ', a ∈ μ ∨ H a = none
  wd : ∀ a, W a → W' a ∨ OwnS e σ a
  el : ∀ (i : Nat) (xs : List D), e'[i]? = some (some (.own xs)) → e[i]? = some (some (.own xs))

section
variable {M : Mo} {K : PySem.W.Frag} {B : Bs} {σ : L2.St} {H H1 H2 : Hp} {W W1 W2 : Addr → Prop} {μ μ1 μ2 : List Addr} {e e1 e2 : Slots} {m m1 m2 : Cels} {u : V} {v : Vl}

theorem Ext.refl : Ext σ H W μ e H W μ e :=
  ⟨fun _ _ h _ => h, fun _ h => h, fun _ _ h => h, ⟨[], by simp⟩, fun _ h => .inl h, fun _ h => .inl h, fun _ _ h => h⟩
theorem Ext.own (x : Ext σ H W μ e H1 W1 μ1 e1) {a : Addr} (h : OwnS e1 σ a) : OwnS e σ a := let ⟨i, xs, h1, h2⟩ := h; ⟨i, xs, x.el i xs h1, h2⟩
theorem Ext.trans (wm : ∀ a ∈ μ, H a ≠ none) (x : Ext σ H W μ e H1 W1 μ1 e1) (y : Ext σ H1 W1 μ1 e1 H2 W2 μ2 e2) : Ext σ H W μ e H2 W2 μ2 e2 where
  keep := fun a o h n => y.keep a o (x.keep a o h n) fun z => by
    rcases x.new a z with z | z
    · exact n z
    · rw [h] at z; cases z
  there := fun a h => y.there a (x.there a h)
  wk := fun a h z => x.wk a h (y.wk a (x.there a h) z)
  pre := let ⟨r, h⟩ := x.pre; let ⟨r', h'⟩ := y.pre; ⟨r ++ r', by rw [h', h, List.append_assoc]⟩
  new := fun a z => by
    rcases y.new a z with z | z
    · exact x.new a z
    · by_cases h : H a = none
      · exact .inr h
      · exact absurd z (x.there a h)
  wd := fun a z => by
    rcases x.wd a z with z | z
    · rcases y.wd a z with z | z
      · exact .inl z
      · exact .inr (x.own z)
    · exact .inr z
  el := fun i xs h => x.el i xs (y.el i xs h)

theorem StR.μt (s : StR M K H W μ m) : ∀ a ∈ μ, H a ≠ none := fun a h => by
  obtain ⟨o, e, _⟩ := s.wok a (s.μw a h)
  rw [e]
  exact fun z => nomatch z
theorem SR.μt (s : SR M K B σ H W μ e m) : ∀ a ∈ μ, H a ≠ none := s.st.μt
theorem Ext.dq (s : StR M K H W μ m) (x : Ext σ H W μ e H1 W1 μ1 e1) {d : D} (h : Dq K H W u d) : Dq K H1 W1 u d :=
  h.keep s.wok (fun a o q n => x.keep a o q fun z => n (s.μw a z)) x.wk
theorem Ext.dqs (s : StR M K H W μ m) (x : Ext σ H W μ e H1 W1 μ1 e1) {ds : List D} {us : List V} (h : DqAll K H W us ds) : DqAll K H1 W1 us ds :=
  h.keep s.wok (fun a o q n => x.keep a o q fun z => n (s.μw a z)) x.wk
theorem Ext.lr (s : StR M K H W μ m) (x : Ext σ H W μ e H1 W1 μ1 e1) : ∀ {v : Vl}, LR K H W μ u v → LR K H1 W1 μ1 u v
  | .d y, h => x.dq s h
  | .own xs, h => by
    obtain ⟨a, vs, h1, h2, h3, h4⟩ := h
    refine ⟨a, vs, h1, x.keep a _ h2 h4, x.dqs s h3, fun z => ?_⟩
    rcases x.new a z with z | z
    · exact h4 z
    · rw [h2] at z; cases z
  | .cell k, h => by
    obtain ⟨a, h1, h2⟩ := h
    obtain ⟨r, hr⟩ := x.pre
    refine ⟨a, ?_, h2⟩
    have hk : k < μ.length := (List.getElem?_eq_some_iff.mp h1).1
    rw [hr, List.getElem?_append_left hk]
    exact h1
/-- a fresh thing: no slot's, no cell, new since the entry -/
def Tmp (B : Bs) (σ : L2.St) (W : Addr → Prop) (e : Slots) (u : V) : Vl → Prop
  | .own _ => ∀ a, u = .ref a → W a ∧ B.H a = none ∧ ¬ OwnS e σ a
  | _ => True
/-- .. new since H -/
def Frs (H : Hp) (u : V) : Vl → Prop
  | .own _ => ∀ a, u = .ref a → H a = none
  | _ => True
theorem Ext.tmp (x : Ext σ H W μ e H1 W1 μ1 e1) : ∀ {v : Vl}, Tmp B σ W e u v → Tmp B σ W1 e1 u v
  | .d _, _ => True.intro
  | .cell _, _ => True.intro
  | .own _, h => fun a ha => by
    obtain ⟨h1, h2, h3⟩ := h a ha
    refine ⟨?_, h2, fun z => h3 (x.own z)⟩
    rcases x.wd a h1 with z | z
    · exact z
    · exact absurd z h3
theorem Ext.frs (x : Ext σ H W μ e H1 W1 μ1 e1) : ∀ {v : Vl}, Frs H1 u v → Frs H u v
  | .d _, _ => True.intro
  | .cell _, _ => True.intro
  | .own _, h => fun a ha => by
    by_cases z : H a = none
    · exact z
    · exact absurd (h a ha) (x.there a z)
theorem SR.base (s : SR M K B σ H W μ e m) {a : Addr} (h : H a = none) : B.H a = none := by
  by_cases z : B.H a = none
  · exact z
  · exact absurd h (s.bt a z)
theorem SR.ownT (s : SR M K B σ H W μ e m) {a : Addr} (h : OwnS e σ a) : H a ≠ none := by
  obtain ⟨o, e', _⟩ := s.st.wok a (s.own a h).1
  rw [e']
  exact fun z => nomatch z
/-- a list that is new since H is a fresh thing -/
theorem tmp_of (s : SR M K B σ H W μ e m) (x : Ext σ H W μ e H1 W1 μ1 e1) : ∀ {v : Vl}, Frs H u v → (∀ xs a, v = .own xs → u = .ref a → W1 a) → Tmp B σ W1 e1 u v
  | .d _, _, _ => True.intro
  | .cell _, _, _ => True.intro
  | .own xs, h, hw => fun a ha => ⟨hw xs a rfl ha, s.base (h a ha), fun z => s.ownT (x.own z) (h a ha)⟩

/-! ### a heap that has grown; a list more; a list that is given away -/
theorem SR.grow (s : SR M K B σ H W μ e m) (g : Same H H1) : SR M K B σ H1 W μ e m := by
  have kk : ∀ a o, H a = some o → ¬ W a → H1 a = some o := fun a o h _ => g a o h
  have wl : ∀ {u : V} {v : Vl}, LR K H W μ u v → LR K H1 W μ u v := fun {u v} h => by
    cases v with
    | d x => exact Dq.keep s.st.wok kk (fun _ _ z => z) h
    | own xs =>
      obtain ⟨a, vs, h1, h2, h3, h4⟩ := h
      exact ⟨a, vs, h1, g a _ h2, DqAll.keep s.st.wok kk (fun _ _ z => z) h3, h4⟩
    | cell k => exact h
  refine ⟨⟨fun a h => ?_, s.st.μw, s.st.nd, Paired.mapP s.st.cel fun a c h => ?_⟩, fun a o h n => g a o (s.keep a o h n), fun a h z => ?_, s.bw, s.wb, s.pre, s.new, s.len, fun i v h => ?_, s.own, s.dis⟩
  · obtain ⟨o, h1, h2⟩ := s.st.wok a h
    exact ⟨o, g a o h1, h2⟩
  · exact CelR.keep s.st.wok kk (fun _ _ z => z) (fun o e => g a o e) h
  · cases q : H a with
    | none => exact s.bt a h q
    | some o => rw [g a o q] at z; cases z
  · obtain ⟨u, h1, h2⟩ := s.env i v h
    exact ⟨u, h1, wl h2⟩
theorem Ext.grow (g : Same H H1) : Ext σ H W μ e H1 W μ e :=
  ⟨fun a o h _ => g a o h, fun a h => by
    cases q : H a with
    | none => exact absurd q h
    | some o => (rw [g a o q]; exact (fun z => nomatch z)), fun _ _ h => h, ⟨[], by simp⟩, fun _ h => .inl h, fun _ h => .inl h, fun _ _ h => h⟩
theorem SR.alloc (s : SR M K B σ H W μ e m) (g : Same H H1) {p : Addr} {vs : List V} (hn : H p = none) (hp : H1 p = some (.lst vs)) : SR M K B σ H1 (fun a => W a ∨ a = p) μ e m := by
  have kk : ∀ a o, H a = some o → ¬ W a → H1 a = some o := fun a o h _ => g a o h
  have ww : ∀ a, H a ≠ none → (W a ∨ a = p) → W a := fun a h z => by
    rcases z with z | z
    · exact z
    · subst z; exact absurd hn h
  have wl : ∀ {u : V} {v : Vl}, LR K H W μ u v → LR K H1 (fun a => W a ∨ a = p) μ u v := fun {u v} h => by
    cases v with
    | d x => exact Dq.keep s.st.wok kk ww h
    | own xs =>
      obtain ⟨a, vs, h1, h2, h3, h4⟩ := h
      exact ⟨a, vs, h1, g a _ h2, DqAll.keep s.st.wok kk ww h3, h4⟩
    | cell k => exact h
  refine ⟨⟨fun a h => ?_, fun a h => .inl (s.st.μw a h), s.st.nd, Paired.mapP s.st.cel fun a c h => ?_⟩, fun a o h n => g a o (s.keep a o h n), fun a h z => ?_, fun a h => .inl (s.bw a h), fun a h z => s.wb a h (ww a (s.bt a h) z), s.pre, s.new, s.len, fun i v h => ?_, fun a h => ?_, s.dis⟩
  · rcases h with h | h
    · obtain ⟨o, h1, h2⟩ := s.st.wok a h
      exact ⟨o, g a o h1, h2⟩
    · subst h; exact ⟨_, hp, True.intro⟩
  · exact CelR.keep s.st.wok kk ww (fun o e => g a o e) h
  · cases q : H a with
    | none => exact s.bt a h q
    | some o => rw [g a o q] at z; cases z
  · obtain ⟨u, h1, h2⟩ := s.env i v h
    exact ⟨u, h1, wl h2⟩
  · obtain ⟨h1, h2⟩ := s.own a h
    exact ⟨.inl h1, h2⟩
theorem Ext.alloc (g : Same H H1) {p : Addr} (hn : H p = none) : Ext σ H W μ e H1 (fun a => W a ∨ a = p) μ e :=
  ⟨fun a o h _ => g a o h, fun a h => by
    cases q : H a with
    | none => exact absurd q h
    | some o => (rw [g a o q]; exact (fun z => nomatch z)), fun a h z => z.elim id (fun z => absurd (z ▸ hn) h), ⟨[], by simp⟩, fun _ h => .inl h, fun _ h => .inl (.inl h), fun _ _ h => h⟩
/-- some fresh things are given away: no one writes them any more -/
theorem SR.drop (s : SR M K B σ H W μ e m) {P : Addr → Prop} (hμ : ∀ a, P a → a ∉ μ) (ho : ∀ a, P a → ¬ OwnS e σ a) (hb : ∀ a, P a → B.H a = none) : SR M K B σ H (fun a => W a ∧ ¬ P a) μ e m := by
  have wl : ∀ {u : V} {v : Vl}, LR K H W μ u v → LR K H (fun a => W a ∧ ¬ P a) μ u v := fun {u v} h => by
    cases v with
    | d x => exact Dq.keep s.st.wok (fun _ _ h _ => h) (fun _ _ z => z.1) h
    | own xs =>
      obtain ⟨a, vs, h1, h2, h3, h4⟩ := h
      exact ⟨a, vs, h1, h2, DqAll.keep s.st.wok (fun _ _ h _ => h) (fun _ _ z => z.1) h3, h4⟩
    | cell k => exact h
  refine ⟨⟨fun a h => s.st.wok a h.1, fun a h => ⟨s.st.μw a h, fun z => hμ a z h⟩, s.st.nd, Paired.mapP s.st.cel fun a c h => ?_⟩, s.keep, s.bt, fun a h => ⟨s.bw a h, fun z => B.wt a h (hb a z)⟩, fun a h z => s.wb a h z.1, s.pre, s.new, s.len, fun i v h => ?_, fun a h => ?_, s.dis⟩
  · exact CelR.keep s.st.wok (fun _ _ h _ => h) (fun _ _ z => z.1) (fun _ e => e) h
  · obtain ⟨u, h1, h2⟩ := s.env i v h
    exact ⟨u, h1, wl h2⟩
  · obtain ⟨h1, h2⟩ := s.own a h
    exact ⟨⟨h1, fun z => ho a z h⟩, h2⟩
theorem Ext.drop (s : StR M K H W μ m) (x : Ext σ H W μ e H1 W1 μ1 e1) {P : Addr → Prop} (hP : ∀ a, P a → H a = none) : Ext σ H W μ e H1 (fun a => W1 a ∧ ¬ P a) μ1 e1 :=
  ⟨x.keep, x.there, fun a h z => x.wk a h z.1, x.pre, x.new, fun a h => by
    rcases x.wd a h with z | z
    · refine .inl ⟨z, fun q => ?_⟩
      obtain ⟨o, h1, _⟩ := s.wok a h
      rw [hP a q] at h1; cases h1
    · exact .inr z, x.el⟩
end
end Pv

/-! PvS0: sorted(t), t a tuple of ints. -/
namespace Pv
open PySem PySem.Spec PyProof.Rows L2
section
variable {prog : Program} {w : World} {A : Around} {E : Value → Shared → Prop} {s : Shared}
open SrtO in
theorem sorted_tup {l : Addr} {vs : List Value} {ltv : Value → Value → Bool} {Q : Value → Shared → Prop} (O : Swo ltv) (hl : IsTup s.heap l vs.toArray) (hz : vs.length ≤ sizeLine)
    (hS : 2 ≤ vs.length → ∀ (hp : Heap) (a : Addr), SortableO prog w A.in1.in1 { s with heap := hp } a vs ltv)
    (h : ∀ (out : List Value) (hp : Heap) (p : Addr) (e : Nat), Srtd ltv out → Stb ltv out vs → (∀ b o, s.heap.get? b = some o → hp.get? b = some o) → s.heap.get? p = none → hp.get? p = some (seqObj "list" out.toArray e) → Q (.ref p) { s with heap := hp }) :
    wpAny (model prog w) A (call (.builtin "sorted") [.ref l]) Q E s := by
  obtain ⟨o, ho, hc, n, hd⟩ := hl
  refine Calls.call_function_entry kind_sorted plain_sorted entry_sorted (args_sorted1 _) (?_ : wpAny _ _ _ _ _ _)
  unfold Builtin.«sorted»
  refine wpAny_bind (m := checkCount "sorted" 1 1 _) (wpAny_pure (?_ : wpAny _ _ _ _ _ _))
  refine wpAny_bind (wpAny_collect_seq (A := A.in1) (s := s) l (Or.inr rfl) ho hc hd (fun hp k1 => ?_) (by rw [List.size_toArray]; exact hz))
  refine wpAny_bind (wpAny_newList (?_ : wpAny _ _ _ _ _ _) (by simpa using hz))
  have h0 : (hp.push (seqObj "list" vs.toArray 0)).get? hp.objs.size = some (seqObj "list" vs.toArray 0) := Heap.get?_push_size _ rfl
  have k2 : ∀ b o, s.heap.get? b = some o → b ≠ hp.objs.size ∧ (hp.push (seqObj "list" vs.toArray 0)).get? b = some o := fun b o q => by
    have q1 := k1 b o q
    exact ⟨Nat.ne_of_lt (Heap.lt_size q1), Heap.get?_push_of_some _ q1⟩
  have hnone : s.heap.get? hp.objs.size = none := by
    cases q : s.heap.get? hp.objs.size with
    | none => rfl
    | some u => exact absurd rfl (k2 _ u q).1
  refine wpAny_bind (wpAny_holding (wpAny_call_entry (s := { s with heap := hp.push (seqObj "list" vs.toArray 0) }) slot_list_sort ⟨_, h0, rfl⟩ entry_list_sort (list_sort_ord (s := { s with heap := hp.push (seqObj "list" vs.toArray 0) }) O h0 hz (fun h2 => hS h2 _ _) fun out hs hb => ⟨_, rfl, ?_⟩) (args_list_sort _)))
  obtain ⟨e, he⟩ := sortedHeap_at (out := out.toArray) h0
  refine wpAny_pure ⟨_, rfl, h out _ _ e hs hb (fun b o q => ?_) hnone he⟩
  obtain ⟨q1, q2⟩ := k2 b o q
  rw [sortedHeap_old q1 (Heap.lt_size q2)]
  exact q2
end
/-- sorted(t), t a tuple of ints -/
def rSortedIT (K : PySem.W.Frag) : List V → Hp → VK → Prop := fun vs H Q => ∃ (a : Addr) (ns : List Int), vs = [V.ref a] ∧ SqT K H a (ns.map V.int) ∧
  ∀ (os : List Int) (p : Addr), os.Perm ns → os.Pairwise (· ≤ ·) → H p = none → Q (.ref p) (upd H p (.lst (os.map V.int)))
theorem cr_sortedIT {X : Cx} : CallR X (.builtin "sorted") (rSortedIT X.K) := by
  intro pins s σ H vs us Q I r h
  obtain ⟨a, ns, rfl, hs, q⟩ := h
  obtain ⟨its, rv, hl, hz⟩ := I.tuple hs
  rw [Vals.ref1 r]
  have hi := rv.ints
  refine sorted_tup SrtO.swo_int hl (by rw [← rv.length]; exact hz) (fun h2 hp a' => SrtO.ints_sortable hi h2) fun out hp p e h1 h2 k hn he => ?_
  obtain ⟨k1, k2, k3⟩ := SrtO.ints_out hi h1 h2
  have hlen : ((out.map SrtO.iv).map V.int).length ≤ sizeLine := by
    rw [List.length_map, k2.length_eq]
    rwa [List.length_map] at hz
  have hH : H p = none := I.hok.gone hn
  exact ⟨.ref p, upd H p (.lst ((out.map SrtO.iv).map V.int)), I.laidN (t' := s.toks) k hn hH ⟨hlen, out, e, vals_of_ints k1, he⟩, rfl, q _ _ k2 k3 hH⟩
end Pv

/-! PvS1: the operators' rules of the hand layer, over the evaluator's data. -/
namespace Pv
open PySem PySem.Spec PyProof.Rows L2

/-! ### shapes -/
mutual
theorem shp_plain : ∀ {n : Nat} {d : D}, shp n d = true → d.plain = true ∧ d.depth ≤ n
  | _, .none, _ => ⟨rfl, Nat.zero_le _⟩
  | _, .bool _, _ => ⟨rfl, Nat.zero_le _⟩
  | _, .int _, _ => ⟨rfl, Nat.zero_le _⟩
  | _, .str _, _ => ⟨rfl, Nat.zero_le _⟩
  | 0, .list _, h => by simp [shp] at h
  | 0, .tuple _, h => by simp [shp] at h
  | n + 1, .list xs, h => by
    have := shpAll_plain (n := n) (xs := xs) (by simpa [shp] using h)
    refine ⟨by simpa [PyData.plain] using this.1, ?_⟩
    simp only [PyData.depth]
    omega
  | n + 1, .tuple xs, h => by
    have := shpAll_plain (n := n) (xs := xs) (by simpa [shp] using h)
    refine ⟨by simpa [PyData.plain] using this.1, ?_⟩
    simp only [PyData.depth]
    omega
  | n, .dict _, h => by simp [shp] at h
theorem shpAll_plain : ∀ {n : Nat} {xs : List D}, shpAll n xs = true → PyData.plainAll xs = true ∧ PyData.depthAll xs ≤ n
  | _, [], _ => ⟨rfl, Nat.zero_le _⟩
  | n, x :: xs, h => by
    rw [shpAll, Bool.and_eq_true] at h
    have h1 := shp_plain h.1
    have h2 := shpAll_plain h.2
    refine ⟨by simp [PyData.plainAll, h1.1, h2.1], ?_⟩
    simp only [PyData.depthAll]
    omega
end
theorem okD_list {xs : List D} (h : okD (.list xs) = true) : PyData.plainAll xs = true ∧ PyData.depthAll xs ≤ 59 := shpAll_plain (by simpa [okD, shp] using h)
theorem okD_tuple {xs : List D} (h : okD (.tuple xs) = true) : PyData.plainAll xs = true ∧ PyData.depthAll xs ≤ 59 := shpAll_plain (by simpa [okD, shp] using h)
theorem inD_any (x : D) : ∀ xs : List D, inD x xs = xs.any fun y => PyData.eqv y x
  | [] => rfl
  | y :: r => by rw [inD, inD_any x r, List.any_cons]

/-! ### looking at a value -/
/-- what may be read of a value -/
def Lk (K : PySem.W.Frag) (H : Hp) (W : Addr → Prop) (u : V) (d : D) : Prop := Dq K H W u d ∨ ∃ a vs xs, d = .list xs ∧ u = .ref a ∧ H a = some (.lst vs) ∧ DqAll K H W vs xs
section
variable {K : PySem.W.Frag} {H : Hp} {W : Addr → Prop} {u : V} {x : D}
theorem Lk.dp (h : Lk K H W u x) : Dp K H u x := by
  rcases h with h | ⟨a, vs, xs, rfl, rfl, h1, h2⟩
  · exact h.dp
  · exact .lst (.inl (.inl h1)) h2.dp
theorem Lk.list {xs : List D} (h : Lk K H W u (.list xs)) : ∃ a vs, u = .ref a ∧ Rd H a (.lst vs) ∧ DqAll K H W vs xs := by
  rcases h with h | ⟨a, vs, xs, e, rfl, h1, h2⟩
  · cases h with | lst a b c => exact ⟨_, _, rfl, a, c⟩
  · cases e; exact ⟨a, vs, rfl, .inl h1, h2⟩
theorem Lk.tup {xs : List D} (h : Lk K H W u (.tuple xs)) : ∃ a vs, u = .ref a ∧ SqT K H a vs ∧ DqAll K H W vs xs := by
  rcases h with h | ⟨a, vs, xs, e, rfl, h1, h2⟩
  · cases h with | tup a c => exact ⟨_, _, rfl, a, c⟩
  · cases e
theorem Lk.int {i : Int} (h : Lk K H W u (.int i)) : u = .int i := by
  rcases h with h | ⟨a, vs, xs, e, rfl, h1, h2⟩
  · cases h; rfl
  · cases e
theorem Lk.str {i : Str} (h : Lk K H W u (.str i)) : u = .str i := by
  rcases h with h | ⟨a, vs, xs, e, rfl, h1, h2⟩
  · cases h; rfl
  · cases e
theorem Lk.bl {i : Bool} (h : Lk K H W u (.bool i)) : u = .bl i := by
  rcases h with h | ⟨a, vs, xs, e, rfl, h1, h2⟩
  · cases h; rfl
  · cases e
theorem Lk.non (h : Lk K H W u .none) : u = .non := by
  rcases h with h | ⟨a, vs, xs, e, rfl, h1, h2⟩
  · cases h; rfl
  · cases e
theorem Lk.dict {kvs : List (D × D)} (h : Lk K H W u (.dict kvs)) : False := by
  rcases h with h | ⟨a, vs, xs, e, rfl, h1, h2⟩
  · cases h
  · cases e
/-- the items of a list or a tuple -/
theorem Lk.seq {xs : List D} (h : Lk K H W u x) (e : seqOf x = some xs) : ∃ a vs, u = .ref a ∧ DqAll K H W vs xs ∧ (Rd H a (.lst vs) ∨ SqT K H a vs) := by
  cases x with
  | list ys => cases e; obtain ⟨a, vs, h1, h2, h3⟩ := h.list; exact ⟨a, vs, h1, h3, .inl h2⟩
  | tuple ys => cases e; obtain ⟨a, vs, h1, h2, h3⟩ := h.tup; exact ⟨a, vs, h1, h3, .inr h2⟩
  | _ => cases e

/-- what a value rule hands on: the heap as it was or grown, the value r -/
def Ret (K : PySem.W.Frag) (H : Hp) (W : Addr → Prop) (Q : VK) : Vl → Prop
  | .d z => ∀ u H', Same H H' → Dq K H' W u z → Q u H'
  | .own zs => ∀ p vs H1 H', Same H H1 → DqAll K H1 W vs zs → H1 p = none → Same H1 H' → H' p = some (.lst vs) → Q (.ref p) H'
  | .cell _ => True
theorem same_new {p : Addr} {o : HO} (h : H p = none) : Same H (upd H p o) := fun b x e => by rw [upd_ne (ne_of_none e h)]; exact e
theorem Dq.same {H' : Hp} (w : Wok H W) (s : Same H H') {d : D} (h : Dq K H W u d) : Dq K H' W u d := h.keep w (fun a o e _ => s a o e) fun _ _ z => z
theorem DqAll.same {H' : Hp} (w : Wok H W) (s : Same H H') {ds : List D} {us : List V} (h : DqAll K H W us ds) : DqAll K H' W us ds := h.keep w (fun a o e _ => s a o e) fun _ _ z => z
theorem Ret.scal {Q : VK} {z : D} (h : Ret K H W Q (.d z)) (r : Dq K H W u z) : Q u H := h u H (Same.refl H) r
theorem Ret.tup {Q : VK} (w : Wok H W) {zs : List D} {vs : List V} (h : Ret K H W Q (.d (.tuple zs))) (r : DqAll K H W vs zs) : ∀ p, H p = none → Q (.ref p) (upd H p (.tup vs)) := fun p hp =>
  h _ _ (same_new hp) (.tup (.inl (.inl upd_same)) (r.same w (same_new hp)))
theorem Ret.lst {Q : VK} (w : Wok H W) {zs : List D} {vs : List V} (h : Ret K H W Q (.own zs)) (r : DqAll K H W vs zs) : ∀ p, H p = none → Q (.ref p) (upd H p (.lst vs)) := fun p hp =>
  h p vs H _ (Same.refl H) r hp (same_new hp) upd_same
end

/-- a rule over data: g says the result -/
def rD2 (K : PySem.W.Frag) (g : D → D → Option Vl) : R2 := fun x y H Q => ∃ W d1 d2 r, Wok H W ∧ Lk K H W x d1 ∧ Lk K H W y d2 ∧ g d1 d2 = some r ∧ Ret K H W Q r
def rD1 (K : PySem.W.Frag) (g : D → Option Vl) : V → Hp → VK → Prop := fun x H Q => ∃ W d r, Wok H W ∧ Lk K H W x d ∧ g d = some r ∧ Ret K H W Q r

def opA : Op → Operator
  | .add => .Add
  | .sub => .Sub
  | .mul => .Mult
  | .fdiv => .FloorDiv
  | .mod => .Mod
  | .pow => .Pow

section
variable {X : Cx}
theorem rd_lst {pins : List (Addr × Obj)} {σ : L2.St} {H : Hp} {s : Shared} {l : Addr} {xs : List V} (I : Inv X pins σ H s) (h : Rd H l (.lst xs)) :
    xs.length ≤ sizeLine ∧ ∃ (its : List Value) (n : Nat), Vals xs its ∧ xs.length = its.length ∧ s.heap.get? l = some { cls := .type "list", data := .seq its.toArray n } := by
  obtain ⟨z, its, n, r, e⟩ := h.ok I.hok
  exact ⟨z, its, n, r, r.length, e⟩
theorem op_catR : OpR X (binaryOp .Add) (fun x y H Q => ∃ l b xs zs, x = .ref l ∧ y = .ref b ∧ Rd H l (.lst xs) ∧ Rd H b (.lst zs) ∧ xs.length + zs.length ≤ sizeLine ∧ ∀ p, H p = none → Q (.ref p) (upd H p (.lst (xs ++ zs)))) := by
  intro pins s σ H x y v u Q I rx ry h
  obtain ⟨l, b, xs, zs, rfl, rfl, hH, hB, hz, q⟩ := h
  cases rx
  cases ry
  obtain ⟨z, its, n, r, hl, e⟩ := rd_lst I hH
  obtain ⟨z2, its2, n2, r2, hl2, e2⟩ := rd_lst I hB
  refine PySem.P.add_list e e2 ?_ (by rw [List.size_toArray, List.size_toArray]; omega)
  have ea : its.toArray ++ its2.toArray = (its ++ its2).toArray := by simp
  rw [ea]
  exact ⟨.ref _, _, I.lnew (t' := s.toks) (r.append r2) (by rw [List.length_append]; omega), rfl, q _ I.fresh⟩
theorem tuple_mul1 (l : Addr) (items : Array Value) (n : Nat) (dd : Option Addr) (sl : Array (Option Value)) (x : Int) (u : Tok) (c0 : (decide (x < -(2 ^ 63)) || decide (x ≥ 2 ^ 63)) = false) (c1 : (items.isEmpty || x == 1) = true) :
    Meets (Builtin.«tuple.__mul__» ⟨[.ref l, .int x u], []⟩) (fun _ R s => s.heap.get? l = some { cls := .type "tuple", dict := dd, data := .seq items n, slots := sl } ∧ R (.ok (.ret (.ref l))) s) :=
  .of_wp fun prog w A R s h => by
    obtain ⟨hp, g, d, tk, os⟩ := s
    obtain ⟨hl, h⟩ := h
    have f1 := AutoSeq1.idx_int
    wp_walk using wpAny_loadPart' hl
    repeat (first
      | (refine wpAny_ite_false (decide_eq_false (by rw [c0]; exact Bool.false_ne_true)) ?_; wp_walk using wpAny_loadPart' hl)
      | (refine wpAny_ite_true (decide_eq_true c1) ?_; wp_walk using wpAny_loadPart' hl))
    all_goals exact ⟨_, rfl, h⟩
theorem tuple_mul0 (l : Addr) (items : Array Value) (n : Nat) (dd : Option Addr) (sl : Array (Option Value)) (x : Int) (u : Tok) (c0 : (decide (x < -(2 ^ 63)) || decide (x ≥ 2 ^ 63)) = false) (c1 : (items.isEmpty || x == 1) = false) (c2 : (decide (x ≤ 0) || items.isEmpty) = true) :
    Meets (Builtin.«tuple.__mul__» ⟨[.ref l, .int x u], []⟩) (fun _ R s => s.heap.get? l = some { cls := .type "tuple", dict := dd, data := .seq items n, slots := sl } ∧
      R (.ok (.ret (Value.ref s.heap.objs.size))) { s with heap := s.heap.push { cls := Value.type "tuple", data := Data.seq #[] }, toks := s.toks }) :=
  .of_wp fun prog w A R s h => by
    obtain ⟨hp, g, d, tk, os⟩ := s
    obtain ⟨hl, h⟩ := h
    have f1 := AutoSeq1.idx_int
    wp_walk using wpAny_loadPart' hl
    repeat (first
      | (refine wpAny_ite_false (decide_eq_false (by rw [c0]; exact Bool.false_ne_true)) ?_; wp_walk using wpAny_loadPart' hl)
      | (refine wpAny_ite_false (decide_eq_false (by rw [c1]; exact Bool.false_ne_true)) ?_; wp_walk using wpAny_loadPart' hl)
      | (refine wpAny_ite_true (decide_eq_true c2) ?_; wp_walk using wpAny_loadPart' hl))
    all_goals exact ⟨_, rfl, h⟩
theorem op_repR : OpR X (binaryOp .Mult) (fun x y H Q => ∃ l k xs, x = .ref l ∧ y = .int k ∧ Rd H l (.lst xs) ∧ -(2 ^ 63) ≤ k ∧ k < 2 ^ 63 ∧ xs.length * k.toNat ≤ sizeLine ∧
  ∀ p, H p = none → Q (.ref p) (upd H p (.lst (List.replicate k.toNat xs).flatten))) := by
  intro pins s σ H x y v u Q I rx ry h
  obtain ⟨l, k, xs, rfl, rfl, hH, h1, h2, hz, q⟩ := h
  cases rx
  obtain ⟨t, rfl⟩ := ry
  obtain ⟨z, its, n, r, hl, e⟩ := rd_lst I hH
  have hlen : its.toArray.size * k.toNat ≤ sizeLine := by rw [List.size_toArray, ← hl]; exact hz
  have hcap : ¬ its.toArray.size * k.toNat > (2 ^ 63 - 1) / 8 := by
    have : (sizeLine : Nat) ≤ (2 ^ 63 - 1) / 8 := by decide
    omega
  have hfit : ¬ (!Builtin.List.listFitsIndex k) = true := by
    rw [fitsIndex_both h1 h2]
    exact Bool.false_ne_true
  have hlong : ¬ Builtin.List.listTooLong (its.toArray.size * k.toNat) = true := by
    rw [notLongL hlen]
    exact Bool.false_ne_true
  have hnew : List.foldl (fun x1 x2 => x1 ++ x2) #[] (List.replicate (if its.toArray.isEmpty = true then 0 else k.toNat) its.toArray) = (List.replicate k.toNat its).flatten.toArray := by
    have f0 : ∀ m : Nat, List.foldl (fun x1 x2 => x1 ++ x2) #[] (List.replicate m its.toArray) = (List.replicate m its).flatten.toArray := fun m => by
      have := foldl_rep its m []
      rw [List.nil_append] at this
      exact this
    rw [f0]
    cases its with
    | nil => simp
    | cons a r' => rw [if_neg (by simp)]
  refine wpAny_binaryOp_repeat_ref (T := "list") (U := "int") (by decide) ⟨_, e, rfl⟩ (fun s' => typeIs_int s' k t) noFill_list_mul F.fills_int_mul F.slot_int_rmul repeat_list F.slot_int_index.lookup
    (call_meets F.slot_int_rmul (typeIs_int s k t) F.entry_int_rmul (F.args_int_rmul_2 _ _) (int___rmul___int_list k t l its.toArray n)
      ⟨e, rfl, ⟨_, e, rfl⟩, call_meets F.slot_list_mul ⟨_, e, rfl⟩ F.entry_list_mul (F.args_list_mul_2 _ _) (AutoListH.list___mul___list_int_3 l its.toArray n k t hfit hcap hlong) ⟨e, ?_⟩⟩)
  rw [hnew]
  exact ⟨.ref _, _, I.lnew (t' := s.toks) (r.rep k.toNat) (by rw [PyProof.Rows.lm_len_rep_flat, Nat.mul_comm]; exact hz), rfl, q _ I.fresh⟩

theorem op_repTA : OpR X (binaryOp .Mult) (fun x y H Q => ∃ l k xs, x = .ref l ∧ y = .int k ∧ SqT X.K H l xs ∧ -1000 ≤ k ∧ k ≤ 1000 ∧ xs.length ≤ 1000 ∧ (k = 1 ∨ xs = [] → Q (.ref l) H) ∧ ∀ p, H p = none → Q (.ref p) (upd H p (.tup (List.replicate k.toNat xs).flatten))) := by
  intro pins s σ H x y v u Q I rx ry h
  obtain ⟨l, k, xs, rfl, rfl, hT, h0, h1, hz, q1, q⟩ := h
  by_cases hk : 2 ≤ k ∧ xs ≠ []
  · exact op_repT pins s σ H _ _ v u Q I rx ry ⟨l, k, xs, rfl, rfl, hT, hk.2, hk.1, h1, hz, q⟩
  cases rx
  obtain ⟨t, rfl⟩ := ry
  obtain ⟨its, r, ⟨⟨cls, dd, data, sl⟩, ho, hc, n, hd⟩, hs⟩ := I.tuple hT
  simp only at hc hd
  subst hc hd
  have hle : its.length = xs.length := r.length.symm
  have c0 : (decide (k < -(2 ^ 63)) || decide (k ≥ 2 ^ 63)) = false := by
    rw [decide_eq_false (by omega), decide_eq_false (by omega)] <;> rfl
  by_cases hs1 : k = 1 ∨ xs = []
  · have c1 : (its.toArray.isEmpty || k == 1) = true := by
      rcases hs1 with e | e
      · subst e; simp
      · subst e
        have : its = [] := List.eq_nil_of_length_eq_zero hle
        subst this; rfl
    refine wpAny_binaryOp_repeat_ref (T := "tuple") (U := "int") (by decide) ⟨_, ho, rfl⟩ (fun s' => typeIs_int s' k t) noFill_tuple_mul F.fills_int_mul F.slot_int_rmul repeat_tuple F.slot_int_index.lookup
      (call_meets F.slot_int_rmul (typeIs_int s k t) F.entry_int_rmul (F.args_int_rmul_2 _ _) (int_rmul_tuple k t l its.toArray n dd sl)
        ⟨ho, rfl, ⟨_, ho, rfl⟩, call_meets F.slot_tuple_mul ⟨_, ho, rfl⟩ F.entry_tuple_mul (F.args_tuple_mul_2 _ _) (tuple_mul1 l its.toArray n dd sl k t c0 c1) ⟨ho, ?_⟩⟩)
    exact ⟨.ref l, _, I, rfl, q1 hs1⟩
  · have hne : xs ≠ [] := fun e => hs1 (.inr e)
    have hk0 : k ≤ 0 := by
      have : k ≠ 1 := fun e => hs1 (.inl e)
      have : ¬ 2 ≤ k := fun e => hk ⟨e, hne⟩
      omega
    have hi : its.toArray.isEmpty = false := by
      cases its with
      | nil => exact absurd (List.eq_nil_of_length_eq_zero hle.symm) hne
      | cons a b => rfl
    have c1 : (its.toArray.isEmpty || k == 1) = false := by
      rw [hi, Bool.false_or]
      exact beq_eq_false_iff_ne.mpr (by omega)
    have c2 : (decide (k ≤ 0) || its.toArray.isEmpty) = true := by
      rw [decide_eq_true hk0]; rfl
    refine wpAny_binaryOp_repeat_ref (T := "tuple") (U := "int") (by decide) ⟨_, ho, rfl⟩ (fun s' => typeIs_int s' k t) noFill_tuple_mul F.fills_int_mul F.slot_int_rmul repeat_tuple F.slot_int_index.lookup
      (call_meets F.slot_int_rmul (typeIs_int s k t) F.entry_int_rmul (F.args_int_rmul_2 _ _) (int_rmul_tuple k t l its.toArray n dd sl)
        ⟨ho, rfl, ⟨_, ho, rfl⟩, call_meets F.slot_tuple_mul ⟨_, ho, rfl⟩ F.entry_tuple_mul (F.args_tuple_mul_2 _ _) (tuple_mul0 l its.toArray n dd sl k t c0 c1 c2) ⟨ho, ?_⟩⟩)
    have e0 : k.toNat = 0 := by omega
    have q := fun p => q p
    rw [e0] at q
    refine ⟨.ref s.heap.objs.size, _, I.laid (t' := s.toks) (o := .tup []) (fun b ob q => Heap.get?_push_of_some _ q) (Nat.le_refl _) ?_, rfl, q _ (I.hok.fresh (Nat.le_refl _))⟩
    exact ⟨by rw [sizeLine_eq]; simp, [], .nil, IsTup.new _ _⟩

theorem op_ints {o : Op} {pins : List (Addr × Obj)} {s : Shared} {σ : L2.St} {H : Hp} {i j : Int} {v u : Value} {Q : VK} {k : Int} (I : Inv X pins σ H s) (rx : RelV (.int i) v) (ry : RelV (.int j) u) (e : intOp o i j = some k) (q : Q (.int k) H) :
    wpAny (model X.prog X.w) X.A (binaryOp (opA o) v u) (EP X pins σ Q) X.xe s := by
  cases o with
  | add => cases e; exact op_add pins s σ H _ _ v u Q I rx ry ⟨i, j, rfl, rfl, q⟩
  | sub => cases e; exact op_sub pins s σ H _ _ v u Q I rx ry ⟨i, j, rfl, rfl, q⟩
  | mul =>
    simp only [intOp] at e
    split at e
    · rename_i hm
      have h9 : (-(2 ^ 64) < i ∧ i < 2 ^ 64) ∨ (-(2 ^ 64) < j ∧ j < 2 ^ 64) := by omega
      cases e; exact op_mul pins s σ H _ _ v u Q I rx ry ⟨i, j, rfl, rfl, h9, q⟩
    · cases e
  | fdiv =>
    simp only [intOp] at e
    split at e
    · cases e; exact op_fdivN pins s σ H _ _ v u Q I rx ry ⟨i, j, rfl, rfl, by assumption, q⟩
    · cases e
  | mod =>
    simp only [intOp] at e
    split at e
    · cases e; exact op_modN pins s σ H _ _ v u Q I rx ry ⟨i, j, rfl, rfl, by assumption, q⟩
    · cases e
  | pow =>
    simp only [intOp] at e
    split at e
    · cases e; exact op_pow pins s σ H _ _ v u Q I rx ry ⟨i, j, rfl, rfl, by assumption, q⟩
    · cases e

theorem bin_sound (o : Op) : OpR X (binaryOp (opA o)) (rD2 X.K (binOp o)) := by
  intro pins s σ H x y v u Q I rx ry h
  obtain ⟨W, d1, d2, r, w, h1, h2, e, q⟩ := h
  unfold binOp at e
  split at e
  · -- ints
    have e1 := h1.int
    have e2 := h2.int
    subst e1 e2
    obtain ⟨k, ek, er⟩ := Option.map_eq_some_iff.mp e
    subst er
    exact op_ints I rx ry ek (q.scal (.int k))
  · have e1 := h1.str
    have e2 := h2.str
    subst e1 e2
    split at e
    · cases e
      rename_i hz
      exact op_add_str pins s σ H _ _ v u Q I rx ry ⟨_, _, rfl, rfl, lim_ok hz, q.scal (.str _)⟩
    · cases e
  · obtain ⟨a, vs, rfl, ha, hv⟩ := h1.list
    obtain ⟨b, us, rfl, hb, hu⟩ := h2.list
    split at e
    · cases e
      rename_i hz
      exact op_catR pins s σ H _ _ v u Q I rx ry ⟨a, b, vs, us, rfl, rfl, ha, hb, lim_ok (by rw [hv.length, hu.length]; exact hz), q.lst w (hv.append hu)⟩
    · cases e
  · obtain ⟨a, vs, rfl, ha, hv⟩ := h1.tup
    obtain ⟨b, us, rfl, hb, hu⟩ := h2.tup
    split at e
    · cases e
      rename_i hz
      refine op_catA pins s σ H _ _ v u Q I rx ry ⟨a, b, vs, us, rfl, rfl, ha, hb, lim_ok (by rw [hv.length, hu.length]; exact hz), fun e => ?_, fun _ e => ?_, fun _ _ => q.tup w (hv.append hu)⟩
      · subst e
        cases hv
        exact q.scal (.tup hb hu)
      · subst e
        cases hu
        rename_i hx
        rw [List.append_nil] at q
        exact q.scal (.tup ha hv)
    · cases e
  · obtain ⟨a, vs, rfl, ha, hv⟩ := h1.list
    have e2 := h2.int
    subst e2
    split at e
    · cases e
      rename_i k hz
      exact op_repR pins s σ H _ _ v u Q I rx ry ⟨a, _, vs, rfl, rfl, ha, by omega, by omega, lim_ok (by rw [hv.length]; exact hz.1), q.lst w (hv.rep _)⟩
    · cases e
  · obtain ⟨a, vs, rfl, ha, hv⟩ := h1.tup
    have e2 := h2.int
    subst e2
    split at e
    · cases e
      rename_i k hz
      refine op_repTA pins s σ H _ _ v u Q I rx ry ⟨a, _, vs, rfl, rfl, ha, by omega, by omega, by rw [hv.length]; exact hz.1, fun e => ?_, q.tup w (hv.rep _)⟩
      rcases e with e | e
      · subst e
        rw [show (List.replicate (1 : Int).toNat _).flatten = _ from List.append_nil _] at q
        exact q.scal (.tup ha hv)
      · subst e
        cases hv
        rw [show (List.replicate k.toNat ([] : List D)).flatten = [] by simp] at q
        exact q.scal (.tup ha .nil)
    · cases e
  · have e1 := h1.bl
    have e2 := h2.int
    subst e1 e2
    cases e
    have ru : v = Value.bool _ := rx
    subst ru
    obtain ⟨t, rfl⟩ := ry
    exact PySem.IntBool.add_bool_int ⟨.int _, H, I.tok _, ⟨_, rfl⟩, q.scal (.int _)⟩
  · have e1 := h1.bl
    have e2 := h2.int
    subst e1 e2
    cases e
    have ru : v = Value.bool _ := rx
    subst ru
    obtain ⟨t, rfl⟩ := ry
    exact PySem.IntBool.sub_bool_int ⟨.int _, H, I.tok _, ⟨_, rfl⟩, q.scal (.int _)⟩
  · have e1 := h1.int
    have e2 := h2.bl
    subst e1 e2
    cases e
    have ru : u = Value.bool _ := ry
    subst ru
    obtain ⟨t, rfl⟩ := rx
    exact PySem.IntBool.sub_int_bool ⟨.int _, H, I.tok _, ⟨_, rfl⟩, q.scal (.int _)⟩
  · cases e

/-! ### comparisons -/
def cmA : Cm → CmpOp
  | .eq => .Eq
  | .ne => .NotEq
  | .lt => .Lt
  | .le => .LtE
  | .gt => .Gt
  | .ge => .GtE
  | .isin => .In
  | .notin => .NotIn
  | .is => .Is
  | .isnot => .IsNot
def rB2 (K : PySem.W.Frag) (g : D → D → Option Bool) : R2 := fun x y H Q => ∃ W d1 d2 k, Lk K H W x d1 ∧ Lk K H W y d2 ∧ g d1 d2 = some k ∧ Q (.bl k) H

theorem eq_data (hu : X.A.units + 64 < cLine) {pins : List (Addr × Obj)} {s : Shared} {σ : L2.St} {H : Hp} {W : Addr → Prop} {x y : V} {v u : Value} {d1 d2 : D} {Q : VK} (I : Inv X pins σ H s) (rx : RelV x v) (ry : RelV y u) (h1 : Lk X.K H W x d1) (h2 : Lk X.K H W y d2)
    (o1 : okD d1 = true) (o2 : okD d2 = true) (q : Q (.bl (PyData.eqv d1 d2)) H) : wpAny (model X.prog X.w) X.A (compareOp .Eq v u) (EP X pins σ Q) X.xe s := by
  obtain ⟨as, r1⟩ := Dp.reads I d1 x v h1.dp rx
  obtain ⟨bs, r2⟩ := Dp.reads I d2 y u h2.dp ry
  have s1 := shp_plain o1
  have s2 := shp_plain o2
  exact SeqAt.eq_plain r1 r2 s1.1 s2.1 (by omega) ⟨.bl _, H, I, rfl, q⟩
theorem ne_data (hu : X.A.units + 64 < cLine) {pins : List (Addr × Obj)} {s : Shared} {σ : L2.St} {H : Hp} {W : Addr → Prop} {x y : V} {v u : Value} {d1 d2 : D} {Q : VK} (I : Inv X pins σ H s) (rx : RelV x v) (ry : RelV y u) (h1 : Lk X.K H W x d1) (h2 : Lk X.K H W y d2)
    (o1 : okD d1 = true) (o2 : okD d2 = true) (q : Q (.bl (!PyData.eqv d1 d2)) H) : wpAny (model X.prog X.w) X.A (compareOp .NotEq v u) (EP X pins σ Q) X.xe s := by
  obtain ⟨as, r1⟩ := Dp.reads I d1 x v h1.dp rx
  obtain ⟨bs, r2⟩ := Dp.reads I d2 y u h2.dp ry
  have s1 := shp_plain o1
  have s2 := shp_plain o2
  exact SeqAt.ne_plain r1 r2 s1.1 s2.1 (by omega) ⟨.bl _, H, I, rfl, q⟩
/-- what == says, as data -/
theorem eqD_eqv {x y : D} {k : Bool} (h : eqD x y = some k) : okD x = true ∧ okD y = true ∧ PyData.eqv x y = k := by
  unfold eqD at h
  split at h
  · cases h; exact ⟨rfl, rfl, rfl⟩
  · cases h; exact ⟨rfl, rfl, rfl⟩
  · cases h; exact ⟨rfl, rfl, rfl⟩
  · split at h
    · rename_i e
      rw [Bool.and_eq_true] at e
      cases h
      exact ⟨e.1, e.2, rfl⟩
    · cases h
theorem sub_inv {b : Bool} {α : Type} {x y : α} (h : (if b then some x else none) = some y) : b = true ∧ x = y := by
  cases b with
  | true => exact ⟨rfl, Option.some.inj h⟩
  | false => cases h
theorem intCmp_inv {f : Int → Int → Bool} {x y : D} {k : Bool} (h : intCmp f x y = some k) : ∃ i j, x = .int i ∧ y = .int j ∧ f i j = k := by
  unfold intCmp at h
  split at h
  · cases h; exact ⟨_, _, rfl, rfl, rfl⟩
  · cases h
theorem isOp_inv {x y : D} {k : Bool} (h : isOp x y = some k) : (y = .none ∧ isNon x = k) ∨ ∃ a b, x = .bool a ∧ y = .bool b ∧ (a == b) = k := by
  unfold isOp at h
  split at h
  · cases h; exact .inl ⟨rfl, rfl⟩
  · split at h
    · cases h; exact .inr ⟨_, _, rfl, rfl, rfl⟩
    · cases h
  · cases h
theorem Lk.isNon {K : PySem.W.Frag} {H : Hp} {W : Addr → Prop} {x : V} {d1 : D} (h1 : Lk K H W x d1) : isNon d1 = decide (x = V.non) := by
  cases d1 with
  | none => rw [h1.non]; simp [Pv.isNon]
  | bool b => rw [h1.bl]; simp [Pv.isNon]
  | int b => rw [h1.int]; simp [Pv.isNon]
  | str b => rw [h1.str]; simp [Pv.isNon]
  | list b => obtain ⟨a, vs, ex, _⟩ := h1.list; rw [ex]; simp [Pv.isNon]
  | tuple b => obtain ⟨a, vs, ex, _⟩ := h1.tup; rw [ex]; simp [Pv.isNon]
  | dict b => exact h1.dict.elim
theorem in_data (hu : X.A.units + 64 < cLine) {pins : List (Addr × Obj)} {s : Shared} {σ : L2.St} {H : Hp} {W : Addr → Prop} {x y : V} {v u : Value} {d1 d2 : D} {k : Bool} {Q : VK} (I : Inv X pins σ H s) (rx : RelV x v) (ry : RelV y u) (h1 : Lk X.K H W x d1) (h2 : Lk X.K H W y d2)
    (e : inOp d1 d2 = some k) (q : Q (.bl k) H) : wpAny (model X.prog X.w) X.A (compareOp .In v u) (EP X pins σ Q) X.xe s := by
  unfold inOp at e
  split at e
  · obtain ⟨eo, ek⟩ := sub_inv e
    rw [Bool.and_eq_true] at eo
    obtain ⟨as, r1⟩ := Dp.reads I _ x v h1.dp rx
    obtain ⟨bs, r2⟩ := Dp.reads I _ y u h2.dp ry
    have s1 := shp_plain eo.1
    have s2 := okD_list eo.2
    rw [inD_any] at ek
    exact SeqAt.in_list_data r2 r1 s2.1 s1.1 (by omega) ⟨.bl _, H, I, rfl, by rw [ek]; exact q⟩
  · obtain ⟨eo, ek⟩ := sub_inv e
    rw [Bool.and_eq_true] at eo
    obtain ⟨as, r1⟩ := Dp.reads I _ x v h1.dp rx
    obtain ⟨bs, r2⟩ := Dp.reads I _ y u h2.dp ry
    have s1 := shp_plain eo.1
    have s2 := okD_tuple eo.2
    rw [inD_any] at ek
    exact SeqAt.in_tuple_data r2 r1 s2.1 s1.1 (by omega) ⟨.bl _, H, I, rfl, by rw [ek]; exact q⟩
  · split at e
    · have e1 := h1.str
      have e2 := h2.str
      subst e1 e2
      cases e
      exact op_in_str pins s σ H _ _ v u Q I rx ry ⟨_, _, rfl, rfl, q⟩
    · cases e
  · cases e
theorem nin_data (hu : X.A.units + 64 < cLine) {pins : List (Addr × Obj)} {s : Shared} {σ : L2.St} {H : Hp} {W : Addr → Prop} {x y : V} {v u : Value} {d1 d2 : D} {k : Bool} {Q : VK} (I : Inv X pins σ H s) (rx : RelV x v) (ry : RelV y u) (h1 : Lk X.K H W x d1) (h2 : Lk X.K H W y d2)
    (e : inOp d1 d2 = some k) (q : Q (.bl (!k)) H) : wpAny (model X.prog X.w) X.A (compareOp .NotIn v u) (EP X pins σ Q) X.xe s := by
  unfold inOp at e
  split at e
  · obtain ⟨eo, ek⟩ := sub_inv e
    rw [Bool.and_eq_true] at eo
    obtain ⟨as, r1⟩ := Dp.reads I _ x v h1.dp rx
    obtain ⟨bs, r2⟩ := Dp.reads I _ y u h2.dp ry
    have s1 := shp_plain eo.1
    have s2 := okD_list eo.2
    rw [inD_any] at ek
    exact SeqAt.notIn_list_data r2 r1 s2.1 s1.1 (by omega) ⟨.bl _, H, I, rfl, by rw [ek]; exact q⟩
  · obtain ⟨eo, ek⟩ := sub_inv e
    rw [Bool.and_eq_true] at eo
    obtain ⟨as, r1⟩ := Dp.reads I _ x v h1.dp rx
    obtain ⟨bs, r2⟩ := Dp.reads I _ y u h2.dp ry
    have s1 := shp_plain eo.1
    have s2 := okD_tuple eo.2
    rw [inD_any] at ek
    exact SeqAt.notIn_tuple_data r2 r1 s2.1 s1.1 (by omega) ⟨.bl _, H, I, rfl, by rw [ek]; exact q⟩
  · split at e
    · have e1 := h1.str
      have e2 := h2.str
      subst e1 e2
      cases e
      exact op_notin_str pins s σ H _ _ v u Q I rx ry ⟨_, _, rfl, rfl, q⟩
    · cases e
  · cases e
theorem cmp_sound (hu : X.A.units + 64 < cLine) (o : Cm) : OpR X (compareOp (cmA o)) (rB2 X.K (cmpOp o)) := by
  intro pins s σ H x y v u Q I rx ry h
  obtain ⟨W, d1, d2, k, h1, h2, e, q⟩ := h
  cases o with
  | eq =>
    obtain ⟨o1, o2, ek⟩ := eqD_eqv (show eqD d1 d2 = some k from e)
    exact eq_data hu I rx ry h1 h2 o1 o2 (by rw [ek]; exact q)
  | ne =>
    obtain ⟨k', e', ek'⟩ := Option.map_eq_some_iff.mp (show (eqD d1 d2).map (!·) = some k from e)
    obtain ⟨o1, o2, ek⟩ := eqD_eqv e'
    exact ne_data hu I rx ry h1 h2 o1 o2 (by rw [ek, ek']; exact q)
  | lt =>
    obtain ⟨i, j, rfl, rfl, ek⟩ := intCmp_inv (show intCmp _ d1 d2 = some k from e)
    have e1 := h1.int
    have e2 := h2.int
    subst e1 e2 ek
    exact op_lt pins s σ H _ _ v u Q I rx ry ⟨_, _, rfl, rfl, q⟩
  | le =>
    obtain ⟨i, j, rfl, rfl, ek⟩ := intCmp_inv (show intCmp _ d1 d2 = some k from e)
    have e1 := h1.int
    have e2 := h2.int
    subst e1 e2 ek
    exact op_le pins s σ H _ _ v u Q I rx ry ⟨_, _, rfl, rfl, q⟩
  | gt =>
    obtain ⟨i, j, rfl, rfl, ek⟩ := intCmp_inv (show intCmp _ d1 d2 = some k from e)
    have e1 := h1.int
    have e2 := h2.int
    subst e1 e2 ek
    exact op_gt pins s σ H _ _ v u Q I rx ry ⟨_, _, rfl, rfl, q⟩
  | ge =>
    obtain ⟨i, j, rfl, rfl, ek⟩ := intCmp_inv (show intCmp _ d1 d2 = some k from e)
    have e1 := h1.int
    have e2 := h2.int
    subst e1 e2 ek
    exact op_ge pins s σ H _ _ v u Q I rx ry ⟨_, _, rfl, rfl, q⟩
  | isin => exact in_data hu I rx ry h1 h2 (show inOp d1 d2 = some k from e) q
  | notin =>
    obtain ⟨k', e', ek'⟩ := Option.map_eq_some_iff.mp (show (inOp d1 d2).map (!·) = some k from e)
    exact nin_data hu I rx ry h1 h2 e' (by rw [ek']; exact q)
  | is =>
    rcases isOp_inv (show isOp d1 d2 = some k from e) with ⟨rfl, ek⟩ | ⟨a, b, rfl, rfl, ek⟩
    · have e2 := h2.non
      subst e2
      exact op_isN pins s σ H _ _ v u Q I rx ry ⟨rfl, by rw [← h1.isNon, ek]; exact q⟩
    · have e1 := h1.bl
      have e2 := h2.bl
      subst e1 e2
      refine op_isBl pins s σ H _ _ v u Q I rx ry ⟨_, _, rfl, rfl, ?_⟩
      rw [← Bool.beq_eq_decide_eq, ek]
      exact q
  | isnot =>
    obtain ⟨k', e', ek'⟩ := Option.map_eq_some_iff.mp (show (isOp d1 d2).map (!·) = some k from e)
    rcases isOp_inv e' with ⟨rfl, ek⟩ | ⟨a, b, rfl, rfl, ek⟩
    · have e2 := h2.non
      subst e2
      exact op_notN pins s σ H _ _ v u Q I rx ry ⟨rfl, by rw [← h1.isNon, ek, ek']; exact q⟩
    · have e1 := h1.bl
      have e2 := h2.bl
      subst e1 e2
      refine op_notBl pins s σ H _ _ v u Q I rx ry ⟨_, _, rfl, rfl, ?_⟩
      rw [← Bool.beq_eq_decide_eq, ek, ek']
      exact q

/-! ### truth -/
theorem truth_sound {pins : List (Addr × Obj)} {s : Shared} {σ : L2.St} {H : Hp} {W : Addr → Prop} {x : V} {v : Value} {d : D} {k : Bool} {Q : Bool → Hp → Prop} (I : Inv X pins σ H s) (rx : RelV x v) (h : Lk X.K H W x d) (e : truth d = some k) (q : Q k H) :
    wpAny (model X.prog X.w) X.A (truthy v) (TP X pins σ Q) X.xe s := by
  refine tru_ok pins s σ H x v Q I rx ⟨k, ?_, q⟩
  cases d with
  | none => rw [h.non]; cases e; rfl
  | bool b => rw [h.bl]; cases e; rfl
  | int i => rw [h.int]; cases e; rfl
  | str z =>
    rw [h.str]
    simp only [truth] at e
    split at e
    · cases e; exact ⟨lim_ok (by assumption), rfl⟩
    · cases e
  | list ys =>
    obtain ⟨a, vs, rfl, ha, hv⟩ := h.list
    cases e
    refine .inl ⟨vs, .inl ha, ?_⟩
    cases hv <;> rfl
  | tuple ys =>
    obtain ⟨a, vs, rfl, ha, hv⟩ := h.tup
    cases e
    refine .inr (.inl ⟨vs, ha, ?_⟩)
    cases hv <;> rfl
  | dict kvs => cases e

/-! ### built-ins -/
theorem sorted_unique {a b : List Int} (p : a.Perm b) (ha : a.Pairwise (· ≤ ·)) (hb : b.Pairwise (· ≤ ·)) : a = b := p.eq_of_pairwise (fun _ _ _ _ h1 h2 => Int.le_antisymm h1 h2) ha hb
theorem insI_perm (x : Int) : ∀ l : List Int, (insI x l).Perm (x :: l)
  | [] => List.Perm.refl _
  | y :: r => by
    unfold insI
    split
    · exact List.Perm.refl _
    · exact ((insI_perm x r).cons y).trans (List.Perm.swap x y r)
theorem insI_sorted (x : Int) : ∀ l : List Int, l.Pairwise (· ≤ ·) → (insI x l).Pairwise (· ≤ ·)
  | [], _ => by simp [insI]
  | y :: r, h => by
    unfold insI
    rw [List.pairwise_cons] at h
    split
    · rename_i hxy
      rw [List.pairwise_cons, List.pairwise_cons]
      refine ⟨fun z hz => ?_, h⟩
      rcases List.mem_cons.mp hz with rfl | hz
      · exact hxy
      · exact Int.le_trans hxy (h.1 z hz)
    · rename_i hxy
      rw [List.pairwise_cons]
      refine ⟨fun z hz => ?_, insI_sorted x r h.2⟩
      rcases List.mem_cons.mp ((insI_perm x r).mem_iff.mp hz) with rfl | hz
      · omega
      · exact h.1 z hz
theorem sortI_perm : ∀ l : List Int, (sortI l).Perm l
  | [] => List.Perm.refl _
  | x :: r => (insI_perm x (sortI r)).trans ((sortI_perm r).cons x)
theorem sortI_sorted : ∀ l : List Int, (sortI l).Pairwise (· ≤ ·)
  | [] => .nil
  | x :: r => insI_sorted x _ (sortI_sorted r)
theorem maxI_spec : ∀ {l : List Int} {m : Int}, maxI l = some m → m ∈ l ∧ ∀ y ∈ l, y ≤ m
  | [], m, h => by cases h
  | [x], m, h => by cases h; simp
  | x :: y :: r, m, h => by
    simp only [maxI] at h
    cases q : maxI (y :: r) with
    | none => rw [q] at h; cases h
    | some k =>
      rw [q] at h
      obtain ⟨h1, h2⟩ := maxI_spec q
      have h := Option.some.inj h
      split at h
      · subst h
        refine ⟨List.mem_cons_self, fun z hz => ?_⟩
        rcases List.mem_cons.mp hz with rfl | hz
        · exact Int.le_refl _
        · have := h2 z hz; omega
      · subst h
        refine ⟨List.mem_cons_of_mem _ h1, fun z hz => ?_⟩
        rcases List.mem_cons.mp hz with rfl | hz
        · omega
        · exact h2 z hz
theorem minI_spec : ∀ {l : List Int} {m : Int}, minI l = some m → m ∈ l ∧ ∀ y ∈ l, m ≤ y
  | [], m, h => by cases h
  | [x], m, h => by cases h; simp
  | x :: y :: r, m, h => by
    simp only [minI] at h
    cases q : minI (y :: r) with
    | none => rw [q] at h; cases h
    | some k =>
      rw [q] at h
      obtain ⟨h1, h2⟩ := minI_spec q
      have h := Option.some.inj h
      split at h
      · subst h
        refine ⟨List.mem_cons_self, fun z hz => ?_⟩
        rcases List.mem_cons.mp hz with rfl | hz
        · exact Int.le_refl _
        · have := h2 z hz; omega
      · subst h
        refine ⟨List.mem_cons_of_mem _ h1, fun z hz => ?_⟩
        rcases List.mem_cons.mp hz with rfl | hz
        · omega
        · exact h2 z hz

def b1V : B1 → Value
  | .len => .builtin "len"
  | .abs => .builtin "abs"
  | .toint => .type "int"
  | .totuple => .type "tuple"
  | .tolist => .type "list"
  | .sorted => .builtin "sorted"
  | .sum => .builtin "sum"
  | .maxl => .builtin "max"
  | .minl => .builtin "min"
  | .all => .builtin "all"
  | .any => .builtin "any"
  | .tostr => .type "str"
theorem b1_sound (hc : X.calm = true) (b : B1) : CallR X (b1V b) (fun vs H Q => ∃ x, vs = [x] ∧ rD1 X.K (b1Op b) x H Q) := by
  intro pins s σ H vs us Q I rv h
  obtain ⟨x, rfl, W, d, r, w, h1, e, q⟩ := h
  unfold b1Op at e
  split at e
  · have e1 := h1.str
    subst e1
    split at e
    · cases e
      rename_i hz
      exact call_len_str pins s σ H _ us Q I rv ⟨_, rfl, lim_ok hz, q.scal (.int _)⟩
    · cases e
  · obtain ⟨a, vs, rfl, ha, hv⟩ := h1.list
    cases e
    exact call_len_seq pins s σ H _ us Q I rv ⟨a, vs, rfl, .inl (.inl ha), by rw [hv.length]; exact q.scal (.int _)⟩
  · obtain ⟨a, vs, rfl, ha, hv⟩ := h1.tup
    cases e
    exact call_len_seq pins s σ H _ us Q I rv ⟨a, vs, rfl, .inr ha, by rw [hv.length]; exact q.scal (.int _)⟩
  · have e1 := h1.int
    subst e1
    cases e
    exact call_abs pins s σ H _ us Q I rv ⟨_, rfl, q.scal (.int _)⟩
  · have e1 := h1.int
    subst e1
    cases e
    exact call_int1 pins s σ H _ us Q I rv (.inl ⟨_, rfl, q.scal (.int _)⟩)
  · have e1 := h1.bl
    subst e1
    cases e
    exact call_int1 pins s σ H _ us Q I rv (.inr ⟨_, rfl, q.scal (.int _)⟩)
  · obtain ⟨a, vs, rfl, ha, hv⟩ := h1.list
    cases e
    exact call_tuple_of pins s σ H _ us Q I rv ⟨a, vs, rfl, .inl ⟨.inl ha, q.tup w hv⟩⟩
  · obtain ⟨a, vs, rfl, ha, hv⟩ := h1.tup
    cases e
    exact call_tuple_of pins s σ H _ us Q I rv ⟨a, vs, rfl, .inr ⟨ha, q.scal (.tup ha hv)⟩⟩
  · obtain ⟨a, vs, rfl, ha, hv⟩ := h1.list
    cases e
    exact call_list_of pins s σ H _ us Q I rv ⟨a, vs, rfl, .inl (.inl ha), q.lst w hv⟩
  · obtain ⟨a, vs, rfl, ha, hv⟩ := h1.tup
    cases e
    exact call_list_of pins s σ H _ us Q I rv ⟨a, vs, rfl, .inr ha, q.lst w hv⟩
  · -- sorted
    obtain ⟨a, vs, rfl, ha, hv⟩ := h1.list
    split at e
    · cases e
      rename_i ns hn
      obtain ⟨e1, e2⟩ := hv.ints hn
      subst e1
      refine cr_sortedI pins s σ H _ us Q I rv ⟨a, ns, rfl, .inl ha, fun ns' p hp hs hn' => ?_⟩
      have : ns' = sortI ns := sorted_unique (hp.trans (sortI_perm ns).symm) hs (sortI_sorted ns)
      subst this
      exact q.lst w (DqAll.of_ints _) p hn'
    · cases e
  · obtain ⟨a, vs, rfl, ha, hv⟩ := h1.tup
    split at e
    · cases e
      rename_i ns hn
      obtain ⟨e1, e2⟩ := hv.ints hn
      subst e1
      refine cr_sortedIT pins s σ H _ us Q I rv ⟨a, ns, rfl, ha, fun ns' p hp hs hn' => ?_⟩
      have : ns' = sortI ns := sorted_unique (hp.trans (sortI_perm ns).symm) hs (sortI_sorted ns)
      subst this
      exact q.lst w (DqAll.of_ints _) p hn'
    · cases e
  · obtain ⟨a, vs, rfl, ha, hv⟩ := h1.list
    split at e
    · cases e
      rename_i ns hn
      obtain ⟨e1, e2⟩ := hv.ints hn
      subst e1
      exact cr_sum hc pins s σ H _ us Q I rv ⟨a, ns, rfl, .inl ha, q.scal (.int _)⟩
    · cases e
  · obtain ⟨a, vs, rfl, ha, hv⟩ := h1.list
    split at e
    · rename_i ns hn
      obtain ⟨m, em, er⟩ := Option.map_eq_some_iff.mp e
      subst er
      obtain ⟨e1, e2⟩ := hv.ints hn
      subst e1
      obtain ⟨m1, m2⟩ := maxI_spec em
      refine cr_max hc pins s σ H _ us Q I rv ⟨a, ns, rfl, .inl ha, List.length_pos_of_mem m1, fun k h1 h2 => ?_⟩
      have : k = m := Int.le_antisymm (m2 k h1) (h2 m m1)
      subst this
      exact q.scal (.int _)
    · cases e
  · obtain ⟨a, vs, rfl, ha, hv⟩ := h1.list
    split at e
    · rename_i ns hn
      obtain ⟨m, em, er⟩ := Option.map_eq_some_iff.mp e
      subst er
      obtain ⟨e1, e2⟩ := hv.ints hn
      subst e1
      obtain ⟨m1, m2⟩ := minI_spec em
      refine cr_min hc pins s σ H _ us Q I rv ⟨a, ns, rfl, .inl ha, List.length_pos_of_mem m1, fun k h1 h2 => ?_⟩
      have : k = m := Int.le_antisymm (h2 m m1) (m2 k h1)
      subst this
      exact q.scal (.int _)
    · cases e
  · obtain ⟨a, vs, rfl, ha, hv⟩ := h1.list
    split at e
    · cases e
      rename_i ns hn
      obtain ⟨e1, e2⟩ := hv.bools hn
      subst e1
      exact cr_all hc pins s σ H _ us Q I rv ⟨a, ns, rfl, .inl ha, q.scal (.bl _)⟩
    · cases e
  · obtain ⟨a, vs, rfl, ha, hv⟩ := h1.list
    split at e
    · cases e
      rename_i ns hn
      obtain ⟨e1, e2⟩ := hv.bools hn
      subst e1
      exact cr_any hc pins s σ H _ us Q I rv ⟨a, ns, rfl, .inl ha, q.scal (.bl _)⟩
    · cases e
  · have e1 := h1.int
    subst e1
    split at e
    · cases e
      exact call_str_int pins s σ H _ us Q I rv ⟨_, rfl, by assumption, q.scal (.str _)⟩
    · cases e
  · have e1 := h1.bl
    subst e1
    cases e
    obtain ⟨u, rfl, ru⟩ := vals1 rv
    have ru : u = Value.bool _ := ru
    subst ru
    exact PySem.P.str_of_bool ⟨.str _, H, I.tok _, ⟨_, rfl⟩, q.scal (.str _)⟩
  · cases e

def b2V : B2 → Value
  | .max2 => .builtin "max"
  | .min2 => .builtin "min"
theorem b2_sound (hc : X.calm = true) (b : B2) : CallR X (b2V b) (fun vs H Q => ∃ x y, vs = [x, y] ∧ rD2 X.K (b2Op b) x y H Q) := by
  intro pins s σ H vs us Q I rv h
  obtain ⟨x, y, rfl, W, d1, d2, r, w, h1, h2, e, q⟩ := h
  unfold b2Op at e
  split at e
  · have e1 := h1.int
    have e2 := h2.int
    subst e1 e2
    cases e
    exact call_max2 hc pins s σ H _ us Q I rv ⟨_, _, rfl, q.scal (.int _)⟩
  · have e1 := h1.int
    have e2 := h2.int
    subst e1 e2
    cases e
    exact call_min2 hc pins s σ H _ us Q I rv ⟨_, _, rfl, q.scal (.int _)⟩
  · cases e

/-! ### subscripts -/
theorem ixOf_N (n : Nat) (i : Int) : ixOf n i = ixN n i := rfl
theorem atD_V {K : PySem.W.Frag} {H : Hp} {W : Addr → Prop} {vs : List V} {xs : List D} {i : Int} {x : D} (r : DqAll K H W vs xs) (h : atD xs i = some x) : ∃ v, atI vs i = some v ∧ Dq K H W v x := by
  unfold atD at h
  obtain ⟨j, h1, h2⟩ := Option.bind_eq_some_iff.mp h
  obtain ⟨v, hv, hd⟩ := r.get h2
  refine ⟨v, ?_, hd⟩
  unfold atI
  rw [r.length, ← ixOf_N, h1]
  exact hv
theorem ix_sound : IxR X (rD2 X.K ixD) := by
  intro value slice pins s σ H x y v u Q I rx ry h hs
  obtain ⟨W, d1, d2, r, w, h1, h2, e, q⟩ := h
  unfold ixD at e
  split at e
  · have e2 := h2.int
    subst e2
    split at e
    · rename_i xs hx
      obtain ⟨z, hz, rfl⟩ := Option.map_eq_some_iff.mp e
      obtain ⟨a, vs, rfl, hv, hw⟩ := h1.seq hx
      obtain ⟨y, hy, hd⟩ := atD_V hv hz
      rcases hw with hw | hw
      · exact ix_list value slice pins s σ H _ _ v u Q I rx ry ⟨a, vs, _, y, rfl, rfl, .inl hw, hy, q.scal hd⟩ hs
      · exact ix_tup value slice pins s σ H _ _ v u Q I rx ry ⟨a, vs, _, y, rfl, rfl, hw, hy, q.scal hd⟩ hs
    · cases e
  · cases e
theorem sIx_HT : ∀ (n d : Nat) (o : Option Int), sIx n d o = HT.sIx n d o := fun _ _ o => by cases o <;> rfl
theorem cutD_V {K : PySem.W.Frag} {H : Hp} {W : Addr → Prop} {vs : List V} {xs : List D} (lo hi : Option Int) (r : DqAll K H W vs xs) : DqAll K H W (cutV vs lo hi) (cutD xs lo hi) := by
  unfold cutV cutD
  rw [r.length, sIx_HT, sIx_HT]
  exact (r.drop _).take _
theorem sl_sound : SlR X (fun x lo hi H Q => ∃ W d r, Wok H W ∧ Lk X.K H W x d ∧ slD lo hi d = some r ∧ Ret X.K H W Q r) := by
  intro pins s σ H x v vl vu lo hi sl Q I rx hs pl pu h
  obtain ⟨W, d, r, w, h1, e, q⟩ := h
  unfold slD at e
  split at e
  · obtain ⟨a, vs, rfl, ha, hv⟩ := h1.list
    cases e
    exact sl_list pins s σ H _ v vl vu lo hi sl Q I rx hs pl pu ⟨a, vs, rfl, .inl ha, q.lst w (cutD_V lo hi hv)⟩
  · obtain ⟨a, vs, rfl, ha, hv⟩ := h1.tup
    cases e
    refine sl_tupA pins s σ H _ v vl vu lo hi sl Q I rx hs pl pu ⟨a, vs, rfl, ha, fun hw => ?_, fun _ => q.tup w (cutD_V lo hi hv)⟩
    have hc : cutV vs lo hi = vs := by
      unfold cutV
      rw [hw.1, hw.2, List.drop_zero, Nat.sub_zero, List.take_length]
    have := cutD_V lo hi hv
    rw [hc] at this
    exact q.scal (.tup ha this)
  · cases e
end
end Pv

/-! PvS2: expressions: what the evaluator says is what the program does. -/
namespace Pv
open PySem PySem.Spec PyProof.Rows L2

/-- an exception of the evaluator's, in a heap -/
def ER (M : Mo) (K : PySem.W.Frag) (c : Nat) (f : D) (cls : Value) (dx : Option Addr) (H : Hp) (W : Addr → Prop) : Prop :=
  ∃ C fl, M.excs[c]? = some (C, fl) ∧ cls = .ref C ∧ match fl with
    | some x => ∃ a v, dx = some a ∧ H a = some (.xd [(x, v)]) ∧ Dq K H W v f
    | none => True
/-- where one stands -/
structure Cn where
  M : Mo
  X : Cx
  B : Bs
  T : WX
structure Po where
  H : Hp
  W : Addr → Prop
  μ : List Addr
abbrev Sr (c : Cn) (σ : L2.St) (p : Po) (e : Slots) (m : Cels) : Prop := SR c.M c.X.K c.B σ p.H p.W p.μ e m
abbrev Ex (σ : L2.St) (p : Po) (e : Slots) (q : Po) (e' : Slots) : Prop := Ext σ p.H p.W p.μ e q.H q.W q.μ e'

def Post {α β : Type} (c : Cn) (σ : L2.St) (p : Po) (e : Slots) (RR : α → β → Po → Slots → Prop) (r : Res α) (Q : β → Hp → Prop) : Prop := match r with
  | .ok a e' m' => ∀ b q, Sr c σ q e' m' → Ex σ p e q e' → RR a b q e' → Q b q.H
  | .exc k f e' m' => ∀ cls dx q, Sr c σ q e' m' → Ex σ p e q e' → ER c.M c.X.K k f cls dx q.H q.W → c.T cls dx σ q.H
  | .stuck => False
/-- a value has come -/
def RV (c : Cn) (σ : L2.St) (isv : Bool) (p : Po) : Vl → V → Po → Slots → Prop := fun v u q e' => LR c.X.K q.H q.W q.μ u v ∧ (isv = false → Tmp c.B σ q.W e' u v ∧ Frs p.H u v)
def RB : Bool → Bool → Po → Slots → Prop := fun k b _ _ => b = k

theorem Post.bind {α β γ δ : Type} {c : Cn} {σ : L2.St} {p : Po} {e : Slots} {RR : α → β → Po → Slots → Prop} {RR' : γ → δ → Po → Slots → Prop} {r : Res α} {k : α → Slots → Cels → Res γ} {Q : δ → Hp → Prop} {Q1 : β → Hp → Prop}
    (h : Post c σ p e RR' (r.bind k) Q) (f : ∀ a e1 m1, Post c σ p e RR' (k a e1 m1) Q → ∀ b q, Sr c σ q e1 m1 → Ex σ p e q e1 → RR a b q e1 → Q1 b q.H) : Post c σ p e RR r Q1 := by
  cases r with
  | ok a e1 m1 => exact f a e1 m1 h
  | exc k f e1 m1 => exact h
  | stuck => exact h
theorem Post.shift {α β : Type} {c : Cn} {σ : L2.St} {p q : Po} {e e1 : Slots} {m : Cels} {RR RR' : α → β → Po → Slots → Prop} {r : Res α} {Q : β → Hp → Prop} (s : Sr c σ p e m) (x : Ex σ p e q e1) (h : Post c σ p e RR r Q)
    (hR : ∀ a b q' e', Ex σ q e1 q' e' → RR' a b q' e' → RR a b q' e') : Post c σ q e1 RR' r Q := by
  cases r with
  | ok a e' m' => exact fun b q' s' x' r' => h b q' s' (x.trans s.μt x') (hR a b q' e' x' r')
  | exc k f e' m' => exact fun cls dx q' s' x' r' => h cls dx q' s' (x.trans s.μt x') r'
  | stuck => exact h
theorem Post.shiftV {c : Cn} {σ : L2.St} {p q : Po} {e e1 : Slots} {m : Cels} {isv : Bool} {r : Res Vl} {Q : VK} (s : Sr c σ p e m) (x : Ex σ p e q e1) (h : Post c σ p e (RV c σ isv p) r Q) : Post c σ q e1 (RV c σ isv q) r Q :=
  h.shift s x fun _ _ _ _ _ r => ⟨r.1, fun z => ⟨(r.2 z).1, x.frs (r.2 z).2⟩⟩
theorem Post.shiftB {c : Cn} {σ : L2.St} {p q : Po} {e e1 : Slots} {m : Cels} {r : Res Bool} {Q : Bool → Hp → Prop} (s : Sr c σ p e m) (x : Ex σ p e q e1) (h : Post c σ p e RB r Q) : Post c σ q e1 RB r Q :=
  h.shift s x fun _ _ _ _ _ r => r
theorem Post.mono {α β : Type} {c : Cn} {σ : L2.St} {p : Po} {e : Slots} {RR : α → β → Po → Slots → Prop} {r : Res α} {Q Q' : β → Hp → Prop} (h : Post c σ p e RR r Q) (f : ∀ b H, Q b H → Q' b H) : Post c σ p e RR r Q' := by
  cases r with
  | ok a e' m' => exact fun b q s x r => f _ _ (h b q s x r)
  | exc k g e' m' => exact h
  | stuck => exact h

/-! ### expressions and tests by what they give -/
def WE (X : Cx) (ex : Expr) (σ : L2.St) (H : Hp) (Q : VK) : Prop := ∀ (pins : List (Addr × Obj)) (s : Shared), Inv X pins σ H s → wpAny (model X.prog X.w) X.A (eval ex X.env) (EP X pins σ Q) X.xe s
def WT (X : Cx) (ex : Expr) (σ : L2.St) (H : Hp) (Q : Bool → Hp → Prop) : Prop := ∀ (pins : List (Addr × Obj)) (s : Shared), Inv X pins σ H s → wpAny (model X.prog X.w) X.A (isTrue ex X.env (eval ex X.env)) (TP X pins σ Q) X.xe s
def WW (X : Cx) (ex : Expr) (σ : L2.St) (H : Hp) (Q : Bool → Hp → Prop) : Prop := ∀ (whole : Sem Value) (pins : List (Addr × Obj)) (s : Shared), Inv X pins σ H s → wpAny (model X.prog X.w) X.A (isTrue ex X.env whole) (TP X pins σ Q) X.xe s
theorem pe_we {X : Cx} {ex : Expr} : PE X ex (WE X ex) := ⟨fun pins s σ H Q I h => h pins s I⟩
theorem pt_wt {X : Cx} {ex : Expr} : PT X ex (WT X ex) := ⟨fun pins s σ H Q I h => h pins s I⟩
theorem pe.we {X : Cx} {ex : Expr} {t : TE} (h : PE X ex t) {σ : L2.St} {H : Hp} {Q : VK} (q : t σ H Q) : WE X ex σ H Q := fun pins s I => h.run pins s σ H Q I q
theorem pt.wt {X : Cx} {ex : Expr} {t : TT} (h : PT X ex t) {σ : L2.St} {H : Hp} {Q : Bool → Hp → Prop} (q : t σ H Q) : WT X ex σ H Q := fun pins s I => h.run pins s σ H Q I q

/-- what the form alone tells -/
structure Syn (ex : Expr) : Prop where
  ns : ∀ rest env, starEach (ex :: rest) env = (false, eval ex env) :: starEach rest env
  pl : PlainIx ex
  bm : ∀ op, behindInMarks op ex = false
  sw : (∀ t l env, swapsWith ex t l env = pure false) ∨ ∃ a b s q, ex = .ListComp a b s q
  fs : ∀ env x, foldedSetIterable ex env x = pure x
def synOk : Expr → Bool
  | .BoolOp .. => true
  | .BinOp .. => true
  | .UnaryOp .. => true
  | .IfExp .. => true
  | .ListComp .. => true
  | .Compare .. => true
  | .Call .. => true
  | .Constant .. => true
  | .Subscript .. => true
  | .Name .. => true
  | .List .. => true
  | .Tuple .. => true
  | .Attribute .. => true
  | .JoinedStr .. => true
  | .Dict .. => true
  | _ => false
theorem syn_of : ∀ {ex : Expr}, synOk ex = true → Syn ex := by
  intro ex h
  cases ex <;> first
    | (exact absurd h Bool.false_ne_true)
    | (exact ⟨fun _ _ => rfl, fun _ _ => rfl, fun _ => rfl, .inl fun _ _ _ => rfl, fun _ _ => rfl⟩)
    | (exact ⟨fun _ _ => rfl, fun _ _ => rfl, fun _ => rfl, .inr ⟨_, _, _, _, rfl⟩, fun _ _ => rfl⟩)
/-- a form that is tested by its value -/
def tstOk : Expr → Bool
  | .BoolOp .. => false
  | .UnaryOp .Not _ _ => false
  | .IfExp .. => false
  | .Compare .. => false
  | _ => true
theorem tst_of : ∀ {ex : Expr}, tstOk ex = true → ∀ env whole, isTrue ex env whole = (do let v ← whole; standAt ex.pos; holding [v] (truthy v)) := by
  intro ex h env whole
  cases ex <;> first
    | rfl
    | (exact absurd h Bool.false_ne_true)
    | (rename_i op a b; cases op <;> first | rfl | exact absurd h Bool.false_ne_true)
def isIf : Expr → Bool
  | .IfExp .. => true
  | _ => false

def SndV (c : Cn) (sm : Sm) (ex : Expr) : Prop := ∀ σ p e m Q, Sr c σ p e m → Post c σ p e (RV c σ sm.var.isSome p) (sm.v e m) Q → WE c.X ex σ p.H Q
def SndT (c : Cn) (sm : Sm) (ex : Expr) : Prop := ∀ σ p e m Q, Sr c σ p e m → Post c σ p e RB (sm.t e m) Q → WT c.X ex σ p.H Q
structure Snd (c : Cn) (sm : Sm) (ex : Expr) : Prop where
  v : SndV c sm ex
  t : isIf ex = false → SndT c sm ex
  sy : Syn ex
  vr : ∀ i, sm.var = some i → PE c.X ex (tVar i)
  om : sm.om = false

section
variable {c : Cn} {σ : L2.St} {p : Po} {e : Slots} {m : Cels}
theorem lk_of {u : V} {v : Vl} {x : D} (s : Sr c σ p e m) (l : LR c.X.K p.H p.W p.μ u v) (h : dat m v = some x) : Lk c.X.K p.H p.W u x := by
  cases v with
  | d y => cases h; exact .inl l
  | own xs =>
    cases h
    obtain ⟨a, vs, h1, h2, h3, h4⟩ := l
    exact .inr ⟨a, vs, xs, rfl, h1, h2, h3⟩
  | cell k =>
    obtain ⟨a, h1, h2⟩ := l
    have h : (match m[k]? with
      | some (.arr xs) => some (PyData.list xs)
      | _ => none) = some x := h
    split at h
    · cases h
      rename_i xs hk
      have go : ∀ {l1 : List Addr} {l2 : List Cel} {k : Nat}, Paired (CelR c.M c.X.K p.H p.W) l1 l2 → l1[k]? = some a → l2[k]? = some (.arr xs) → CelR c.M c.X.K p.H p.W a (.arr xs) := by
        intro l1 l2 k hp
        induction hp generalizing k with
        | nil => intro z; simp at z
        | cons r _ ih =>
          cases k with
          | zero => intro z1 z2; simp at z1 z2; subst z1 z2; exact r
          | succ k => intro z1 z2; simp at z1 z2; exact ih z1 z2
      obtain ⟨vs, h3, h4⟩ := go s.st.cel h1 hk
      exact .inr ⟨a, vs, xs, rfl, h2, h3, h4⟩
    · cases h
/-- a result by a value rule -/
theorem ret_of {Q : VK} {r : Vl} (s : Sr c σ p e m) (h : Post c σ p e (RV c σ false p) (.ok r e m) Q) : Ret c.X.K p.H p.W Q r := by
  cases r with
  | d z => exact fun u H' g d => h u ⟨H', p.W, p.μ⟩ (s.grow g) (Ext.grow g) ⟨d, fun _ => ⟨True.intro, True.intro⟩⟩
  | own zs =>
    intro a vs H1 H' g hd hn g' ha
    have s1 := s.grow g
    have hd' : DqAll c.X.K H' (fun b => p.W b ∨ b = a) vs zs := hd.keep s1.st.wok (fun b o h _ => g' b o h) fun b h z => z.elim id fun z => absurd (z ▸ hn) h
    have hm : a ∉ p.μ := fun z => s1.μt a z hn
    have s2 : Sr c σ ⟨H', fun b => p.W b ∨ b = a, p.μ⟩ e m := s1.alloc g' hn ha
    have x2 : Ex σ p e ⟨H', fun b => p.W b ∨ b = a, p.μ⟩ e := (Ext.grow g).trans s.μt (Ext.alloc g' hn)
    have hf : Frs p.H (V.ref a) (Vl.own zs) := fun b hb => by
      cases hb
      cases q : p.H a with
      | none => rfl
      | some o => rw [g a o q] at hn; cases hn
    exact h (.ref a) _ s2 x2 ⟨⟨a, vs, rfl, ha, hd', hm⟩, fun _ => ⟨tmp_of s x2 hf fun xs b _ hb => by cases hb; exact .inr rfl, hf⟩⟩
  | cell k => exact True.intro

/-! ### by their value -/
theorem snd_tof {isv : Bool} {v : Slots → Cels → Res Vl} {ex : Expr} (h : ∀ σ p e m Q, Sr c σ p e m → Post c σ p e (RV c σ isv p) (v e m) Q → WE c.X ex σ p.H Q)
    (he : ∀ whole, isTrue ex c.X.env whole = (do let v ← whole; standAt ex.pos; holding [v] (truthy v))) : ∀ σ p e m Q, Sr c σ p e m → Post c σ p e RB (tOf v e m) Q → WT c.X ex σ p.H Q := by
  intro σ p e m Q s hp pins st I
  refine isTrue_plain (thn ((h σ p e m (fun u H' => ∃ W d k, Lk c.X.K H' W u d ∧ truth d = some k ∧ Q k H') s ?_) pins st I) fun u s1 ⟨x, H1, I1, r1, W, d, k, hl, ht, q⟩ => truth_sound I1 r1 hl ht q) (he _)
  refine Post.bind (k := fun v e m => match dat m v with
    | some x => Res.of (truth x) e m
    | none => .stuck) hp fun v e1 m1 hk u q s1 x1 r1 => ?_
  cases hd : dat m1 v with
  | none => simp only [hd] at hk; exact hk.elim
  | some d =>
    simp only [hd] at hk
    cases ht : truth d with
    | none => rw [ht] at hk; exact hk.elim
    | some k =>
      rw [ht] at hk
      exact ⟨q.W, d, k, lk_of s1 r1.1 hd, ht, hk k q s1 x1 rfl⟩
/-- an expression that is tested by its value -/
theorem snd_mk {v : Slots → Cels → Res Vl} {ex : Expr} (h : SndV c (.mk' v) ex) (he : tstOk ex = true) (hs : synOk ex = true) : Snd c (.mk' v) ex :=
  ⟨h, fun _ => snd_tof (isv := false) h (tst_of he _), syn_of hs, (fun i z => nomatch z), rfl⟩

/-! ### constants, names -/
theorem snd_const {ex : Expr} {u : V} {d : D} (hpe : PE c.X ex (tC u)) (hd : ∀ H W, Dq c.X.K H W u d) (he : tstOk ex = true) (hs : synOk ex = true) : Snd c (.mk' fun e m => .ok (.d d) e m) ex :=
  snd_mk (fun σ p e m Q s hp => pe.we hpe (hp u p s Ext.refl ⟨hd _ _, fun _ => ⟨True.intro, True.intro⟩⟩)) he hs
theorem snd_var {i : Nat} {x : Str} {pos : Pos} (hN : c.X.N[i]? = some x) (hv : Vis c.X.env.scope x) (hd : (x == ("__debug__" : Str)) = false) (hcd : (x == ("__classdict__" : Str)) = false) :
    Snd c ⟨fun e m => getV e m i, tOf fun e m => getV e m i, some i, false⟩ (.Name x pos) := by
  have hv' : SndV c ⟨fun e m => getV e m i, tOf fun e m => getV e m i, some i, false⟩ (.Name x pos) := fun σ p e m Q s hp => by
    refine pe.we (pe_var hN hv hd hcd) ?_
    have hp : Post c σ p e (RV c σ true p) (getV e m i) Q := hp
    unfold getV at hp
    split at hp
    · rename_i v hv
      obtain ⟨u, h1, h2⟩ := s.env i v hv
      exact ⟨u, h1, hp u p s Ext.refl ⟨h2, fun z => nomatch z⟩⟩
    · exact hp.elim
  exact ⟨hv', fun _ => snd_tof (isv := true) hv' (by intro _; rfl), syn_of rfl, (fun j h => by cases h; exact pe_var hN hv hd hcd), rfl⟩

/-! ### two operands -/
section
variable {sa sb sc : Sm} {a b d : Expr} {pos : Pos}
/-- two values in a row -/
theorem two (ha : Snd c sa a) (hb : Snd c sb b) {γ δ : Type} {RR : γ → δ → Po → Slots → Prop} {σ : L2.St} {p : Po} {e : Slots} {m : Cels} {Q : δ → Hp → Prop} {k : Vl → Vl → Slots → Cels → Res γ} {R : V → V → Hp → Prop} (s : Sr c σ p e m)
    (hp : Post c σ p e RR ((sa.v e m).bind fun v e m => (sb.v e m).bind fun u e m => k v u e m) Q)
    (f : ∀ v u e2 m2 x y q, Sr c σ q e2 m2 → Ex σ p e q e2 → LR c.X.K q.H q.W q.μ x v → LR c.X.K q.H q.W q.μ y u → Post c σ q e2 RR (k v u e2 m2) Q → R x y q.H) :
    WE c.X a σ p.H fun x H1 => WE c.X b σ H1 fun y H2 => R x y H2 := by
  refine ha.v σ p e m _ s (Post.bind hp fun v e1 m1 hp x q1 s1 x1 r1 => ?_)
  refine hb.v σ q1 e1 m1 _ s1 (Post.bind (hp.shift s x1 fun _ _ _ _ _ r => r) fun u e2 m2 hp y q2 s2 x2 r2 => ?_)
  exact f v u e2 m2 x y q2 s2 (x1.trans s.μt x2) (x2.lr s1.st r1.1) r2.1 (hp.shift s1 x2 fun _ _ _ _ _ r => r)
theorem Post.reV {c : Cn} {σ : L2.St} {p q : Po} {e e1 : Slots} {isv : Bool} {r : Res Vl} {Q : VK} (x : Ex σ p e q e1) (h : Post c σ q e1 (RV c σ isv p) r Q) : Post c σ q e1 (RV c σ isv q) r Q := by
  cases r with
  | ok a e' m' => exact fun b q' s' x' r' => h b q' s' x' ⟨r'.1, fun z => ⟨(r'.2 z).1, x.frs (r'.2 z).2⟩⟩
  | exc k f e' m' => exact h
  | stuck => exact h
theorem two2_v (g : D → D → Option Vl) {ex : Expr} (ha : Snd c sa a) (hb : Snd c sb b) (hr : PE c.X ex (tOp (rD2 c.X.K g) (WE c.X a) (WE c.X b))) : SndV c (.mk' (two2 g sa sb)) ex := by
  intro σ p e m Q s hp
  refine pe.we hr ?_
  refine two ha hb s hp fun v u e2 m2 x y q s2 x2 lx ly hk => ?_
  cases h1 : dat m2 v with
  | none => simp only [h1] at hk; exact hk.elim
  | some d1 =>
    cases h2 : dat m2 u with
    | none => simp only [h1, h2] at hk; exact hk.elim
    | some d2 =>
      simp only [h1, h2] at hk
      cases h3 : g d1 d2 with
      | none => rw [h3] at hk; exact hk.elim
      | some r =>
        rw [h3] at hk
        exact ⟨q.W, d1, d2, r, s2.st.wok, lk_of s2 lx h1, lk_of s2 ly h2, h3, ret_of s2 (Post.reV x2 hk)⟩
/-- .. that gives a truth value -/
theorem two2_b (g : D → D → Option Bool) {ha' : Snd c sa a} {hb' : Snd c sb b} {σ : L2.St} {p : Po} {e : Slots} {m : Cels} {Q : VK} (s : Sr c σ p e m) (hp : Post c σ p e (RV c σ false p) (two2 (fun x y => (g x y).map fun k => Vl.d (.bool k)) sa sb e m) Q) :
    tOp (rB2 c.X.K g) (WE c.X a) (WE c.X b) σ p.H Q := by
  refine two ha' hb' s hp fun v u e2 m2 x y q s2 x2 lx ly hk => ?_
  cases h1 : dat m2 v with
  | none => simp only [h1] at hk; exact hk.elim
  | some d1 =>
    cases h2 : dat m2 u with
    | none => simp only [h1, h2] at hk; exact hk.elim
    | some d2 =>
      simp only [h1, h2] at hk
      cases h3 : g d1 d2 with
      | none => rw [h3] at hk; exact hk.elim
      | some r =>
        rw [h3] at hk
        exact ⟨q.W, d1, d2, r, lk_of s2 lx h1, lk_of s2 ly h2, h3, hk (.bl r) q s2 Ext.refl ⟨.bl r, fun _ => ⟨True.intro, True.intro⟩⟩⟩
/-- a truth value's test -/
theorem tof_bool {v : Slots → Cels → Res Vl} {σ : L2.St} {p : Po} {e : Slots} {m : Cels} {Q : Bool → Hp → Prop} (hb : ∀ u e' m', v e m = .ok u e' m' → ∃ k, u = .d (.bool k)) (hp : Post c σ p e RB (tOf v e m) Q) :
    Post c σ p e (RV c σ false p) (v e m) fun x H' => ∃ k, x = V.bl k ∧ Q k H' := by
  unfold tOf at hp
  cases h : v e m with
  | stuck => rw [h] at hp; exact hp
  | exc k f e' m' => rw [h] at hp; exact hp
  | ok u e' m' =>
    obtain ⟨k, rfl⟩ := hb u e' m' h
    rw [h] at hp
    intro x q s x1 r
    cases r.1
    exact ⟨k, rfl, hp k q s x1 rfl⟩
theorem snd_op (o : Op) (ha : Snd c sa a) (hb : Snd c sb b) : Snd c (.mk' (two2 (binOp o) sa sb)) (.BinOp a (opA o) b pos) :=
  snd_mk (two2_v _ ha hb (pe_op (bin_sound o) pe_we pe_we)) rfl rfl
theorem two2_bool {g : D → D → Option Bool} {e : Slots} {m : Cels} : ∀ u e' m', two2 (fun x y => (g x y).map fun k => Vl.d (.bool k)) sa sb e m = .ok u e' m' → ∃ k, u = .d (.bool k) := by
  intro u e' m' h
  unfold two2 at h
  cases h1 : sa.v e m with
  | stuck => rw [h1] at h; cases h
  | exc _ _ _ _ => rw [h1] at h; cases h
  | ok v e1 m1 =>
    rw [h1, Res.bind_ok] at h
    cases h2 : sb.v e1 m1 with
    | stuck => rw [h2] at h; cases h
    | exc _ _ _ _ => rw [h2] at h; cases h
    | ok w e2 m2 =>
      rw [h2, Res.bind_ok] at h
      split at h
      · rename_i x y _ _
        dsimp only at h
        cases h3 : g x y with
        | none => rw [h3] at h; cases h
        | some k => rw [h3] at h; cases h; exact ⟨k, rfl⟩
      · cases h
theorem snd_cmp (hu : c.X.A.units + 64 < cLine) (o : Cm) (ha : Snd c sa a) (hb : Snd c sb b) : Snd c (.mk' (two2 (fun x y => (cmpOp o x y).map fun k => Vl.d (.bool k)) sa sb)) (.Compare a [cmA o] [b] pos) := by
  refine ⟨fun σ p e m Q s hp => pe.we (pe_cmpR (cmp_sound hu o) pe_we pe_we (hb.sy.bm _)) (two2_b (ha' := ha) (hb' := hb) _ s hp), fun _ σ p e m Q s hp => pt.wt (pt_cmpR (cmp_sound hu o) pe_we pe_we (hb.sy.bm _)) ?_, syn_of rfl, (fun i z => nomatch z), rfl⟩
  exact two2_b (ha' := ha) (hb' := hb) _ s (tof_bool two2_bool hp)
theorem snd_ix (ha : Snd c sa a) (hb : Snd c sb b) : Snd c (.mk' (two2 ixD sa sb)) (.Subscript a b pos) :=
  snd_mk (two2_v _ ha hb (pe_ix ix_sound pe_we pe_we hb.sy.pl)) rfl rfl

/-! ### one operand -/
theorem one {sa : Sm} {a : Expr} (ha : Snd c sa a) {γ δ : Type} {RR : γ → δ → Po → Slots → Prop} {σ : L2.St} {p : Po} {e : Slots} {m : Cels} {Q : δ → Hp → Prop} {k : Vl → Slots → Cels → Res γ} {R : V → Hp → Prop} (s : Sr c σ p e m)
    (hp : Post c σ p e RR ((sa.v e m).bind fun v e m => k v e m) Q)
    (f : ∀ v e2 m2 x q, Sr c σ q e2 m2 → Ex σ p e q e2 → LR c.X.K q.H q.W q.μ x v → Post c σ q e2 RR (k v e2 m2) Q → R x q.H) : WE c.X a σ p.H fun x H1 => R x H1 :=
  ha.v σ p e m _ s (Post.bind hp fun v e1 m1 hp x q1 s1 x1 r1 => f v e1 m1 x q1 s1 x1 r1.1 (hp.shift s x1 fun _ _ _ _ _ r => r))
theorem one1_v (g : D → Option Vl) {ex : Expr} (ha : Snd c sa a) (hr : PE c.X ex (tUn (rD1 c.X.K g) (WE c.X a))) : SndV c (.mk' (one1 g sa)) ex := by
  intro σ p e m Q s hp
  refine pe.we hr ?_
  refine one ha s hp fun v e2 m2 x q s2 x2 lx hk => ?_
  cases h1 : dat m2 v with
  | none => simp only [h1] at hk; exact hk.elim
  | some d1 =>
    simp only [h1] at hk
    cases h3 : g d1 with
    | none => rw [h3] at hk; exact hk.elim
    | some r =>
      rw [h3] at hk
      exact ⟨q.W, d1, r, s2.st.wok, lk_of s2 lx h1, h3, ret_of s2 (Post.reV x2 hk)⟩
theorem neg_sound : UnR c.X (unaryOp .USub) (rD1 c.X.K negD) := by
  intro pins s σ H x v Q I rx h
  obtain ⟨W, d, r, w, h1, e, q⟩ := h
  unfold negD at e
  split at e
  · have e1 := h1.int
    subst e1
    cases e
    exact un_neg pins s σ H _ v Q I rx ⟨_, rfl, q.scal (.int _)⟩
  · cases e
theorem snd_neg (ha : Snd c sa a) : Snd c (.mk' (one1 negD sa)) (.UnaryOp .USub a pos) := snd_mk (one1_v _ ha (pe_un neg_sound pe_we)) rfl rfl

/-! ### not, and, or -/
theorem snd_not (ha : Snd c sa a) (hif : isIf a = false) : Snd c ⟨notV sa, notT sa, none, false⟩ (.UnaryOp .Not a pos) := by
  refine ⟨fun σ p e m Q s hp => pe.we (pe_not pe_we) ?_, fun _ σ p e m Q s hp => pt.wt (pt_not pt_wt) ?_, syn_of rfl, (fun i z => nomatch z), rfl⟩
  · refine one ha s hp fun v e2 m2 x q s2 x2 lx hk => ?_
    split at hk
    · cases lx
      exact ⟨_, rfl, hk _ q s2 Ext.refl ⟨.bl _, fun _ => ⟨True.intro, True.intro⟩⟩⟩
    · exact hk.elim
  · refine ha.t hif σ p e m _ s (Post.bind hp fun k e1 m1 hk b q s1 x1 r => ?_)
    subst r
    exact hk _ q s1 x1 rfl
/-- a second truth value -/
theorem then_bool (hb : Snd c sb b) {σ : L2.St} {p : Po} {e : Slots} {m : Cels} {Q : VK} (s : Sr c σ p e m) (hp : Post c σ p e (RV c σ false p) ((sb.v e m).bind boolR) Q) : WE c.X b σ p.H Q := by
  refine hb.v σ p e m _ s (Post.bind hp fun v e1 m1 hp x q1 s1 x1 r1 => ?_)
  unfold boolR at hp
  split at hp
  · cases r1.1
    exact hp _ q1 s1 x1 ⟨.bl _, fun _ => ⟨True.intro, True.intro⟩⟩
  · exact hp.elim
theorem snd_and (ha : Snd c sa a) (hb : Snd c sb b) (ia : isIf a = false) (ib : isIf b = false) : Snd c ⟨andV sa sb, andT sa sb, none, false⟩ (.BoolOp .And [a, b] pos) := by
  refine ⟨fun σ p e m Q s hp => pe.we (pe_and pe_we (pe_one pe_we)) ?_, fun _ σ p e m Q s hp => pt.wt (PW.pt (pw_and pt_wt (pw_and1 pt_wt))) ?_, syn_of rfl, (fun i z => nomatch z), rfl⟩
  · refine ha.v σ p e m _ s (Post.bind hp fun v e1 m1 hp x q1 s1 x1 r1 => ?_)
    have hp := Post.reV x1 (hp.shift s x1 fun _ _ _ _ _ r => r)
    split at hp
    · cases r1.1
      exact ⟨true, rfl, iteT (then_bool hb s1 hp)⟩
    · cases r1.1
      exact ⟨false, rfl, iteF (hp _ q1 s1 Ext.refl ⟨.bl _, fun _ => ⟨True.intro, True.intro⟩⟩)⟩
    · exact hp.elim
  · refine ha.t ia σ p e m _ s (Post.bind hp fun k e1 m1 hk b' q s1 x1 r => ?_)
    subst r
    have hk := Post.shiftB s x1 hk
    cases b' with
    | true => exact iteT (hb.t ib σ q e1 m1 _ s1 hk)
    | false => exact iteF (hk _ q s1 Ext.refl rfl)
theorem snd_or (ha : Snd c sa a) (hb : Snd c sb b) (ia : isIf a = false) (ib : isIf b = false) : Snd c ⟨orV sa sb, orT sa sb, none, false⟩ (.BoolOp .Or [a, b] pos) := by
  refine ⟨fun σ p e m Q s hp => pe.we (pe_or pe_we (pe_one pe_we)) ?_, fun _ σ p e m Q s hp => pt.wt (PW.pt (pw_or pt_wt (pw_or1 pt_wt))) ?_, syn_of rfl, (fun i z => nomatch z), rfl⟩
  · refine ha.v σ p e m _ s (Post.bind hp fun v e1 m1 hp x q1 s1 x1 r1 => ?_)
    have hp := Post.reV x1 (hp.shift s x1 fun _ _ _ _ _ r => r)
    split at hp
    · cases r1.1
      exact ⟨true, rfl, iteT (hp _ q1 s1 Ext.refl ⟨.bl _, fun _ => ⟨True.intro, True.intro⟩⟩)⟩
    · cases r1.1
      exact ⟨false, rfl, iteF (then_bool hb s1 hp)⟩
    · exact hp.elim
  · refine ha.t ia σ p e m _ s (Post.bind hp fun k e1 m1 hk b' q s1 x1 r => ?_)
    subst r
    have hk := Post.shiftB s x1 hk
    cases b' with
    | false => exact iteF (hb.t ib σ q e1 m1 _ s1 hk)
    | true => exact iteT (hk _ q s1 Ext.refl rfl)

/-! ### a value that is kept -/
/-- a slot's own list is given away -/
theorem SR.freeze {M : Mo} {K : PySem.W.Frag} {B : Bs} {σ : L2.St} {H : Hp} {W : Addr → Prop} {μ : List Addr} {e : Slots} {m : Cels} {i : Nat} {xs : List D} {a : Addr} {vs : List V} (s : SR M K B σ H W μ e m) (he : e[i]? = some (some (.own xs))) (hσ : σ[i]? = some (some (.ref a)))
    (ha : H a = some (.lst vs)) (hd : DqAll K H W vs xs) (hμ : a ∉ μ) : SR M K B σ H (fun b => W b ∧ b ≠ a) μ (e.set i (some (.d (.list xs)))) m ∧ Ext σ H W μ e H (fun b => W b ∧ b ≠ a) μ (e.set i (some (.d (.list xs)))) := by
  have hi : i < e.length := (List.getElem?_eq_some_iff.mp he).1
  have hB : B.H a = none := (s.own a ⟨i, xs, he, hσ⟩).2
  have ww : ∀ b, H b ≠ none → (W b ∧ b ≠ a) → W b := fun _ _ z => z.1
  have wl : ∀ {u : V} {v : Vl}, LR K H W μ u v → LR K H (fun b => W b ∧ b ≠ a) μ u v := fun {u v} h => by
    cases v with
    | d x => exact Dq.keep s.st.wok (fun _ _ h _ => h) ww h
    | own ys =>
      obtain ⟨b, us, h1, h2, h3, h4⟩ := h
      exact ⟨b, us, h1, h2, DqAll.keep s.st.wok (fun _ _ h _ => h) ww h3, h4⟩
    | cell k => exact h
  have own' : ∀ {j : Nat} {ys : List D}, (e.set i (some (.d (.list xs))))[j]? = some (some (.own ys)) → j ≠ i ∧ e[j]? = some (some (.own ys)) := fun {j ys} h => by
    by_cases hj : j = i
    · subst hj
      rw [List.getElem?_set_self hi] at h
      cases h
    · rw [List.getElem?_set_ne (Ne.symm hj)] at h
      exact ⟨hj, h⟩
  refine ⟨⟨⟨fun b h => s.st.wok b h.1, fun b h => ⟨s.st.μw b h, fun z => hμ (z ▸ h)⟩, s.st.nd, Paired.mapP s.st.cel fun b c h => ?_⟩, s.keep, s.bt, fun b h => ⟨s.bw b h, fun z => B.wt b h (z ▸ hB)⟩, fun b h z => s.wb b h z.1, s.pre, s.new, by rw [List.length_set]; exact s.len, fun j v h => ?_, fun b h => ?_, fun j k ys zs b hjk h1 h2 h3 h4 => s.dis j k ys zs b hjk (own' h1).2 (own' h2).2 h3 h4⟩,
    ⟨fun _ _ h _ => h, fun _ h => h, fun _ _ z => z.1, ⟨[], by simp⟩, fun _ h => .inl h, fun b h => ?_, fun j ys h => (own' h).2⟩⟩
  · exact CelR.keep s.st.wok (fun _ _ h _ => h) ww (fun _ e => e) h
  · by_cases hj : j = i
    · subst hj
      rw [List.getElem?_set_self hi] at h
      cases h
      exact ⟨_, hσ, .lst (.inl ha) (fun z => z.2 rfl) (DqAll.keep s.st.wok (fun _ _ h _ => h) ww hd)⟩
    · rw [List.getElem?_set_ne (Ne.symm hj)] at h
      obtain ⟨u, h1, h2⟩ := s.env j v h
      exact ⟨u, h1, wl h2⟩
  · obtain ⟨j, ys, h1, h2⟩ := h
    obtain ⟨hj, h1⟩ := own' h1
    obtain ⟨w1, w2⟩ := s.own b ⟨j, ys, h1, h2⟩
    refine ⟨⟨w1, fun z => ?_⟩, w2⟩
    subst z
    exact s.dis j i ys xs b hj h1 he h2 hσ
  · by_cases hb : b = a
    · subst hb; exact .inr ⟨i, xs, he, hσ⟩
    · exact .inl ⟨h, hb⟩
theorem snd_g (ha : Snd c sa a) {σ : L2.St} {p : Po} {e : Slots} {m : Cels} {Q : VK} (s : Sr c σ p e m) (hp : Post c σ p e (RV c σ false p) (sa.g e m) Q) : WE c.X a σ p.H Q := by
  unfold Sm.g at hp
  cases hv : sa.var with
  | none =>
    rw [hv] at hp
    refine ha.v σ p e m Q s ?_
    rw [hv]
    exact hp
  | some i =>
    rw [hv] at hp
    refine pe.we (ha.vr i hv) ?_
    have hp : Post c σ p e (RV c σ false p) (takeV e m i) Q := hp
    unfold takeV at hp
    split at hp
    · rename_i xs he
      obtain ⟨u, h5, b, us, h6, h7, h8, h9⟩ := s.env i _ he
      subst h6
      obtain ⟨s', x'⟩ := s.freeze he h5 h7 h8 h9
      exact ⟨_, h5, hp _ ⟨p.H, fun z => p.W z ∧ z ≠ b, p.μ⟩ s' x' ⟨.lst (.inl h7) (fun z => z.2 rfl) (h8.keep s.st.wok (fun _ _ h _ => h) fun _ _ z => z.1), fun _ => ⟨True.intro, True.intro⟩⟩⟩
    · rename_i v hn he
      obtain ⟨u, h5, h6⟩ := s.env i _ he
      refine ⟨_, h5, hp _ p s Ext.refl ⟨h6, fun _ => ?_⟩⟩
      cases v with
      | own xs => exact (hn xs rfl).elim
      | d x => exact ⟨True.intro, True.intro⟩
      | cell k => exact ⟨True.intro, True.intro⟩
    · exact hp.elim

/-! ### lists of expressions -/
def WA (X : Cx) (es : List Expr) (σ : L2.St) (H : Hp) (Q : List V → Hp → Prop) : Prop := ∀ (pos : Pos) (pins : List (Addr × Obj)) (s : Shared), Inv X pins σ H s → wpAny (model X.prog X.w) X.A (spliced (backTo pos (starEach es X.env))) (AP X pins σ Q) X.xe s
theorem pa_wa {X : Cx} {es : List Expr} : PA X es (WA X es) := ⟨fun pos pins s σ H Q I h => h pos pins s I⟩
theorem wa_of {X : Cx} {es : List Expr} {t : TA} (h : PA X es t) {σ : L2.St} {H : Hp} {Q : List V → Hp → Prop} (q : t σ H Q) : WA X es σ H Q := fun pos pins s I => h.run pos pins s σ H Q I q
theorem wa_cons {X : Cx} {ex : Expr} {es : List Expr} (hs : Syn ex) {σ : L2.St} {H : Hp} {Q : List V → Hp → Prop} (q : WE X ex σ H fun x H1 => WA X es σ H1 fun xs H2 => Q (x :: xs) H2) : WA X (ex :: es) σ H Q :=
  wa_of (pa_cons pe_we pa_wa (hs.ns es X.env)) q
/-- values have come, kept ones: the fresh ones are new since p, no two are the same -/
structure RL (c : Cn) (σ : L2.St) (p : Po) (vs : List Vl) (us : List V) (q : Po) (e' : Slots) : Prop where
  lr : Paired (fun u v => LR c.X.K q.H q.W q.μ u v ∧ Tmp c.B σ q.W e' u v ∧ Frs p.H u v) us vs
  ap : ∀ (i j : Nat) (xs ys : List D) (a : Addr), i ≠ j → vs[i]? = some (.own xs) → vs[j]? = some (.own ys) → us[i]? = some (.ref a) → us[j]? = some (.ref a) → False
theorem Paired.get1 {α β : Type} {R : α → β → Prop} : ∀ {l1 : List α} {l2 : List β} {i : Nat} {b : β}, Paired R l1 l2 → l2[i]? = some b → ∃ a, l1[i]? = some a ∧ R a b
  | _, _, _, _, .nil, h => by simp at h
  | _, _, 0, _, .cons r _, h => by simp at h; subst h; exact ⟨_, rfl, r⟩
  | _, _, i + 1, b, .cons _ t, h => by
    obtain ⟨a, h1, h2⟩ := Paired.get1 (i := i) (b := b) t (by simpa using h)
    exact ⟨a, by simpa using h1, h2⟩
theorem snds_g : ∀ {ss : List Sm} {es : List Expr}, Paired (Snd c) ss es → ∀ {σ : L2.St} {p : Po} {e : Slots} {m : Cels} {Q : List V → Hp → Prop}, Sr c σ p e m → Post c σ p e (RL c σ p) (smG ss e m) Q → WA c.X es σ p.H Q
  | _, _, .nil, σ, p, e, m, Q, s, hp => wa_of pa_nil (hp [] p s Ext.refl ⟨.nil, fun i j xs ys a _ h => by simp at h⟩)
  | _, _, .cons (a := sm) (b := ex) h t, σ, p, e, m, Q, s, hp => by
    refine wa_cons h.sy (snd_g h s (Post.bind hp fun v e1 m1 hp x q1 s1 x1 r1 => ?_))
    refine snds_g t s1 (Post.bind (hp.shift s x1 fun _ _ _ _ _ r => r) fun vs e2 m2 hp us q2 s2 x2 r2 => ?_)
    refine hp (x :: us) q2 s2 x2 ⟨.cons ⟨x2.lr s1.st r1.1, x2.tmp (r1.2 rfl).1, (r1.2 rfl).2⟩ (Paired.mapP r2.lr fun u v z => ⟨z.1, z.2.1, x1.frs z.2.2⟩), fun i j xs ys a hij h1 h2 h3 h4 => ?_⟩
    have old : ∀ {v : Vl} {xs : List D} {a : Addr}, v = .own xs → LR c.X.K q1.H q1.W q1.μ (V.ref a) v → q1.H a ≠ none := fun {v xs a} hv hl => by
      subst hv
      obtain ⟨b, vs, hb, h2, _⟩ := hl
      cases hb
      rw [h2]
      exact fun z => nomatch z
    cases i with
    | zero =>
      cases j with
      | zero => exact hij rfl
      | succ j =>
        simp only [List.getElem?_cons_zero, List.getElem?_cons_succ, Option.some.injEq] at h1 h2 h3 h4
        subst h1 h3
        obtain ⟨u, hu, z⟩ := Paired.get1 r2.lr h2
        rw [h4] at hu
        cases hu
        exact old rfl r1.1 (z.2.2 a rfl)
    | succ i =>
      cases j with
      | zero =>
        simp only [List.getElem?_cons_zero, List.getElem?_cons_succ, Option.some.injEq] at h1 h2 h3 h4
        subst h2 h4
        obtain ⟨u, hu, z⟩ := Paired.get1 r2.lr h1
        rw [h3] at hu
        cases hu
        exact old rfl r1.1 (z.2.2 a rfl)
      | succ j =>
        simp only [List.getElem?_cons_succ] at h1 h2 h3 h4
        exact r2.ap i j xs ys a (fun z => hij (by rw [z])) h1 h2 h3 h4

/-! ### displays -/
/-- the fresh things among kept values -/
def givenP (us : List V) (vs : List Vl) : Addr → Prop := fun a => ∃ (i : Nat) (xs : List D), vs[i]? = some (.own xs) ∧ us[i]? = some (.ref a)
/-- kept values as data: no one writes them any more -/
theorem RL.give {vs : List Vl} {us : List V} {xs : List D} {σ : L2.St} {p q : Po} {e e' : Slots} {m m' : Cels} (s : Sr c σ p e m) (s1 : Sr c σ q e' m') (x : Ex σ p e q e') (r : RL c σ p vs us q e') (h : frzAll vs = some xs) :
    Sr c σ ⟨q.H, fun a => q.W a ∧ ¬ givenP us vs a, q.μ⟩ e' m' ∧ Ex σ p e ⟨q.H, fun a => q.W a ∧ ¬ givenP us vs a, q.μ⟩ e' ∧ DqAll c.X.K q.H (fun a => q.W a ∧ ¬ givenP us vs a) us xs := by
  have at_ : ∀ {a : Addr}, givenP us vs a → ∃ ys zs, q.H a = some (.lst zs) ∧ DqAll c.X.K q.H q.W zs ys ∧ a ∉ q.μ ∧ q.W a ∧ c.B.H a = none ∧ ¬ OwnS e' σ a ∧ p.H a = none := fun {a} ⟨i, ys, h1, h2⟩ => by
    obtain ⟨u, hu, ⟨b, zs, hb, z2, z3, z4⟩, z5, z6⟩ := Paired.get1 r.lr h1
    rw [h2] at hu
    cases hu
    cases hb
    obtain ⟨w1, w2, w3⟩ := z5 a rfl
    exact ⟨ys, zs, z2, z3, z4, w1, w2, w3, z6 a rfl⟩
  refine ⟨SR.drop s1 (fun a ha => let ⟨_, _, _, _, z, _⟩ := at_ ha; z) (fun a ha => let ⟨_, _, _, _, _, _, _, z, _⟩ := at_ ha; z) (fun a ha => let ⟨_, _, _, _, _, _, z, _⟩ := at_ ha; z), Ext.drop s.st x fun a ha => let ⟨_, _, _, _, _, _, _, _, z⟩ := at_ ha; z, ?_⟩
  have go : ∀ {us' : List V} {vs' : List Vl} {xs' : List D} (n : Nat), us' = us.drop n → vs' = vs.drop n → Paired (fun u v => LR c.X.K q.H q.W q.μ u v ∧ Tmp c.B σ q.W e' u v ∧ Frs p.H u v) us' vs' → frzAll vs' = some xs' → DqAll c.X.K q.H (fun a => q.W a ∧ ¬ givenP us vs a) us' xs' := by
    intro us' vs' xs' n hu hv hp
    induction hp generalizing xs' n with
    | nil => intro h; cases h; exact .nil
    | @cons u v us1 vs1 hd tl ih =>
      intro h
      unfold frzAll at h
      cases h1 : frz v with
      | none => rw [h1] at h; cases h
      | some y =>
        cases h2 : frzAll vs1 with
        | none => rw [h1, h2] at h; cases h
        | some l =>
          rw [h1, h2] at h
          cases h
          refine .cons ?_ (ih (n + 1) (by rw [← List.drop_drop, ← hu]; rfl) (by rw [← List.drop_drop, ← hv]; rfl) h2)
          cases v with
          | d z => cases h1; exact Dq.keep s1.st.wok (fun _ _ h _ => h) (fun _ _ z => z.1) hd.1
          | own zs =>
            cases h1
            obtain ⟨a, ws, rfl, z2, z3, z4⟩ := hd.1
            refine .lst (.inl z2) (fun z => z.2 ⟨n, zs, ?_, ?_⟩) (z3.keep s1.st.wok (fun _ _ h _ => h) (fun _ _ z => z.1))
            · have := congrArg (fun l => l[0]?) hv
              simpa using this.symm
            · have := congrArg (fun l => l[0]?) hu
              simpa using this.symm
          | cell k => cases h1
  exact go 0 rfl rfl r.lr h
theorem snd_tup {ss : List Sm} {es : List Expr} {k : Nat} (hs : Paired (Snd c) ss es) : Snd c (.mk' (dispV (fun xs => .d (.tuple xs)) ss)) (.Tuple es k pos) := by
  refine snd_mk (fun σ p e m Q s hp => pe.we (pe_tup pa_wa) ?_) rfl rfl
  refine snds_g hs s (Post.bind hp fun vs e1 m1 hp us q s1 x1 r1 => ?_)
  cases h : frzAll vs with
  | none => simp only [h] at hp; exact hp.elim
  | some xs =>
    simp only [h] at hp
    split at hp
    · rename_i hl
      obtain ⟨s2, x2, d2⟩ := r1.give s s1 x1 h
      refine ⟨lim_ok (by rw [d2.length]; exact hl), fun a ha => ?_⟩
      have g := same_new (o := HO.tup us) ha
      exact hp (.ref a) ⟨_, _, q.μ⟩ (s2.grow g) (x2.trans s.μt (Ext.grow g)) ⟨.tup (.inl (.inl upd_same)) (d2.same s2.st.wok g), fun _ => ⟨True.intro, True.intro⟩⟩
    · exact hp.elim
theorem snd_lst {ss : List Sm} {es : List Expr} (hs : Paired (Snd c) ss es) : Snd c (.mk' (dispV (fun xs => .own xs) ss)) (.List es pos) := by
  refine snd_mk (fun σ p e m Q s hp => pe.we (pe_lst pa_wa) ?_) rfl rfl
  refine snds_g hs s (Post.bind hp fun vs e1 m1 hp us q s1 x1 r1 => ?_)
  cases h : frzAll vs with
  | none => simp only [h] at hp; exact hp.elim
  | some xs =>
    simp only [h] at hp
    split at hp
    · rename_i hl
      obtain ⟨s2, x2, d2⟩ := r1.give s s1 x1 h
      refine ⟨lim_ok (by rw [d2.length]; exact hl), ?_⟩
      have hr : Ret c.X.K q.H (fun a => q.W a ∧ ¬ givenP us vs a) Q (.own xs) := ret_of (p := ⟨q.H, fun a => q.W a ∧ ¬ givenP us vs a, q.μ⟩) s2 (Post.reV x2 (Post.shift (RR' := RV c σ false p) (r := .ok (.own xs) e1 m1) s x2 hp fun _ _ _ _ _ r => r))
      exact hr.lst s2.st.wok d2
    · exact hp.elim
end
end
end Pv

/-! PvS3: expressions, further: choices, chains, slices, built-ins by name, isinstance. -/
namespace Pv
open PySem PySem.Spec PyProof.Rows L2
section
variable {c : Cn} {sa sb sc : Sm} {a b d : Expr} {pos : Pos}

/-! ### a if t else b -/
theorem snd_ite (hc : Snd c sc d) (ha : Snd c sa a) (hb : Snd c sb b) (ic : isIf d = false) : Snd c (.mk' (iteV sc sa sb)) (.IfExp d a b pos) := by
  refine ⟨fun σ p e m Q s hp => pe.we (pe_ifExp pt_wt pe_we pe_we) ?_, (fun h => nomatch h), syn_of rfl, (fun i z => nomatch z), rfl⟩
  refine hc.t ic σ p e m _ s (Post.bind hp fun k e1 m1 hk b' q s1 x1 r => ?_)
  subst r
  have hk := Post.reV x1 (Post.shift s x1 hk fun _ _ _ _ _ r => r)
  cases b' with
  | true => exact iteT (snd_g ha s1 hk)
  | false => exact iteF (snd_g hb s1 hk)

/-! ### a < b < c -/
theorem chain_t {o p' : Cm} (ha : Snd c sa a) (hb : Snd c sb b) (hd : Snd c sc d) {σ : L2.St} {p : Po} {e : Slots} {m : Cels} {Q : VK} (s : Sr c σ p e m) (hp : Post c σ p e (RV c σ false p) (chainV o p' sa sb sc e m) Q) :
    tChain (rB2 c.X.K (cmpOp o)) (rB2 c.X.K (cmpOp p')) (WE c.X a) (WE c.X b) (WE c.X d) σ p.H Q := by
  refine two ha hb s hp fun v u e2 m2 x y q s2 x2 lx ly hk => ?_
  cases h1 : dat m2 v with
  | none => simp only [h1] at hk; exact hk.elim
  | some d1 =>
    cases h2 : dat m2 u with
    | none => simp only [h1, h2] at hk; exact hk.elim
    | some d2 =>
      simp only [h1, h2] at hk
      cases h3 : cmpOp o d1 d2 with
      | none => simp only [h3] at hk; exact hk.elim
      | some k =>
        simp only [h3] at hk
        refine ⟨q.W, d1, d2, k, lk_of s2 lx h1, lk_of s2 ly h2, h3, k, rfl, ?_⟩
        cases k with
        | false => exact iteF (hk _ q s2 Ext.refl ⟨.bl _, fun _ => ⟨True.intro, True.intro⟩⟩)
        | true =>
          refine iteT (one hd s2 hk fun w e3 m3 z q3 s3 x3 lz hk => ?_)
          cases h4 : dat m3 u with
          | none => simp only [h4] at hk; exact hk.elim
          | some d3 =>
            cases h5 : dat m3 w with
            | none => simp only [h4, h5] at hk; exact hk.elim
            | some d4 =>
              simp only [h4, h5] at hk
              cases h6 : cmpOp p' d3 d4 with
              | none => rw [h6] at hk; exact hk.elim
              | some k =>
                rw [h6] at hk
                exact ⟨q3.W, d3, d4, k, lk_of s3 (x3.lr s2.st ly) h4, lk_of s3 lz h5, h6, hk (.bl k) q3 s3 Ext.refl ⟨.bl k, fun _ => ⟨True.intro, True.intro⟩⟩⟩
theorem chain_bool {o p' : Cm} {e : Slots} {m : Cels} : ∀ u e' m', chainV o p' sa sb sc e m = .ok u e' m' → ∃ k, u = .d (.bool k) := by
  intro u e' m' h
  unfold chainV at h
  cases h1 : sa.v e m with
  | stuck => rw [h1] at h; cases h
  | exc _ _ _ _ => rw [h1] at h; cases h
  | ok v e1 m1 =>
    rw [h1, Res.bind_ok] at h
    cases h2 : sb.v e1 m1 with
    | stuck => rw [h2] at h; cases h
    | exc _ _ _ _ => rw [h2] at h; cases h
    | ok w e2 m2 =>
      rw [h2, Res.bind_ok] at h
      split at h
      · split at h
        · cases h; exact ⟨_, rfl⟩
        · cases h3 : sc.v e2 m2 with
          | stuck => rw [h3] at h; cases h
          | exc _ _ _ _ => rw [h3] at h; cases h
          | ok z e3 m3 =>
            rw [h3, Res.bind_ok] at h
            split at h
            · rename_i y z _ _
              cases h4 : cmpOp p' y z with
              | none => rw [h4] at h; cases h
              | some k => rw [h4] at h; cases h; exact ⟨k, rfl⟩
            · cases h
        · cases h
      · cases h
theorem snd_chain (hu : c.X.A.units + 64 < cLine) (o p' : Cm) (ha : Snd c sa a) (hb : Snd c sb b) (hd : Snd c sc d) : Snd c (.mk' (chainV o p' sa sb sc)) (.Compare a [cmA o, cmA p'] [b, d] pos) := by
  have hm : lastMarks [cmA o, cmA p'] [b, d] = false := hd.sy.bm _
  refine ⟨fun σ p e m Q s hp => pe.we (pe_chain (cmp_sound hu o) (cmp_sound hu p') pe_we pe_we pe_we hm) (chain_t ha hb hd s hp), fun _ σ p e m Q s hp => pt.wt (pt_chain (cmp_sound hu o) (cmp_sound hu p') pe_we pe_we pe_we hm) ?_, syn_of rfl, (fun i z => nomatch z), rfl⟩
  exact chain_t ha hb hd s (tof_bool chain_bool hp)

/-! ### slices -/
def WO (X : Cx) (o : Option Expr) (σ : L2.St) (H : Hp) (Q : Option Int → Hp → Prop) : Prop := PO X o (fun σ' H' Q' => σ' = σ ∧ H' = H ∧ Q' = Q) 
def RO : Option Int → Option Int → Po → Slots → Prop := fun o o' _ _ => o' = o
/-- a slice's end that is left out, or stands there -/
def SndO (c : Cn) (sm : Sm) (o : Option Expr) : Prop := (o = none ∧ sm.om = true) ∨ ∃ a, o = some a ∧ Snd c sm a
theorem sndo_run {sm : Sm} {o : Option Expr} (h : SndO c sm o) : ∃ t, PO c.X o t ∧ ∀ σ p e m Q, Sr c σ p e m → Post c σ p e RO (sm.o e m) Q → t σ p.H Q := by
  rcases h with ⟨rfl, ho⟩ | ⟨a, rfl, ha⟩
  · refine ⟨tNoPart, po_none, fun σ p e m Q s hp => ?_⟩
    unfold Sm.o at hp
    rw [ho] at hp
    exact hp none p s Ext.refl rfl
  · refine ⟨tPart (WE c.X a), po_some pe_we, fun σ p e m Q s hp => ?_⟩
    unfold Sm.o at hp
    rw [ha.om] at hp
    refine one ha s hp fun v e2 m2 x q s2 x2 lx hk => ?_
    split at hk
    · cases lx
      exact ⟨_, rfl, hk _ q s2 Ext.refl rfl⟩
    · exact hk.elim
theorem snd_sl {sl sh : Sm} {lo hi : Option Expr} {p2 : Pos} (ha : Snd c sa a) (hl : SndO c sl lo) (hh : SndO c sh hi) : Snd c (.mk' (sliceV sa sl sh)) (.Subscript a (.Slice lo hi none p2) pos) := by
  obtain ⟨tl, pl, ql⟩ := sndo_run hl
  obtain ⟨th, ph, qh⟩ := sndo_run hh
  refine snd_mk (fun σ p e m Q s hp => pe.we (pe_slice sl_sound pe_we pl ph) ?_) rfl rfl
  refine ha.v σ p e m _ s (Post.bind hp fun v e1 m1 hp x q1 s1 x1 r1 => ?_)
  refine ql σ q1 e1 m1 _ s1 (Post.bind (hp.shift s x1 fun _ _ _ _ _ r => r) fun l e2 m2 hp l' q2 s2 x2 r2 => ?_)
  subst r2
  refine qh σ q2 e2 m2 _ s2 (Post.bind (hp.shift s1 x2 fun _ _ _ _ _ r => r) fun h e3 m3 hp h' q3 s3 x3 r3 => ?_)
  subst r3
  have hp := hp.shift s2 x3 fun _ _ _ _ _ r => r
  cases h1 : dat m3 v with
  | none => simp only [h1] at hp; exact hp.elim
  | some d1 =>
    simp only [h1] at hp
    cases h3 : slD l' h' d1 with
    | none => rw [h3] at hp; exact hp.elim
    | some r =>
      rw [h3] at hp
      exact ⟨q3.W, d1, r, s3.st.wok, lk_of s3 (x3.lr s2.st (x2.lr s1.st r1.1)) h1, h3, ret_of s3 (Post.reV (x1.trans s.μt (x2.trans s1.μt x3)) hp)⟩

/-! ### built-ins by name -/
def b1N : B1 → Str
  | .len => "len"
  | .abs => "abs"
  | .toint => "int"
  | .totuple => "tuple"
  | .tolist => "list"
  | .sorted => "sorted"
  | .sum => "sum"
  | .maxl => "max"
  | .minl => "min"
  | .all => "all"
  | .any => "any"
  | .tostr => "str"
theorem b1_boot (b : B1) : bootBuiltins (b1N b) = some (b1V b) ∧ b1N b ≠ "__name__" ∧ (b1N b == ("__debug__" : Str)) = false := by
  cases b <;> exact ⟨by decide +kernel, by decide, by decide⟩
theorem snd_b1 (hc : c.X.calm = true) (b' : B1) {x : Str} {pn : Pos} (hx : x = b1N b') (hg : Gl c.X x) (hm : c.X.mg x = none) (ha : Snd c sa a) : Snd c (.mk' (one1 (b1Op b') sa)) (.Call (.Name x pn) [a] [] pos) := by
  subst hx
  obtain ⟨h1, h2, h3⟩ := b1_boot b'
  have go : ∀ (t : TA → TE), (∀ ta, t ta = tCB (fun vs H Q => ∃ x, vs = [x] ∧ rD1 c.X.K (b1Op b') x H Q) ta) → PE c.X (.Call (.Name (b1N b') pn) [a] [] pos) (t (tCons (WE c.X a) tNil)) → Snd c (.mk' (one1 (b1Op b') sa)) (.Call (.Name (b1N b') pn) [a] [] pos) := fun t ht h => by
    refine snd_mk (one1_v _ ha ⟨fun pins s σ H Q I q => h.run pins s σ H Q I ?_⟩) rfl rfl
    rw [ht]
    have q : WE c.X a σ H (fun x H1 => rD1 c.X.K (b1Op b') x H1 Q) := q
    intro pins s I
    exact thn (q pins s I) fun u s' ⟨y, H', I', r', z⟩ => ⟨y, H', I', r', y, rfl, z⟩
  have hst := ha.sy.ns [] c.X.env
  have S := b1_sound (X := c.X) hc b'
  cases b' <;> first
    | exact go _ (fun _ => rfl) (pe_callB S hg hm h1 (pa_cons pe_we pa_nil hst) h2 h3 hst rfl)
    | exact go _ (fun _ => rfl) (pe_callTy S hg hm h1 (pa_cons pe_we pa_nil hst) h2 h3 hst rfl)
def b2N : B2 → Str
  | .max2 => "max"
  | .min2 => "min"
theorem snd_b2 (hc : c.X.calm = true) (b' : B2) {x : Str} {pn : Pos} (hx : x = b2N b') (hg : Gl c.X x) (hm : c.X.mg x = none) (ha : Snd c sa a) (hb : Snd c sb b) : Snd c (.mk' (two2 (b2Op b') sa sb)) (.Call (.Name x pn) [a, b] [] pos) := by
  subst hx
  have hst := ha.sy.ns [b] c.X.env
  have hst2 := hb.sy.ns [] c.X.env
  have S := b2_sound (X := c.X) hc b'
  have hpl : (backTo pos (starEach [b] c.X.env)).any (·.1) = false := by rw [hst2]; rfl
  refine snd_mk (two2_v _ ha hb ⟨fun pins s σ H Q I q => ?_⟩) rfl rfl
  have q : WE c.X a σ H (fun x H1 => WE c.X b σ H1 fun y H2 => rD2 c.X.K (b2Op b') x y H2 Q) := q
  have t : tCB (fun vs H Q => ∃ x y, vs = [x, y] ∧ rD2 c.X.K (b2Op b') x y H Q) (tCons (WE c.X a) (tCons (WE c.X b) tNil)) σ H Q := by
    intro pins s I
    refine thn (q pins s I) fun u s' ⟨y, H', I', r', z⟩ => ⟨y, H', I', r', ?_⟩
    intro pins s I
    exact thn (z pins s I) fun u s' ⟨y', H', I', r', z⟩ => ⟨y', H', I', r', y, y', rfl, z⟩
  cases b' with
  | max2 => exact (pe_callB S hg hm (by decide +kernel) (pa_cons pe_we (pa_cons pe_we pa_nil hst2) hst) (by decide) (by decide) hst hpl).run pins s σ H Q I t
  | min2 => exact (pe_callB S hg hm (by decide +kernel) (pa_cons pe_we (pa_cons pe_we pa_nil hst2) hst) (by decide) (by decide) hst hpl).run pins s σ H Q I t

/-! ### isinstance -/
def tyOf : D → String
  | .none => "NoneType"
  | .bool _ => "bool"
  | .int _ => "int"
  | .str _ => "str"
  | .list _ => "list"
  | .tuple _ => "tuple"
  | .dict _ => "dict"
theorem lk_ty {K : PySem.W.Frag} {H : Hp} {W : Addr → Prop} {u : V} {x : D} (h : Lk K H W u x) : TyX K H u (.type (tyOf x)) := by
  cases x with
  | none => rw [h.non]; exact .base .non
  | bool b => rw [h.bl]; exact .base (.bl b)
  | int b => rw [h.int]; exact .base (.int b)
  | str b => rw [h.str]; exact .base (.str b)
  | list ys =>
    obtain ⟨a, vs, rfl, ha, _⟩ := h.list
    rcases ha with ha | ⟨o, ha⟩
    · exact .base (.lst ha)
    · exact .base (.frz ha)
  | tuple ys =>
    obtain ⟨a, vs, rfl, ha, _⟩ := h.tup
    rcases ha with (ha | ⟨o, ha⟩) | ⟨o, its, n, hk, hc, _⟩
    · exact .base (.tup ha)
    · exact .fTuple ha
    · exact .kTuple hk hc
  | dict kvs => exact h.dict.elim
def tyN : TyK → List String
  | .int => ["int"]
  | .bool => ["bool"]
  | .str => ["str"]
  | .list => ["list"]
  | .tuple => ["tuple"]
  | .listtuple => ["list", "tuple"]
/-- isinstance by the names of the types -/
def isTyS (k : TyK) (t : String) : Bool := match k with
  | .int => t == "int" || t == "bool"
  | .bool => t == "bool"
  | .str => t == "str"
  | .list => t == "list"
  | .tuple => t == "tuple"
  | .listtuple => t == "list" || t == "tuple"
theorem isTy_S (k : TyK) (x : D) (hx : ∀ kvs, x ≠ .dict kvs) : isTy k x = isTyS k (tyOf x) := by
  cases k <;> cases x <;> first | rfl | exact absurd rfl (hx _)
theorem kit_tab : ∀ t ∈ ["NoneType", "bool", "int", "str", "list", "tuple"], kitB t "int" = some (isTyS .int t) ∧ kitB t "bool" = some (isTyS .bool t) ∧ kitB t "str" = some (isTyS .str t) ∧ kitB t "list" = some (isTyS .list t) ∧ kitB t "tuple" = some (isTyS .tuple t) := by decide +kernel
theorem tyOf_mem (x : D) (hx : ∀ kvs, x ≠ .dict kvs) : tyOf x ∈ ["NoneType", "bool", "int", "str", "list", "tuple"] := by
  cases x <;> first | (simp [tyOf]; done) | exact absurd rfl (hx _)
def ty1 : TyK → Option String
  | .int => some "int"
  | .bool => some "bool"
  | .str => some "str"
  | .list => some "list"
  | .tuple => some "tuple"
  | .listtuple => none
theorem kit_one (K : PySem.W.Frag) {k : TyK} {n : String} (hn : ty1 k = some n) (x : D) (hx : ∀ kvs, x ≠ .dict kvs) : PySem.W.kitOne K (.type (tyOf x)) (.type n) = some (isTy k x) := by
  rw [isTy_S k x hx]
  obtain ⟨h1, h2, h3, h4, h5⟩ := kit_tab _ (tyOf_mem x hx)
  cases k <;> cases hn <;> exact kit_ty (by assumption)
theorem kit_lt (K : PySem.W.Frag) (x : D) (hx : ∀ kvs, x ≠ .dict kvs) : PySem.W.kitAny K (.type (tyOf x)) [.type "list", .type "tuple"] = some (isTy .listtuple x) := by
  refine kitAny_cons (kit_one K (k := .list) rfl x hx) (fun h => kitAny_cons (kit_one K (k := .tuple) rfl x hx) (fun h' => ?_) fun h' => ?_) fun h => ?_
  · cases x <;> first | rfl | (cases h; done) | (cases h'; done)
  · cases x <;> first | rfl | (cases h; done) | (cases h'; done)
  · cases x <;> first | rfl | (cases h; done)
theorem lk_nodict {K : PySem.W.Frag} {H : Hp} {W : Addr → Prop} {u : V} {x : D} (h : Lk K H W u x) : ∀ kvs, x ≠ .dict kvs := fun kvs e => by
  subst e
  exact h.dict
theorem one_ty {k : TyK} (ha : Snd c sa a) {σ : L2.St} {p : Po} {e : Slots} {m : Cels} {Q : VK} {R : V → Hp → Prop} (s : Sr c σ p e m) (hp : Post c σ p e (RV c σ false p) (one1 (fun x => some (.d (.bool (isTy k x)))) sa e m) Q)
    (f : ∀ x d q m2 e2, Sr c σ q e2 m2 → Lk c.X.K q.H q.W x d → Q (.bl (isTy k d)) q.H → (∀ H', Same q.H H' → Q (.bl (isTy k d)) H') → R x q.H) : WE c.X a σ p.H R := by
  refine one ha s hp fun v e2 m2 x q s2 x2 lx hk => ?_
  cases h1 : dat m2 v with
  | none => simp only [h1] at hk; exact hk.elim
  | some d1 =>
    simp only [h1] at hk
    have hr := ret_of s2 (Post.reV x2 hk)
    exact f x d1 q m2 e2 s2 (lk_of s2 lx h1) (hr.scal (.bl _)) fun H' g => hr (.bl _) H' g (.bl _)
theorem snd_isi {k : TyK} {n : String} {pn pn2 : Pos} {x : Str} (hk : ty1 k = some n) (hx : x = Str.ofString n) (hg : Gl c.X "isinstance") (hm : c.X.mg "isinstance" = none) (hgx : Gl c.X x) (hmx : c.X.mg x = none) (ha : Snd c sa a) :
    Snd c (.mk' (one1 (fun y => some (.d (.bool (isTy k y)))) sa)) (.Call (.Name "isinstance" pn) [a, .Name x pn2] [] pos) := by
  subst hx
  have hst := ha.sy.ns [.Name (Str.ofString n) pn2] c.X.env
  have pty : PE c.X (.Name (Str.ofString n) pn2) (tC (.ty n)) := by
    refine pe_bltn (u := .type n) hgx hmx ?_ rfl ?_ ?_
    · cases k <;> cases hk <;> decide +kernel
    · cases k <;> cases hk <;> decide
    · cases k <;> cases hk <;> decide
  refine snd_mk (fun σ p e m Q s hp => pe.we (pe_callB call_isi hg hm (by decide +kernel) (pa_cons pe_we (pa_cons pty pa_nil rfl) hst) (by decide) (by decide) hst rfl) ?_) rfl rfl
  refine one_ty ha s hp fun y d' q m2 e2 s2 l q1 _ => ?_
  exact ⟨y, .ty n, .type (tyOf d'), .type n, _, rfl, .ty n, lk_ty l, kit_one _ hk d' (lk_nodict l), q1⟩
theorem snd_isi2 {pn p1 p2 pt : Pos} {kk : Nat} (hg : Gl c.X "isinstance") (hm : c.X.mg "isinstance" = none) (hgl : Gl c.X "list") (hml : c.X.mg "list" = none) (hgt : Gl c.X "tuple") (hmt : c.X.mg "tuple" = none) (ha : Snd c sa a) :
    Snd c (.mk' (one1 (fun y => some (.d (.bool (isTy .listtuple y)))) sa)) (.Call (.Name "isinstance" pn) [a, .Tuple [.Name "list" p1, .Name "tuple" p2] kk pt] [] pos) := by
  have hst := ha.sy.ns [.Tuple [.Name "list" p1, .Name "tuple" p2] kk pt] c.X.env
  have pl : PE c.X (.Name "list" p1) (tC (.ty "list")) := pe_bltn (u := .type "list") hgl hml (by decide +kernel) rfl (by decide) (by decide)
  have pt' : PE c.X (.Name "tuple" p2) (tC (.ty "tuple")) := pe_bltn (u := .type "tuple") hgt hmt (by decide +kernel) rfl (by decide) (by decide)
  refine snd_mk (fun σ p e m Q s hp => pe.we (pe_callB call_isiT hg hm (by decide +kernel) (pa_cons pe_we (pa_cons (pe_tup (pa_cons pl (pa_cons pt' pa_nil rfl) rfl)) pa_nil rfl) hst) (by decide) (by decide) hst rfl) ?_) rfl rfl
  refine one_ty ha s hp fun y d' q m2 e2 s2 l q1 qs => ?_
  refine ⟨lim_ok (by decide), fun tp htp => ?_⟩
  have g := same_new (o := HO.tup [V.ty "list", V.ty "tuple"]) htp
  have l' : Lk c.X.K (upd q.H tp (.tup [V.ty "list", V.ty "tuple"])) q.W y d' := by
    rcases l with l | ⟨b, vs, xs, e1, e2, h1, h2⟩
    · exact .inl (l.same s2.st.wok g)
    · exact .inr ⟨b, vs, xs, e1, e2, g _ _ h1, h2.same s2.st.wok g⟩
  exact ⟨y, tp, _, .type (tyOf d'), [.type "list", .type "tuple"], _, rfl, upd_same, .cons (.ty _) (.cons (.ty _) .nil), lk_ty l', kit_lt _ d' (lk_nodict l), qs _ g⟩
end
end Pv

/-! PvS4: calls of the module's defs; a fresh list goes to the store. -/
namespace Pv
open PySem PySem.Spec PyProof.Rows L2

/-! ### a def's promise -/
def isOwn : Vl → Bool
  | .own _ => true
  | _ => false
abbrev FC := List Vl → Cels → FRes
def FRet (M : Mo) (K : PySem.W.Frag) (H : Hp) (W : Addr → Prop) (μ : List Addr) (r : FRes) (Q : VK) (E : XK) : Prop := match r with
  | .ok v m' => ∀ u H' W' μ', StR M K H' W' μ' m' → Ext [] H W μ [] H' W' μ' [] → LR K H' W' μ' u v → (∀ xs a, v = .own xs → u = .ref a → W' a ∧ H a = none) → Q u H'
  | .exc k f m' => ∀ cls dx H' W' μ', StR M K H' W' μ' m' → Ext [] H W μ [] H' W' μ' [] → ER M K k f cls dx H' W' → E cls dx H'
  | .stuck => False
/-- what the def fc of n parameters promises -/
def FnSp (M : Mo) (K : PySem.W.Frag) (fc : FC) (n : Nat) : Sp := fun us H Q E => us.length = n ∧
  ∃ (vs : List Vl) (m : Cels) (W : Addr → Prop) (μ : List Addr), StR M K H W μ m ∧ Paired (fun u v => LR K H W μ u v ∧ isOwn v = false) us vs ∧ FRet M K H W μ (fc vs m) Q E

section
variable {M : Mo} {K : PySem.W.Frag} {B : Bs} {σ : L2.St} {H H' : Hp} {W W' : Addr → Prop} {μ μ' : List Addr} {e : Slots} {m m' : Cels}
/-- a caller's state, behind a call -/
theorem SR.called (s : SR M K B σ H W μ e m) (t : StR M K H' W' μ' m') (x : Ext [] H W μ [] H' W' μ' []) : SR M K B σ H' W' μ' e m' ∧ Ext σ H W μ e H' W' μ' e := by
  have wd : ∀ a, W a → W' a := fun a h => by
    rcases x.wd a h with z | ⟨i, xs, z, _⟩
    · exact z
    · simp at z
  refine ⟨⟨t, fun a o h n => x.keep a o (s.keep a o h n) fun z => ?_, fun a h => x.there a (s.bt a h), fun a h => wd a (s.bw a h), fun a h z => s.wb a h (x.wk a (s.bt a h) z), ?_, fun a z => ?_, s.len, fun i v h => ?_, fun a h => ?_, s.dis⟩,
    ⟨x.keep, x.there, x.wk, x.pre, x.new, fun a h => .inl (wd a h), fun _ _ h => h⟩⟩
  · rcases s.new a z with z | z
    · exact n z
    · rw [h] at z; cases z
  · obtain ⟨r, hr⟩ := s.pre
    obtain ⟨r', hr'⟩ := x.pre
    exact ⟨r ++ r', by rw [hr', hr, List.append_assoc]⟩
  · rcases x.new a z with z | z
    · exact s.new a z
    · exact .inr (s.base z)
  · obtain ⟨u, h1, h2⟩ := s.env i v h
    exact ⟨u, h1, x.lr s.st h2⟩
  · obtain ⟨h1, h2⟩ := s.own a h
    exact ⟨wd a h1, h2⟩
/-- .. a heap that has grown, more that may be written -/
theorem SR.growW (s : SR M K B σ H W μ e m) (g : Same H H') (w1 : ∀ a, W a → W' a) (w2 : ∀ a, H a ≠ none → W' a → W a) (w3 : Wok H' W') : SR M K B σ H' W' μ e m := by
  have kk : ∀ a o, H a = some o → ¬ W a → H' a = some o := fun a o h _ => g a o h
  have wl : ∀ {u : V} {v : Vl}, LR K H W μ u v → LR K H' W' μ u v := fun {u v} h => by
    cases v with
    | d x => exact Dq.keep s.st.wok kk w2 h
    | own xs =>
      obtain ⟨a, vs, h1, h2, h3, h4⟩ := h
      exact ⟨a, vs, h1, g a _ h2, DqAll.keep s.st.wok kk w2 h3, h4⟩
    | cell k => exact h
  refine ⟨⟨w3, fun a h => w1 a (s.st.μw a h), s.st.nd, Paired.mapP s.st.cel fun a c h => ?_⟩, fun a o h n => g a o (s.keep a o h n), fun a h z => ?_, fun a h => w1 a (s.bw a h), fun a h z => s.wb a h (w2 a (s.bt a h) z), s.pre, s.new, s.len, fun i v h => ?_, fun a h => ?_, s.dis⟩
  · exact CelR.keep s.st.wok kk w2 (fun o e => g a o e) h
  · cases q : H a with
    | none => exact s.bt a h q
    | some o => rw [g a o q] at z; cases z
  · obtain ⟨u, h1, h2⟩ := s.env i v h
    exact ⟨u, h1, wl h2⟩
  · obtain ⟨h1, h2⟩ := s.own a h
    exact ⟨w1 a h1, h2⟩
theorem Ext.growW (g : Same H H') (w1 : ∀ a, W a → W' a) (w2 : ∀ a, H a ≠ none → W' a → W a) : Ext σ H W μ e H' W' μ e :=
  ⟨fun a o h _ => g a o h, fun a h => by
    cases q : H a with
    | none => exact absurd q h
    | some o => (rw [g a o q]; exact (fun z => nomatch z)), w2, ⟨[], by simp⟩, fun _ h => .inl h, fun a h => .inl (w1 a h), fun _ _ h => h⟩
end

theorem Post.bindE {α β γ δ : Type} {c : Cn} {σ : L2.St} {p : Po} {e : Slots} {RR : α → β → Po → Slots → Prop} {RR' : γ → δ → Po → Slots → Prop} {r : Res α} {k : α → Slots → Cels → Res γ} {Q : δ → Hp → Prop} {Q1 : β → Hp → Prop}
    (h : Post c σ p e RR' (r.bind k) Q) (f : ∀ a e1 m1, r = .ok a e1 m1 → Post c σ p e RR' (k a e1 m1) Q → ∀ b q, Sr c σ q e1 m1 → Ex σ p e q e1 → RR a b q e1 → Q1 b q.H) : Post c σ p e RR r Q1 := by
  cases r with
  | ok a e1 m1 => exact f a e1 m1 rfl h
  | exc k f e1 m1 => exact h
  | stuck => exact h

/-! ### arguments, positional ones and then those by name -/
section
variable {c : Cn}
def WK (X : Cx) (kws : List Keyword) (σ : L2.St) (H : Hp) (Q : List V → Hp → Prop) : Prop := ∀ (pos : Pos) (pins : List (Addr × Obj)) (s : Shared), Inv X pins σ H s → wpAny (model X.prog X.w) X.A (evalAll ((backToKw pos (keywordEach kws X.env)).map (·.2))) (AP X pins σ Q) X.xe s
theorem pk_wk {X : Cx} {kws : List Keyword} : PK X kws (WK X kws) := ⟨fun pos pins s σ H Q I h => h pos pins s I⟩
theorem wk_of {X : Cx} {kws : List Keyword} {t : TA} (h : PK X kws t) {σ : L2.St} {H : Hp} {Q : List V → Hp → Prop} (q : t σ H Q) : WK X kws σ H Q := fun pos pins s I => h.run pos pins s σ H Q I q
/-- a list of things with expressions in them, read from the left, and then more -/
theorem snds_gen {α : Type} {ex : α → Expr} {G : Sm → Slots → Cels → Res Vl} {tt : List Sm} {F : List α → L2.St → Hp → (List V → Hp → Prop) → Prop}
    {RR : L2.St → Po → List Vl → List V → Po → Slots → Prop} {gs : List Sm → Slots → Cels → Res (List Vl)} (hg : ∀ x xs e m, gs (x :: xs) e m = (G x e m).bind fun v e m => (gs xs e m).bind fun vs e m => .ok (v :: vs) e m)
    (hn : ∀ {σ : L2.St} {p : Po} {e : Slots} {m : Cels} {Q : List V → Hp → Prop}, Sr c σ p e m → Post c σ p e (RR σ p) (gs tt e m) Q → F [] σ p.H Q)
    (hc : ∀ {a : α} {es : List α} {σ : L2.St} {H : Hp} {Q : List V → Hp → Prop}, Syn (ex a) → WE c.X (ex a) σ H (fun x H1 => F es σ H1 fun xs H2 => Q (x :: xs) H2) → F (a :: es) σ H Q)
    {R1 : L2.St → Po → Sm → Vl → V → Po → Slots → Prop} (hG : ∀ {sm : Sm} {x : Expr} {σ : L2.St} {p : Po} {e : Slots} {m : Cels} {Q : VK}, Snd c sm x → Sr c σ p e m → Post c σ p e (R1 σ p sm) (G sm e m) Q → WE c.X x σ p.H Q)
    (hR : ∀ {σ : L2.St} {p q1 q2 : Po} {e e1 e2 : Slots} {m m1 m2 : Cels} {sm : Sm} {v : Vl} {x : V} {vs : List Vl} {us : List V}, Sr c σ p e m → Sr c σ q1 e1 m1 → Sr c σ q2 e2 m2 → Ex σ p e q1 e1 → Ex σ q1 e1 q2 e2 → R1 σ p sm v x q1 e1 → RR σ q1 vs us q2 e2 → RR σ p (v :: vs) (x :: us) q2 e2) :
    ∀ {ss : List Sm} {es : List α}, Paired (fun sm a => Snd c sm (ex a)) ss es → ∀ {σ : L2.St} {p : Po} {e : Slots} {m : Cels} {Q : List V → Hp → Prop}, Sr c σ p e m → Post c σ p e (RR σ p) (gs (ss ++ tt) e m) Q → F es σ p.H Q
  | _, _, .nil, σ, p, e, m, Q, s, hp => hn s hp
  | _, _, .cons (a := sm) (b := a) h t, σ, p, e, m, Q, s, hp => by
    refine hc h.sy (hG (m := m) h s (Post.bind (k := fun v e m => (gs (_ ++ tt) e m).bind fun vs e m => .ok (v :: vs) e m) (by rw [List.cons_append, hg] at hp; exact hp) fun v e1 m1 hp x q1 s1 x1 r1 => ?_))
    refine snds_gen hg hn hc hG hR t s1 (Post.bind (RR := RR σ q1) (hp.shift s x1 fun _ _ _ _ _ r => r) fun vs e2 m2 hp us q2 s2 x2 r2 => ?_)
    exact hp (x :: us) q2 s2 x2 (hR s s1 s2 x1 x2 r1 r2)
theorem rl_nil {σ : L2.St} {p : Po} {e : Slots} : RL c σ p [] [] p e := ⟨.nil, fun i j xs ys a _ h => by simp at h⟩
theorem rl_cons {σ : L2.St} {p q1 q2 : Po} {e e1 e2 : Slots} {m m1 : Cels} {v : Vl} {x : V} {vs : List Vl} {us : List V} (s : Sr c σ p e m) (s1 : Sr c σ q1 e1 m1) (x1 : Ex σ p e q1 e1) (x2 : Ex σ q1 e1 q2 e2) (r1 : RV c σ false p v x q1 e1) (r2 : RL c σ q1 vs us q2 e2) : RL c σ p (v :: vs) (x :: us) q2 e2 := by
  refine ⟨.cons ⟨x2.lr s1.st r1.1, x2.tmp (r1.2 rfl).1, (r1.2 rfl).2⟩ (Paired.mapP r2.lr fun u v z => ⟨z.1, z.2.1, x1.frs z.2.2⟩), fun i j xs ys a hij h1 h2 h3 h4 => ?_⟩
  have old : ∀ {v : Vl} {xs : List D} {a : Addr}, v = .own xs → LR c.X.K q1.H q1.W q1.μ (V.ref a) v → q1.H a ≠ none := fun {v xs a} hv hl => by
    subst hv
    obtain ⟨b, vs, hb, h2, _⟩ := hl
    cases hb
    rw [h2]
    exact fun z => nomatch z
  cases i with
  | zero =>
    cases j with
    | zero => exact hij rfl
    | succ j =>
      simp only [List.getElem?_cons_zero, List.getElem?_cons_succ, Option.some.injEq] at h1 h2 h3 h4
      subst h1 h3
      obtain ⟨u, hu, z⟩ := Paired.get1 r2.lr h2
      rw [h4] at hu
      cases hu
      exact old rfl r1.1 (z.2.2 a rfl)
  | succ i =>
    cases j with
    | zero =>
      simp only [List.getElem?_cons_zero, List.getElem?_cons_succ, Option.some.injEq] at h1 h2 h3 h4
      subst h2 h4
      obtain ⟨u, hu, z⟩ := Paired.get1 r2.lr h1
      rw [h3] at hu
      cases hu
      exact old rfl r1.1 (z.2.2 a rfl)
    | succ j =>
      simp only [List.getElem?_cons_succ] at h1 h2 h3 h4
      exact r2.ap i j xs ys a (fun z => hij (by rw [z])) h1 h2 h3 h4
theorem wk_mono {X : Cx} {kws : List Keyword} {σ : L2.St} {H : Hp} {Q Q' : List V → Hp → Prop} (h : WK X kws σ H Q) (f : ∀ us H, Q us H → Q' us H) : WK X kws σ H Q' :=
  fun pos pins s I => thn (h pos pins s I) fun us s' ⟨vs, H', I', r, q⟩ => ⟨vs, H', I', r, f _ _ q⟩
theorem wa_mono {X : Cx} {es : List Expr} {σ : L2.St} {H : Hp} {Q Q' : List V → Hp → Prop} (h : WA X es σ H Q) (f : ∀ us H, Q us H → Q' us H) : WA X es σ H Q' :=
  fun pos pins s I => thn (h pos pins s I) fun us s' ⟨vs, H', I', r, q⟩ => ⟨vs, H', I', r, f _ _ q⟩
theorem smG_cons (x : Sm) (xs : List Sm) (e : Slots) (m : Cels) : smG (x :: xs) e m = (x.g e m).bind fun v e m => (smG xs e m).bind fun vs e m => .ok (v :: vs) e m := rfl
theorem smV_cons (x : Sm) (xs : List Sm) (e : Slots) (m : Cels) : smV (x :: xs) e m = (x.v e m).bind fun v e m => (smV xs e m).bind fun vs e m => .ok (v :: vs) e m := rfl
theorem we_mono {X : Cx} {ex : Expr} {σ : L2.St} {H : Hp} {Q Q' : VK} (h : WE X ex σ H Q) (f : ∀ u H, Q u H → Q' u H) : WE X ex σ H Q' :=
  fun pins s I => thn (h pins s I) fun us s' ⟨v, H', I', r, q⟩ => ⟨v, H', I', r, f _ _ q⟩
/-- values by name, and how many -/
def WKl (X : Cx) (kws : List Keyword) (σ : L2.St) (H : Hp) (Q : List V → Hp → Prop) : Prop := WK X kws σ H fun zs H2 => zs.length = kws.length ∧ Q zs H2
theorem wkl_mono {X : Cx} {kws : List Keyword} {σ : L2.St} {H : Hp} {Q Q' : List V → Hp → Prop} (h : WKl X kws σ H Q) (f : ∀ us H, Q us H → Q' us H) : WKl X kws σ H Q' := wk_mono h fun us H q => ⟨q.1, f _ _ q.2⟩
/-- both kinds of arguments -/
def WAK (X : Cx) (es : List Expr) (kws : List Keyword) (σ : L2.St) (H : Hp) (Q : List V → Hp → Prop) : Prop := match es with
  | [] => WKl X kws σ H Q
  | ex :: es => WA X (ex :: es) σ H fun us H1 => us.length = es.length + 1 ∧ WKl X kws σ H1 fun zs H2 => Q (us ++ zs) H2
theorem wk_cons {X : Cx} {nm : Option Str} {ex : Expr} {kp : Pos} {kws : List Keyword} {σ : L2.St} {H : Hp} {Q : List V → Hp → Prop} (q : WE X ex σ H fun x H1 => WK X kws σ H1 fun xs H2 => Q (x :: xs) H2) : WK X (⟨nm, ex, kp⟩ :: kws) σ H Q :=
  wk_of (pk_cons pe_we pk_wk) q
theorem wkl_cons {X : Cx} {nm : Option Str} {ex : Expr} {kp : Pos} {kws : List Keyword} {σ : L2.St} {H : Hp} {Q : List V → Hp → Prop} (q : WE X ex σ H fun x H1 => WKl X kws σ H1 fun xs H2 => Q (x :: xs) H2) : WKl X (⟨nm, ex, kp⟩ :: kws) σ H Q :=
  wk_cons (we_mono q fun u H1 h => wk_mono h fun zs H2 h => ⟨by rw [List.length_cons, List.length_cons, h.1], h.2⟩)
theorem wak_cons {X : Cx} {ex : Expr} {es : List Expr} {kws : List Keyword} {σ : L2.St} {H : Hp} {Q : List V → Hp → Prop} (hs : Syn ex) (q : WE X ex σ H fun x H1 => WAK X es kws σ H1 fun xs H2 => Q (x :: xs) H2) : WAK X (ex :: es) kws σ H Q := by
  refine wa_cons hs (we_mono q fun u H1 h => ?_)
  cases es with
  | nil => exact wa_of pa_nil ⟨rfl, wkl_mono h fun zs H h => h⟩
  | cons e1 es => exact wa_mono h fun us H2 h => ⟨by rw [List.length_cons, h.1]; rfl, wkl_mono h.2 fun zs H h => h⟩
section
variable {R1 : L2.St → Po → Sm → Vl → V → Po → Slots → Prop} {RR : L2.St → Po → List Vl → List V → Po → Slots → Prop} {G : Sm → Slots → Cels → Res Vl} {gs : List Sm → Slots → Cels → Res (List Vl)}
theorem snds_wak (hg0 : ∀ e m, gs [] e m = .ok [] e m) (hg : ∀ x xs e m, gs (x :: xs) e m = (G x e m).bind fun v e m => (gs xs e m).bind fun vs e m => .ok (v :: vs) e m)
    (hG : ∀ {sm : Sm} {x : Expr} {σ : L2.St} {p : Po} {e : Slots} {m : Cels} {Q : VK}, Snd c sm x → Sr c σ p e m → Post c σ p e (R1 σ p sm) (G sm e m) Q → WE c.X x σ p.H Q)
    (hR0 : ∀ {σ : L2.St} {p : Po} {e : Slots}, RR σ p [] [] p e)
    (hR : ∀ {σ : L2.St} {p q1 q2 : Po} {e e1 e2 : Slots} {m m1 m2 : Cels} {sm : Sm} {v : Vl} {x : V} {vs : List Vl} {us : List V}, Sr c σ p e m → Sr c σ q1 e1 m1 → Sr c σ q2 e2 m2 → Ex σ p e q1 e1 → Ex σ q1 e1 q2 e2 → R1 σ p sm v x q1 e1 → RR σ q1 vs us q2 e2 → RR σ p (v :: vs) (x :: us) q2 e2)
    {ss tt : List Sm} {es : List Expr} {kws : List Keyword} (hs : Paired (Snd c) ss es) (ht : Paired (fun sm (k : Keyword) => Snd c sm k.value) tt kws) {σ : L2.St} {p : Po} {e : Slots} {m : Cels} {Q : List V → Hp → Prop} (s : Sr c σ p e m) (hp : Post c σ p e (RR σ p) (gs (ss ++ tt) e m) Q) : WAK c.X es kws σ p.H Q := by
  refine snds_gen (ex := id) (F := fun es => WAK c.X es kws) hg (fun {σ p e m Q} s hp => ?_) (fun hs h => wak_cons hs h) hG hR hs s hp
  show WKl c.X kws σ p.H Q
  refine snds_gen (c := c) (ex := Keyword.value) (tt := []) (F := fun kws => WKl c.X kws) hg (fun {σ p e m Q} s hp => ?_) (fun {a es σ H Q} hs h => ?_) hG hR ht s (by rw [List.append_nil]; exact hp)
  · rw [hg0] at hp
    exact wk_of pk_nil ⟨rfl, hp [] p s Ext.refl hR0⟩
  · obtain ⟨nm, v, kp⟩ := a
    exact wkl_cons h
end
/-- arguments that are kept -/
theorem wak_g {ss tt : List Sm} {es : List Expr} {kws : List Keyword} (hs : Paired (Snd c) ss es) (ht : Paired (fun sm (k : Keyword) => Snd c sm k.value) tt kws) {σ : L2.St} {p : Po} {e : Slots} {m : Cels} {Q : List V → Hp → Prop} (s : Sr c σ p e m) (hp : Post c σ p e (RL c σ p) (smG (ss ++ tt) e m) Q) : WAK c.X es kws σ p.H Q :=
  snds_wak (R1 := fun σ p _ => RV c σ false p) (RR := fun σ p => RL c σ p) (fun _ _ => rfl) smG_cons (fun h s hp => snd_g h s hp) rl_nil (fun s s1 _ x1 x2 r1 r2 => rl_cons s s1 x1 x2 r1 r2) hs ht s hp
/-- .. that are looked at: their values, in the end -/
def RLv (c : Cn) (q : Po) (us : List V) (vs : List Vl) : Prop := Paired (fun u v => LR c.X.K q.H q.W q.μ u v) us vs
theorem was_v {ss : List Sm} {es : List Expr} (hs : Paired (Snd c) ss es) {σ : L2.St} {p : Po} {e : Slots} {m : Cels} {Q : List V → Hp → Prop} (s : Sr c σ p e m) (hp : Post c σ p e (fun vs us q _ => RLv c q us vs) (smV ss e m) Q) : WA c.X es σ p.H Q := by
  refine snds_gen (c := c) (ex := id) (tt := []) (F := fun es => WA c.X es) (RR := fun _ _ vs us q _ => RLv c q us vs) (R1 := fun σ p sm => RV c σ sm.var.isSome p) (G := Sm.v) (gs := smV) smV_cons (fun {σ p e m Q} s hp => wa_of pa_nil (hp [] p s Ext.refl .nil)) (fun hs h => wa_cons hs h)
    (fun h s hp => h.v _ _ _ _ _ s hp) (fun s s1 s2 x1 x2 r1 r2 => .cons (x2.lr s1.st r1.1) r2) hs s (by rw [List.append_nil]; exact hp)
theorem smG_len : ∀ {ss : List Sm} {e : Slots} {m : Cels} {vs : List Vl} {e' : Slots} {m' : Cels}, smG ss e m = .ok vs e' m' → vs.length = ss.length
  | [], e, m, vs, e', m', h => by cases h; rfl
  | x :: xs, e, m, vs, e', m', h => by
    rw [smG_cons] at h
    cases h1 : x.g e m with
    | stuck => rw [h1] at h; cases h
    | exc _ _ _ _ => rw [h1] at h; cases h
    | ok v e1 m1 =>
      rw [h1, Res.bind_ok] at h
      cases h2 : smG xs e1 m1 with
      | stuck => rw [h2] at h; cases h
      | exc _ _ _ _ => rw [h2] at h; cases h
      | ok us e2 m2 =>
        rw [h2] at h
        cases h
        rw [List.length_cons, List.length_cons, smG_len h2]

/-! ### how a call binds -/
/-- the parameters' values: those that are written, by their places, and defaults -/
def pick {α : Type} (us : List α) : List (Nat ⊕ α) → List α
  | [] => []
  | .inl j :: r => match us[j]? with
    | some u => u :: pick us r
    | none => pick us r
  | .inr d :: r => d :: pick us r
inductive OrdR (R : V → D → Prop) : List (Nat ⊕ V) → List (Nat ⊕ D) → Prop
  | nil : OrdR R [] []
  | at (j : Nat) {l : List (Nat ⊕ V)} {r : List (Nat ⊕ D)} : OrdR R l r → OrdR R (.inl j :: l) (.inl j :: r)
  | dfl {v : V} {d : D} {l : List (Nat ⊕ V)} {r : List (Nat ⊕ D)} : R v d → OrdR R l r → OrdR R (.inr v :: l) (.inr d :: r)
/-- a default's value, whatever the heap -/
def KD (K : PySem.W.Frag) (v : V) (d : D) : Prop := ∀ (H : Hp) (W : Addr → Prop), Dq K H W v d
theorem pick_arr {K : PySem.W.Frag} {H : Hp} {W : Addr → Prop} {μ : List Addr} {us : List V} {vs : List Vl} (h : Paired (fun u v => LR K H W μ u v ∧ isOwn v = false) us vs) : ∀ {o1 : List (Nat ⊕ V)} {o2 : List (Nat ⊕ D)} {ws : List Vl}, OrdR (KD K) o1 o2 → arrange vs o2 = some ws → Paired (fun u v => LR K H W μ u v ∧ isOwn v = false) (pick us o1) ws
  | _, _, ws, .nil, e => by cases e; exact .nil
  | _, _, ws, .at j r, e => by
    unfold arrange at e
    split at e
    · rename_i v l h1 h2
      cases e
      obtain ⟨u, h3, h4⟩ := Paired.get1 h h1
      unfold pick
      rw [h3]
      exact .cons h4 (pick_arr h r h2)
    · cases e
  | _, _, ws, .dfl kd r, e => by
    unfold arrange at e
    split at e
    · rename_i l h2
      cases e
      unfold pick
      exact .cons ⟨kd H W, rfl⟩ (pick_arr h r h2)
    · cases e
theorem arr_len {vs : List Vl} : ∀ {o : List (Nat ⊕ D)} {ws : List Vl}, arrange vs o = some ws → ws.length = o.length
  | [], ws, e => by cases e; rfl
  | .inl j :: r, ws, e => by
    unfold arrange at e
    split at e
    · rename_i v l h1 h2
      cases e
      rw [List.length_cons, List.length_cons, arr_len h2]
    · cases e
  | .inr d :: r, ws, e => by
    unfold arrange at e
    split at e
    · rename_i l h2
      cases e
      rw [List.length_cons, List.length_cons, arr_len h2]
    · cases e
/-- a def's promise where no repr is under way -/
structure FnG (P : Program) (w : World) (K : PySem.W.Frag) (mg : Str → Option Value) (base : Heap) (CX : CXT) (k : Nat) (f : Addr) (fd : FuncData) (ps : List Str) (sp : Sp) : Prop where
  len : ∀ vs H Q E, sp vs H Q E → vs.length = ps.length
  run : ∀ (A : Around) (outer : List PySem.Env) (s : Shared) (H : Hp) (args : Args) (us : List Value) (vs : List V) (Q : VK) (E : XK), Room k A → A.guards = some [] → Env0 P w K mg base A outer s H → BindsTo s fd args (ps.zip us) → Vals vs us → sp vs H Q E →
    codeAny (model P w) A (.call (.ref f) args) (L2.CR CX outer P w H s Q E) s
/-- a def as it may be called here: n values, then those by the names ks; where they go -/
structure Callee (c : Cn) (fc : FC) (x : Str) (n : Nat) (ks : List Str) (ord : List (Nat ⊕ D)) : Prop where
  ex : ∃ (k : Nat) (fa : Addr) (fd : FuncData) (ps : List Str) (o1 : List (Nat ⊕ V)) (o0 : List (Nat ⊕ Value)), FnG c.X.prog c.X.w c.X.K c.X.mg c.X.base (L2.CX c.X.prog c.X.w) k fa fd ps (FnSp c.M c.X.K fc ps.length) ∧ (Room k c.X.A ∧ c.X.A.guards = some []) ∧ c.X.mg x = some (.ref fa) ∧
    PySem.W.keepIn c.X.K (.ref fa) = true ∧ KBn c.X.K fd ps n ks (fun us ws => pick (us ++ ws) o0) (fun vs zs => pick (vs ++ zs) o1) ∧ OrdR (KD c.X.K) o1 ord ∧ ord.length = ps.length
  gl : Gl c.X x
  db : (x == ("__debug__" : Str)) = false
  tk : Takes c.X c.T
def kwOk : List Keyword → List Str → Bool
  | [], [] => true
  | k :: kws, n :: ns => k.arg == some n && kwOk kws ns
  | _, _ => false
theorem kw_facts {pos : Pos} {env : PySem.Env} : ∀ {kws : List Keyword} {ks : List Str}, kwOk kws ks = true → (backToKw pos (keywordEach kws env)).all (·.1.isSome) = true ∧ (backToKw pos (keywordEach kws env)).filterMap (·.1) = ks ∧ (backToKw pos (keywordEach kws env)).any (·.1.isNone) = false ∧ kws.length = ks.length
  | [], [], _ => ⟨rfl, rfl, rfl, rfl⟩
  | ⟨nm, v, kp⟩ :: kws, n :: ns, h => by
    unfold kwOk at h
    rw [Bool.and_eq_true] at h
    obtain ⟨h1, h2⟩ := h
    have h1 : nm = some n := by simpa using h1
    subst h1
    obtain ⟨a, b, d, l⟩ := kw_facts (pos := pos) (env := env) h2
    refine ⟨?_, ?_, ?_, by rw [List.length_cons, List.length_cons, l]⟩
    · show ((some n).isSome && (backToKw pos (keywordEach kws env)).all (·.1.isSome)) = true
      rw [a]; rfl
    · show n :: (backToKw pos (keywordEach kws env)).filterMap (·.1) = _
      rw [b]
    · show ((some n).isNone || (backToKw pos (keywordEach kws env)).any (·.1.isNone)) = false
      rw [d]; rfl
theorem star_any {c : Cn} {pos : Pos} {R : Sm → Expr → Prop} (hR : ∀ a b, R a b → Syn b) {env : PySem.Env} : ∀ {ss : List Sm} {es : List Expr}, Paired R ss es → (backTo pos (starEach es env)).any (·.1) = false
  | _, _, .nil => rfl
  | _, _, .cons (b := ex) (l₂ := es) h t => by
    rw [(hR _ _ h).ns]
    show (false || (backTo pos (starEach es env)).any (·.1)) = false
    rw [star_any (c := c) hR t]
    rfl
theorem Paired.len {α β : Type} {R : α → β → Prop} : ∀ {l1 : List α} {l2 : List β}, Paired R l1 l2 → l1.length = l2.length
  | _, _, .nil => rfl
  | _, _, .cons _ t => by rw [List.length_cons, List.length_cons, Paired.len t]
/-- f(..) by what its arguments give -/
theorem call_run {fc : FC} {x : Str} {n : Nat} {ks : List Str} {ord : List (Nat ⊕ D)} (C : Callee c fc x n ks ord) {ss : List Sm} {es : List Expr} {kws : List Keyword} {p pos : Pos} (hs : Paired (Snd c) ss es) (hn : es.length = n) (hk : kwOk kws ks = true)
    {σ : L2.St} {H : Hp} {Q : VK} (h : WAK c.X es kws σ H fun us H1 => ∃ (vs ws : List Vl) (m : Cels) (W : Addr → Prop) (μ : List Addr), StR c.M c.X.K H1 W μ m ∧ Paired (fun u v => LR c.X.K H1 W μ u v ∧ isOwn v = false) us vs ∧ arrange vs ord = some ws ∧
      FRet c.M c.X.K H1 W μ (fc ws m) Q (fun cls dx H' => c.T cls dx σ H')) : WE c.X (.Call (.Name x p) es kws pos) σ H Q := by
  obtain ⟨k, fa, fd, ps, o1, o0, F, hr, hm, hkp, hb, ho, hl⟩ := C.ex
  intro pins s I
  obtain ⟨f1, f2, f3, f4⟩ := kw_facts (pos := pos) (env := c.X.env) hk
  have run : ∀ (us zs : List V) (uv zv : List Value) (H1 : Hp) (s1 : Shared), Inv c.X pins σ H1 s1 → Vals us uv → Vals zs zv → us.length = n → zs.length = ks.length → (∃ (vs ws : List Vl) (m : Cels) (W : Addr → Prop) (μ : List Addr), StR c.M c.X.K H1 W μ m ∧ Paired (fun u v => LR c.X.K H1 W μ u v ∧ isOwn v = false) (us ++ zs) vs ∧ arrange vs ord = some ws ∧
      FRet c.M c.X.K H1 W μ (fc ws m) Q (fun cls dx H' => c.T cls dx σ H')) → wpAny (model c.X.prog c.X.w) c.X.A (call (.ref fa) uv (ks.zip zv)) (EP c.X pins σ Q) c.X.xe s1 := by
    intro us zs uv zv H1 s1 I1 r rz l1 l2 h
    obtain ⟨vs, ws, m, W, μ, st, pr, ha, hf⟩ := h
    have r2 := hb.rel r rz
    have sp : FnSp c.M c.X.K fc ps.length (pick (us ++ zs) o1) H1 Q (fun cls dx H' => c.T cls dx σ H') := by
      refine ⟨?_, ws, m, W, μ, st, pick_arr pr ho ha, hf⟩
      rw [Paired.len (pick_arr pr ho ha), arr_len ha, hl]
    refine wpAny_call (codeAny_mono (F.run c.X.A c.X.stack s1 H1 ⟨uv, ks.zip zv⟩ (pick (uv ++ zv) o0) (pick (us ++ zs) o1) Q _ hr.1 hr.2 I1.env0 (hb.to s1 uv zv I1.kIn (r.length.symm.trans l1) (rz.length.symm.trans l2)) r2 sp) fun r s' hq => ?_)
    cases r with
    | error e => exact passAt C.tk σ pins H1 s1 e s' I1 hq
    | ok fl =>
      cases fl with
      | ret u => exact I1.after hq
      | next => exact False.elim hq
      | brk => exact False.elim hq
      | cont => exact False.elim hq
  refine wpAny_Call_Name_kw (ld_glob I C.gl hm ?_ C.db)
  cases hs with
  | nil =>
    refine PySem.W.callWith_KW0 (h₀ := c.X.base) I.ok.mod.kin hkp f1 ?_ (by rw [f3]; rfl)
    have h0 : WKl c.X kws σ H fun us H1 => ∃ (vs ws : List Vl) (m : Cels) (W : Addr → Prop) (μ : List Addr), StR c.M c.X.K H1 W μ m ∧ Paired (fun u v => LR c.X.K H1 W μ u v ∧ isOwn v = false) us vs ∧ arrange vs ord = some ws ∧
      FRet c.M c.X.K H1 W μ (fc ws m) Q (fun cls dx H' => c.T cls dx σ H') := h
    refine thn (h0 pos pins s I) fun zv s1 ⟨zs, H1, I1, rz, hl, q⟩ => ⟨I1.kIn, ?_⟩
    rw [f2]
    have hn : 0 = n := hn
    subst hn
    exact run [] zs [] zv H1 s1 I1 .nil rz rfl (hl.trans f4) q
  | cons h1 t =>
    refine PySem.W.callWith_KW (h₀ := c.X.base) I.ok.mod.kin hkp f1 (thn (h pos pins s I) fun uv s1 ⟨us, H1, I1, r, hl1, q⟩ => thn (q pos pins s1 I1) fun zv s2 ⟨zs, H2, I2, rz, hl, q2⟩ => ⟨I2.kIn, ?_⟩) ?_ (h1.sy.ns _ _)
    · rw [f2]
      exact run us zs uv zv H2 s2 I2 r rz (hl1.trans hn) (hl.trans f4) q2
    · rw [star_any (c := c) (R := Snd c) (fun _ _ h => h.sy) (.cons h1 t), f3]
      rfl

/-! ### a call -/
/-- kept values, lent to a callee -/
theorem RL.lend {vs : List Vl} {us : List V} {σ : L2.St} {p q : Po} {e e' : Slots} {m m' : Cels} (s : Sr c σ p e m) (s1 : Sr c σ q e' m') (x : Ex σ p e q e') (r : RL c σ p vs us q e') :
    Sr c σ ⟨q.H, fun a => q.W a ∧ ¬ givenP us vs a, q.μ⟩ e' m' ∧ Ex σ p e ⟨q.H, fun a => q.W a ∧ ¬ givenP us vs a, q.μ⟩ e' ∧ Paired (fun u v => LR c.X.K q.H (fun a => q.W a ∧ ¬ givenP us vs a) q.μ u v ∧ isOwn v = false) us (vs.map frzArg) := by
  have at_ : ∀ {a : Addr}, givenP us vs a → ∃ ys zs, q.H a = some (.lst zs) ∧ DqAll c.X.K q.H q.W zs ys ∧ a ∉ q.μ ∧ q.W a ∧ c.B.H a = none ∧ ¬ OwnS e' σ a ∧ p.H a = none := fun {a} ⟨i, ys, h1, h2⟩ => by
    obtain ⟨u, hu, ⟨b, zs, hb, z2, z3, z4⟩, z5, z6⟩ := Paired.get1 r.lr h1
    rw [h2] at hu
    cases hu
    cases hb
    obtain ⟨w1, w2, w3⟩ := z5 a rfl
    exact ⟨ys, zs, z2, z3, z4, w1, w2, w3, z6 a rfl⟩
  refine ⟨SR.drop s1 (fun a ha => let ⟨_, _, _, _, z, _⟩ := at_ ha; z) (fun a ha => let ⟨_, _, _, _, _, _, _, z, _⟩ := at_ ha; z) (fun a ha => let ⟨_, _, _, _, _, _, z, _⟩ := at_ ha; z), Ext.drop s.st x fun a ha => let ⟨_, _, _, _, _, _, _, _, z⟩ := at_ ha; z, ?_⟩
  have go : ∀ {us' : List V} {vs' : List Vl} (n : Nat), us' = us.drop n → vs' = vs.drop n → Paired (fun u v => LR c.X.K q.H q.W q.μ u v ∧ Tmp c.B σ q.W e' u v ∧ Frs p.H u v) us' vs' → Paired (fun u v => LR c.X.K q.H (fun a => q.W a ∧ ¬ givenP us vs a) q.μ u v ∧ isOwn v = false) us' (vs'.map frzArg) := by
    intro us' vs' n hu hv hp
    induction hp generalizing n with
    | nil => exact .nil
    | @cons u v us1 vs1 hd tl ih =>
      refine .cons ?_ (ih (n + 1) (by rw [← List.drop_drop, ← hu]; rfl) (by rw [← List.drop_drop, ← hv]; rfl))
      cases v with
      | d z => exact ⟨Dq.keep s1.st.wok (fun _ _ h _ => h) (fun _ _ z => z.1) hd.1, rfl⟩
      | own zs =>
        obtain ⟨a, ws, rfl, z2, z3, z4⟩ := hd.1
        refine ⟨.lst (.inl z2) (fun z => z.2 ⟨n, zs, ?_, ?_⟩) (z3.keep s1.st.wok (fun _ _ h _ => h) (fun _ _ z => z.1)), rfl⟩
        · have := congrArg (fun l => l[0]?) hv
          simpa using this.symm
        · have := congrArg (fun l => l[0]?) hu
          simpa using this.symm
      | cell k => exact ⟨hd.1, rfl⟩
  exact go 0 rfl rfl r.lr
theorem snd_call {call : Nat → List Vl → Cels → FRes} {f : Nat} {x : Str} {n : Nat} {ks : List Str} {ord : List (Nat ⊕ D)} (C : Callee c (call f) x n ks ord) {ss tt : List Sm} {es : List Expr} {kws : List Keyword} {pn pos : Pos} (hs : Paired (Snd c) ss es)
    (ht : Paired (fun sm (k : Keyword) => Snd c sm k.value) tt kws) (hn : es.length = n) (hk : kwOk kws ks = true) : Snd c (.mk' (callV call f (ss ++ tt) ord)) (.Call (.Name x pn) es kws pos) := by
  refine snd_mk (fun σ p e m Q s hp => call_run C hs hn hk (wak_g hs ht s (Post.bind hp fun vs e1 m1 hp us q s1 x1 r1 => ?_))) rfl rfl
  obtain ⟨s2, x2, pr⟩ := r1.lend s s1 x1
  cases ha : arrange (vs.map frzArg) ord with
  | none => simp only [ha] at hp; exact hp.elim
  | some ws =>
    simp only [ha] at hp
    refine ⟨_, ws, m1, _, q.μ, s2.st, pr, ha, ?_⟩
    cases hf : call f ws m1 with
    | stuck => rw [hf] at hp; exact hp
    | ok v m' =>
      rw [hf] at hp
      intro u H' W' μ' st xt lr fr
      obtain ⟨s3, x3⟩ := s2.called st xt
      have x4 := x2.trans s.μt x3
      have fr' : Frs p.H u v := by
        cases v with
        | own xs =>
          intro a ha'
          exact (Classical.byContradiction fun z => (x2.there a z) (fr xs a rfl ha').2)
        | d y => exact True.intro
        | cell k => exact True.intro
      exact hp u ⟨H', W', μ'⟩ s3 x4 ⟨lr, fun _ => ⟨tmp_of s x4 fr' fun xs a h1 h2 => (fr xs a h1 h2).1, fr'⟩⟩
    | exc k g m' =>
      rw [hf] at hp
      intro cls dx H' W' μ' st xt er
      obtain ⟨s3, x3⟩ := s2.called st xt
      exact hp cls dx ⟨H', W', μ'⟩ s3 (x2.trans s.μt x3) er

/-! ### a call that sees no store -/
/-- arguments that are lent: a list of one's own may be among them -/
def RLA (c : Cn) (q : Po) (vs : List Vl × Bool) (us : List V) : Prop := Paired (fun u v => LR c.X.K q.H q.W q.μ u v) us vs.1
/-- the addresses of lent lists -/
def lentP (us : List V) (vs : List Vl) : Addr → Prop := givenP us vs
theorem smA_cons (x : Sm) (xs : List Sm) (e : Slots) (m : Cels) : smA (x :: xs) e m = (x.v e m).bind fun v e m => (smA xs e m).bind fun vs e m => .ok (v :: vs.1, vs.2 || lentOf x.var v) e m := rfl
/-- .. and where nothing is lent, fresh things alone -/
structure RA (c : Cn) (σ : L2.St) (p : Po) (vs : List Vl × Bool) (us : List V) (q : Po) (e' : Slots) : Prop where
  lr : Paired (fun u v => LR c.X.K q.H q.W q.μ u v) us vs.1
  fr : vs.2 = false → RL c σ p vs.1 us q e'
theorem ra_cons {σ : L2.St} {p q1 q2 : Po} {e e1 e2 : Slots} {m m1 : Cels} {sm : Sm} {v : Vl} {x : V} {vs : List Vl × Bool} {us : List V} (s : Sr c σ p e m) (s1 : Sr c σ q1 e1 m1) (x1 : Ex σ p e q1 e1) (x2 : Ex σ q1 e1 q2 e2) (r1 : RV c σ sm.var.isSome p v x q1 e1) (r2 : RA c σ q1 vs us q2 e2) : RA c σ p (v :: vs.1, vs.2 || lentOf sm.var v) (x :: us) q2 e2 := by
  refine ⟨.cons (x2.lr s1.st r1.1) r2.lr, fun h => ?_⟩
  have h : (vs.2 || lentOf sm.var v) = false := h
  rw [Bool.or_eq_false_iff] at h
  refine rl_cons s s1 x1 x2 ⟨r1.1, fun _ => ?_⟩ (r2.fr h.1)
  cases v with
  | d y => exact ⟨True.intro, True.intro⟩
  | cell k => exact ⟨True.intro, True.intro⟩
  | own xs =>
    cases hv : sm.var with
    | none => exact r1.2 (by rw [hv]; rfl)
    | some i => rw [hv] at h; exact absurd h.2 (by simp [lentOf])
theorem snds_a : ∀ {ss : List Sm} {es : List Expr} {tt : List Sm} {kws : List Keyword}, Paired (Snd c) ss es → Paired (fun sm (k : Keyword) => Snd c sm k.value) tt kws → ∀ {σ : L2.St} {p : Po} {e : Slots} {m : Cels} {Q : List V → Hp → Prop}, Sr c σ p e m → Post c σ p e (RA c σ p) (smA (ss ++ tt) e m) Q → WAK c.X es kws σ p.H Q
  | _, _, _, _, .nil, .nil, σ, p, e, m, Q, s, hp => wk_of pk_nil ⟨rfl, hp [] p s Ext.refl ⟨.nil, fun _ => rl_nil⟩⟩
  | _, _, _, _, .nil, .cons (a := sm) (b := kw) h t, σ, p, e, m, Q, s, hp => by
    obtain ⟨nm, ex, kp⟩ := kw
    refine wkl_cons (h.v σ p e m _ s (Post.bind hp fun v e1 m1 hp x q1 s1 x1 r1 => ?_))
    refine snds_a .nil t s1 (Post.bind (RR := RA c σ q1) (hp.shift s x1 fun _ _ _ _ _ r => r) fun vs e2 m2 hp us q2 s2 x2 r2 => ?_)
    exact hp (x :: us) q2 s2 x2 (ra_cons s s1 x1 x2 r1 r2)
  | _, _, _, _, .cons (a := sm) (b := ex) h t, t', σ, p, e, m, Q, s, hp => by
    refine wak_cons h.sy (h.v σ p e m _ s (Post.bind hp fun v e1 m1 hp x q1 s1 x1 r1 => ?_))
    refine snds_a t t' s1 (Post.bind (RR := RA c σ q1) (hp.shift s x1 fun _ _ _ _ _ r => r) fun vs e2 m2 hp us q2 s2 x2 r2 => ?_)
    exact hp (x :: us) q2 s2 x2 (ra_cons s s1 x1 x2 r1 r2)
theorem lent_dq {K : PySem.W.Frag} {H : Hp} {W : Addr → Prop} {μ : List Addr} (w : Wok H W) {P : Addr → Prop} {us : List V} {vs : List Vl} (h : Paired (fun u v => LR K H W μ u v) us vs) : ∀ {xs : List D}, (∀ (i : Nat) (ys : List D) (a : Addr), vs[i]? = some (.own ys) → us[i]? = some (V.ref a) → P a) → frzAll vs = some xs → Paired (fun u v => LR K H (fun a => W a ∧ ¬ P a) [] u v ∧ isOwn v = false) us (xs.map Vl.d) := by
  induction h with
  | nil => intro xs _ h; cases h; exact .nil
  | @cons u v us1 vs1 hd tl ih =>
    intro xs hP h
    unfold frzAll at h
    cases h1 : frz v with
    | none => rw [h1] at h; cases h
    | some y =>
      cases h2 : frzAll vs1 with
      | none => rw [h1, h2] at h; cases h
      | some l =>
        rw [h1, h2] at h
        cases h
        refine .cons ⟨?_, rfl⟩ (ih (fun i ys a e1 e2 => hP (i + 1) ys a (by simpa using e1) (by simpa using e2)) h2)
        cases v with
        | d z => cases h1; exact Dq.keep w (fun _ _ h _ => h) (fun _ _ z => z.1) hd
        | own zs =>
          cases h1
          obtain ⟨a, ws, rfl, z2, z3, z4⟩ := hd
          exact .lst (.inl z2) (fun z => z.2 (hP 0 zs a rfl rfl)) (z3.keep w (fun _ _ h _ => h) (fun _ _ z => z.1))
        | cell k => cases h1
theorem str_nil {M : Mo} {K : PySem.W.Frag} {H : Hp} {W : Addr → Prop} (w : Wok H W) : StR M K H W [] [] := ⟨w, (fun a h => absurd h (by simp)), List.nodup_nil, .nil⟩
theorem paired_nil {α β : Type} {R : α → β → Prop} {l : List α} (h : Paired R l []) : l = [] := by cases h; rfl
theorem snd_callP {call : Nat → List Vl → Cels → FRes} {f : Nat} {x : Str} {n : Nat} {ks : List Str} {ord : List (Nat ⊕ D)} (C : Callee c (call f) x n ks ord) {ss tt : List Sm} {es : List Expr} {kws : List Keyword} {pn pos : Pos} (hs : Paired (Snd c) ss es)
    (ht : Paired (fun sm (k : Keyword) => Snd c sm k.value) tt kws) (hn : es.length = n) (hk : kwOk kws ks = true) : Snd c (.mk' (callPV call f (ss ++ tt) ord)) (.Call (.Name x pn) es kws pos) := by
  refine snd_mk (fun σ p e m Q s hp => call_run C hs hn hk (snds_a hs ht s (Post.bind hp fun vs e1 m1 hp us q s1 x1 r1 => ?_))) rfl rfl
  obtain ⟨vs, lent⟩ := vs
  dsimp only at hp
  cases hz : frzAll vs with
  | none => simp only [hz] at hp; exact hp.elim
  | some xs =>
  simp only [hz] at hp
  cases ha : arrange (xs.map Vl.d) ord with
  | none => simp only [ha] at hp; exact hp.elim
  | some ws =>
    simp only [ha] at hp
    have w0 : Wok q.H (fun a => q.W a ∧ ¬ givenP us vs a) := fun a h => s1.st.wok a h.1
    refine ⟨_, ws, [], _, [], str_nil w0, lent_dq s1.st.wok r1.lr (fun i ys a e1 e2 => ⟨i, ys, e1, e2⟩) hz, ha, ?_⟩
    have back : ∀ {H' : Hp} {W' : Addr → Prop} {μ' : List Addr}, StR c.M c.X.K H' W' μ' [] → Ext [] q.H (fun a => q.W a ∧ ¬ givenP us vs a) [] [] H' W' μ' [] → ∃ W1 : Addr → Prop, Sr c σ ⟨H', W1, q.μ⟩ e1 m1 ∧ Ex σ p e ⟨H', W1, q.μ⟩ e1 ∧ (∀ a, W' a → W1 a) ∧ (lent = false → ∀ a, W1 a → W' a) ∧ Wok H' W' := by
      intro H' W' μ' st xt
      have hμ : μ' = [] := paired_nil st.cel
      subst hμ
      have g : Same q.H H' := fun a o h => xt.keep a o h (by simp)
      cases hl : lent with
      | false =>
        obtain ⟨s2, x2, _⟩ := (r1.fr hl).lend s s1 x1
        refine ⟨W', SR.growW s2 g (fun a h => ?_) xt.wk st.wok, x2.trans s.μt (Ext.growW g (fun a h => ?_) xt.wk), fun _ h => h, fun _ _ h => h, st.wok⟩
        · rcases xt.wd a h with z | ⟨i, xs, z, _⟩
          · exact z
          · simp at z
        · rcases xt.wd a h with z | ⟨i, xs, z, _⟩
          · exact z
          · simp at z
      | true =>
        have w2 : ∀ a, q.H a ≠ none → (q.W a ∨ W' a) → q.W a := fun a h z => z.elim id fun z => (xt.wk a h z).1
        refine ⟨fun a => q.W a ∨ W' a, SR.growW s1 g (fun a h => .inl h) w2 ?_, x1.trans s.μt (Ext.growW g (fun a h => .inl h) w2), fun _ h => .inr h, (fun z => nomatch z), st.wok⟩
        intro a h
        rcases h with h | h
        · obtain ⟨o, h1, h2⟩ := s1.st.wok a h
          exact ⟨o, g a o h1, h2⟩
        · exact st.wok a h
    cases hf : call f ws [] with
    | stuck => rw [hf] at hp; exact hp
    | ok v m' =>
      rw [hf] at hp
      intro u H' W' μ' st xt lr fr
      unfold pureRes at hp
      cases m' with
      | cons _ _ => cases v <;> exact hp.elim
      | nil =>
      obtain ⟨W1, s3, x3, w1, w2, w3⟩ := back st xt
      have hμ : μ' = [] := paired_nil st.cel
      subst hμ
      cases v with
      | cell k => exact hp.elim
      | d y =>
        dsimp only at hp
        by_cases hb : (lent && !noLst y) = true
        · rw [if_pos hb] at hp; exact hp.elim
        · rw [if_neg hb] at hp
          refine hp u ⟨H', W1, q.μ⟩ s3 x3 ⟨?_, fun _ => ⟨True.intro, True.intro⟩⟩
          cases hl : lent with
          | false => exact Dq.keep w3 (fun _ _ h _ => h) (fun a _ z => w2 hl a z) lr
          | true =>
            rw [hl] at hb
            exact Dq.wide (by simpa using hb) lr
      | own ys =>
        dsimp only at hp
        by_cases hb : (lent && !noLstAll ys) = true
        · rw [if_pos hb] at hp; exact hp.elim
        · rw [if_neg hb] at hp
          obtain ⟨a, zs, rfl, z2, z3, z4⟩ := lr
          obtain ⟨f1, f2⟩ := fr ys a rfl rfl
          have fr' : Frs p.H (V.ref a) (Vl.own ys) := fun b hb => by
            cases hb
            exact (Classical.byContradiction fun z => (x1.there a z) f2)
          refine hp (.ref a) ⟨H', W1, q.μ⟩ s3 x3 ⟨⟨a, zs, rfl, z2, ?_, fun z => s1.μt a z f2⟩, fun _ => ⟨tmp_of s x3 fr' fun xs b h1 h2 => by cases h2; exact w1 a f1, fr'⟩⟩
          cases hl : lent with
          | false => exact DqAll.keep w3 (fun _ _ h _ => h) (fun a _ z => w2 hl a z) z3
          | true =>
            rw [hl] at hb
            exact DqAll.wide (by simpa using hb) z3
    | exc k g m' =>
      rw [hf] at hp
      intro cls dx H' W' μ' st xt er
      unfold pureRes at hp
      cases m' with
      | cons _ _ => exact hp.elim
      | nil =>
      obtain ⟨W1, s3, x3, w1, w2, w3⟩ := back st xt
      dsimp only at hp
      by_cases hb : noLst g = true
      · rw [if_pos hb] at hp
        refine hp cls dx ⟨H', W1, q.μ⟩ s3 x3 ?_
        obtain ⟨C', fl, e1, e2, e3⟩ := er
        refine ⟨C', fl, e1, e2, ?_⟩
        cases fl with
        | none => exact True.intro
        | some x =>
          obtain ⟨a, v, z1, z2, z3⟩ := e3
          exact ⟨a, v, z1, z2, Dq.wide hb z3⟩
      · rw [if_neg hb] at hp; exact hp.elim

/-! ### a fresh list goes to the store -/
theorem snd_cel {sa : Sm} {a : Expr} (ha : Snd c sa a) (ht : tstOk a = true) (hs : synOk a = true) : Snd c (.mk' (celV sa)) a := by
  refine snd_mk (fun σ p e m Q s hp => ?_) ht hs
  refine ha.v σ p e m _ s (Post.bind hp fun v e1 m1 hp x q s1 x1 r1 => ?_)
  cases hv : sa.var with
  | some i => simp only [hv] at hp; exact hp.elim
  | none =>
    rw [hv] at r1
    simp only [hv] at hp
    cases v with
    | d y => exact hp.elim
    | cell k => exact hp.elim
    | own xs =>
      obtain ⟨⟨b, vs, rfl, z2, z3, z4⟩, hr⟩ := r1
      obtain ⟨t1, t2⟩ := hr rfl
      obtain ⟨w1, w2, w3⟩ := t1 b rfl
      have hf := t2 b rfl
      have lr' : ∀ {u : V} {v : Vl}, (∀ ys, v = .own ys → u ≠ .ref b) → LR c.X.K q.H q.W q.μ u v → LR c.X.K q.H q.W (q.μ ++ [b]) u v := fun {u v} hne h => by
        cases v with
        | d y => exact h
        | own ys =>
          obtain ⟨d, us, h1, h2, h3, h4⟩ := h
          refine ⟨d, us, h1, h2, h3, fun z => ?_⟩
          rcases List.mem_append.mp z with z | z
          · exact h4 z
          · rw [List.mem_singleton] at z
            subst z
            exact hne ys rfl h1
        | cell k =>
          obtain ⟨d, h1, h2⟩ := h
          exact ⟨d, by rw [List.getElem?_append_left (List.getElem?_eq_some_iff.mp h1).1]; exact h1, h2⟩
      have s2 : Sr c σ ⟨q.H, q.W, q.μ ++ [b]⟩ e1 (m1 ++ [.arr xs]) := by
        refine ⟨⟨s1.st.wok, fun d h => ?_, ?_, Paired.snoc s1.st.cel ⟨vs, z2, z3⟩⟩, s1.keep, s1.bt, s1.bw, s1.wb, ?_, fun d h => ?_, s1.len, fun i v h => ?_, s1.own, s1.dis⟩
        · rcases List.mem_append.mp h with z | z
          · exact s1.st.μw d z
          · rw [List.mem_singleton] at z
            subst z; exact w1
        · refine List.nodup_append.mpr ⟨s1.st.nd, by simp, fun d h d' h' z => ?_⟩
          rw [List.mem_singleton] at h'
          subst h'; subst z
          exact z4 h
        · obtain ⟨r, hr⟩ := s1.pre
          exact ⟨r ++ [b], by show q.μ ++ [b] = _; rw [hr, List.append_assoc]⟩
        · rcases List.mem_append.mp h with z | z
          · exact s1.new d z
          · rw [List.mem_singleton] at z
            subst z; exact .inr w2
        · obtain ⟨u, h1, h2⟩ := s1.env i v h
          refine ⟨u, h1, lr' (fun ys e1 e2 => ?_) h2⟩
          subst e1; subst e2
          exact w3 ⟨i, ys, h, h1⟩
      have x2 : Ex σ p e ⟨q.H, q.W, q.μ ++ [b]⟩ e1 := by
        refine ⟨x1.keep, x1.there, x1.wk, ?_, fun d h => ?_, x1.wd, x1.el⟩
        · obtain ⟨r, hr⟩ := x1.pre
          exact ⟨r ++ [b], by show q.μ ++ [b] = _; rw [hr, List.append_assoc]⟩
        · rcases List.mem_append.mp h with z | z
          · exact x1.new d z
          · rw [List.mem_singleton] at z
            subst z; exact .inr hf
      refine hp (.ref b) ⟨q.H, q.W, q.μ ++ [b]⟩ s2 x2 ⟨⟨b, ?_, rfl⟩, fun _ => ⟨True.intro, True.intro⟩⟩
      rw [← Paired.len s1.st.cel]
      simp
end
end Pv

/-! PvS5: what is walked; targets; list comprehensions. -/
namespace Pv
open PySem PySem.Spec PyProof.Rows L2

/-! ### walks -/
abbrev Foot := Hp → (Addr → Prop) → List Addr → Prop
/-- J gives the items ds, as long as F stays true -/
structure Wlk (K : PySem.W.Frag) (J : It) (ds : List D) (F : Foot) : Prop where
  keep : ∀ {H H' : Hp} {W W' : Addr → Prop} {μ μ' : List Addr} {m : Cels} {σ : L2.St} {e e' : Slots}, StR M K H W μ m → Ext σ H W μ e H' W' μ' e' → F H W μ → F H' W' μ'
  go : ∀ {H : Hp} {W : Addr → Prop} {μ : List Addr} {i : Nat}, F H W μ → i < ds.length → J.go i H
  stop : ∀ {H : Hp} {W : Addr → Prop} {μ : List Addr} {i : Nat}, F H W μ → i = ds.length → J.stop i H
  yld : ∀ {H H' : Hp} {W : Addr → Prop} {μ : List Addr} {i : Nat} {x : V} {d : D}, Wok H W → F H W μ → ds[i]? = some d → J.yld i H x H' → Same H H' ∧ Dq K H' W x d
section
variable {M : Mo} {K : PySem.W.Frag}
/-- from one state to a later one, over statements -/
structure Later (H : Hp) (W : Addr → Prop) (H' : Hp) (W' : Addr → Prop) : Prop where
  keep : ∀ a o, H a = some o → ¬ W a → H' a = some o
  there : ∀ a, H a ≠ none → H' a ≠ none
  wk : ∀ a, H a ≠ none → W' a → W a
theorem Later.refl {H : Hp} {W : Addr → Prop} : Later H W H W := ⟨fun _ _ h _ => h, fun _ h => h, fun _ _ h => h⟩
theorem Later.trans {H H1 H2 : Hp} {W W1 W2 : Addr → Prop} (x : Later H W H1 W1) (y : Later H1 W1 H2 W2) : Later H W H2 W2 :=
  ⟨fun a o h n => y.keep a o (x.keep a o h n) fun z => n (x.wk a (by rw [h]; exact fun z => nomatch z) z), fun a h => y.there a (x.there a h), fun a h z => x.wk a h (y.wk a (x.there a h) z)⟩
theorem Ext.later {σ : L2.St} {H H' : Hp} {W W' : Addr → Prop} {μ μ' : List Addr} {e e' : Slots} {m : Cels} (s : StR M K H W μ m) (x : Ext σ H W μ e H' W' μ' e') : Later H W H' W' := ⟨fun a o h n => x.keep a o h fun z => n (s.μw a z), x.there, x.wk⟩
/-- what stays true over statements, too -/
def LaterOk (M : Mo) (K : PySem.W.Frag) (F : Foot) : Prop := ∀ {H H' : Hp} {W W' : Addr → Prop} {μ μ' : List Addr} {m m' : Cels}, StR M K H W μ m → StR M K H' W' μ' m' → Later H W H' W' → F H W μ → F H' W' μ'
/-- L: nobody writes it -/
def SrcL (K : PySem.W.Frag) (L : Bool) (a : Addr) (ds : List D) : Foot := fun H W μ => ∃ vs, Rd H a (.lst vs) ∧ a ∉ μ ∧ (L = true → ¬ W a) ∧ DqAll K H W vs ds
def SrcT (K : PySem.W.Frag) (a : Addr) (ds : List D) : Foot := fun H W _ => ∃ vs, SqT K H a vs ∧ DqAll K H W vs ds
theorem SrcL.keep {L : Bool} {a : Addr} {ds : List D} {H H' : Hp} {W W' : Addr → Prop} {μ μ' : List Addr} {m : Cels} {σ : L2.St} {e e' : Slots} (s : StR M K H W μ m) (x : Ext σ H W μ e H' W' μ' e') (h : SrcL K L a ds H W μ) : SrcL K L a ds H' W' μ' := by
  obtain ⟨vs, h1, h2, hL, h3⟩ := h
  refine ⟨vs, rd_keep (fun o e => x.keep a o e h2) h1, fun z => ?_, fun l z => hL l (x.wk a (rd_some h1) z), x.dqs s h3⟩
  rcases x.new a z with z | z
  · exact h2 z
  · exact rd_some h1 z
theorem SrcT.keep {a : Addr} {ds : List D} {H H' : Hp} {W W' : Addr → Prop} {μ μ' : List Addr} {m : Cels} {σ : L2.St} {e e' : Slots} (s : StR M K H W μ m) (x : Ext σ H W μ e H' W' μ' e') (h : SrcT K a ds H W μ) : SrcT K a ds H' W' μ' := by
  obtain ⟨vs, h1, h3⟩ := h
  refine ⟨vs, ?_, x.dqs s h3⟩
  rcases h1 with h1 | h1
  · exact .inl (rd_keep (fun o e => x.keep a o e fun z => s.wok.tup h1 (s.μw a z)) h1)
  · exact .inr h1
theorem SrcL.at {L : Bool} {a : Addr} {ds : List D} {H : Hp} {W : Addr → Prop} {μ : List Addr} (h : SrcL K L a ds H W μ) : ∃ vs, SqL K H a vs ∧ DqAll K H W vs ds := let ⟨vs, h1, _, _, h3⟩ := h; ⟨vs, .inl h1, h3⟩
theorem SrcL.later {a : Addr} {ds : List D} {L : Bool} (hL : L = true) : LaterOk M K (SrcL K L a ds) := by
  intro H H' W W' μ μ' m m' s s' x h
  subst hL
  obtain ⟨vs, h1, h2, h4, h3⟩ := h
  have nw : ¬ W' a := fun z => h4 rfl (x.wk a (rd_some h1) z)
  exact ⟨vs, rd_keep (fun o e => x.keep a o e (h4 rfl)) h1, fun z => nw (s'.μw a z), fun _ => nw, h3.keep s.wok x.keep x.wk⟩
theorem SrcT.later {a : Addr} {ds : List D} : LaterOk M K (SrcT K a ds) := by
  intro H H' W W' μ μ' m m' s s' x h
  obtain ⟨vs, h1, h3⟩ := h
  refine ⟨vs, ?_, h3.keep s.wok x.keep x.wk⟩
  rcases h1 with h1 | h1
  · exact .inl (rd_keep (fun o e => x.keep a o e (s.wok.tup h1)) h1)
  · exact .inr h1
theorem wlk_list (L : Bool) (a : Addr) (ds : List D) : Wlk K (Itl K a) ds (SrcL K L a ds) where
  keep := SrcL.keep
  go := fun {H W μ i} h hi => by
    obtain ⟨vs, h1, h3⟩ := h.at
    obtain ⟨v, e, _⟩ := h3.get (List.getElem?_eq_getElem hi)
    exact ⟨vs, v, h1, e⟩
  stop := fun {H W μ i} h hi => by
    obtain ⟨vs, h1, h3⟩ := h.at
    exact ⟨vs, h1, by rw [h3.length]; omega⟩
  yld := fun {H H' W μ i x d} w h hd y => by
    obtain ⟨vs, h1, h3⟩ := h.at
    obtain ⟨e, y⟩ := y
    subst e
    obtain ⟨v, e, q⟩ := h3.get hd
    rw [y vs h1] at e
    cases e
    exact ⟨fun _ _ h => h, q⟩
theorem wlk_tup (a : Addr) (ds : List D) : Wlk K (Itt K a) ds (SrcT K a ds) where
  keep := SrcT.keep
  go := fun {H W μ i} h hi => by
    obtain ⟨vs, h1, h3⟩ := h
    obtain ⟨v, e, _⟩ := h3.get (List.getElem?_eq_getElem hi)
    exact ⟨vs, v, h1, e⟩
  stop := fun {H W μ i} h hi => by
    obtain ⟨vs, h1, h3⟩ := h
    exact ⟨vs, h1, by rw [h3.length]; omega⟩
  yld := fun {H H' W μ i x d} w h hd y => by
    obtain ⟨vs, h1, h3⟩ := h
    obtain ⟨e, y⟩ := y
    subst e
    obtain ⟨v, e, q⟩ := h3.get hd
    rw [y vs h1] at e
    cases e
    exact ⟨fun _ _ h => h, q⟩
theorem upTo_len : ∀ (n : Nat) (lo : Int), (upTo lo n).length = n
  | 0, _ => rfl
  | n + 1, lo => by unfold upTo; rw [List.length_cons, upTo_len n]
theorem upTo_get : ∀ (n : Nat) (lo : Int) (i : Nat) (d : D), (upTo lo n)[i]? = some d → d = .int (lo + i)
  | 0, _, i, d, h => by unfold upTo at h; simp at h
  | n + 1, lo, 0, d, h => by unfold upTo at h; simp at h; rw [← h]; simp
  | n + 1, lo, i + 1, d, h => by
    unfold upTo at h
    have := upTo_get n (lo + 1) i d (by simpa using h)
    rw [this]
    congr 1
    omega
theorem downTo_len : ∀ (n : Nat) (lo : Int), (downTo lo n).length = n
  | 0, _ => rfl
  | n + 1, lo => by unfold downTo; rw [List.length_cons, downTo_len n]
theorem downTo_get : ∀ (n : Nat) (lo : Int) (i : Nat) (d : D), (downTo lo n)[i]? = some d → d = .int (lo - i)
  | 0, _, i, d, h => by unfold downTo at h; simp at h
  | n + 1, lo, 0, d, h => by unfold downTo at h; simp at h; rw [← h]; simp
  | n + 1, lo, i + 1, d, h => by
    unfold downTo at h
    have := downTo_get n (lo - 1) i d (by simpa using h)
    rw [this]
    congr 1
    omega
theorem wlk_range (lo : Int) (n : Nat) : Wlk K (Itr lo n) (upTo lo n) (fun _ _ _ => True) where
  keep := fun _ _ _ => True.intro
  go := fun {H W μ i} _ hi => by rw [upTo_len] at hi; exact hi
  stop := fun {H W μ i} _ hi => by rw [upTo_len] at hi; exact Nat.le_of_eq hi.symm
  yld := fun {H H' W μ i x d} w _ hd y => by
    obtain ⟨e, y⟩ := y
    subst e; subst y
    rw [upTo_get n lo i d hd]
    exact ⟨fun _ _ h => h, .int _⟩
theorem wlk_down (lo : Int) (n : Nat) : Wlk K (Itc lo (-1) n) (downTo lo n) (fun _ _ _ => True) where
  keep := fun _ _ _ => True.intro
  go := fun {H W μ i} _ hi => by rw [downTo_len] at hi; exact hi
  stop := fun {H W μ i} _ hi => by rw [downTo_len] at hi; exact Nat.le_of_eq hi.symm
  yld := fun {H H' W μ i x d} w _ hd y => by
    obtain ⟨e, y⟩ := y
    subst e; subst y
    rw [downTo_get n lo i d hd]
    have e1 : lo + (i : Nat) * (-1 : Int) = lo - i := by omega
    rw [e1]
    exact ⟨fun _ _ h => h, .int _⟩
theorem enumD_len : ∀ (xs : List D) (k : Int), (enumD k xs).length = xs.length
  | [], _ => rfl
  | x :: r, k => by unfold enumD; rw [List.length_cons, List.length_cons, enumD_len r]
theorem enumD_get : ∀ (xs : List D) (k : Int) (i : Nat) (d : D), (enumD k xs)[i]? = some d → ∃ x, xs[i]? = some x ∧ d = .tuple [.int (k + i), x]
  | [], _, i, d, h => by unfold enumD at h; simp at h
  | x :: r, k, 0, d, h => by unfold enumD at h; simp at h; rw [← h]; exact ⟨x, rfl, by simp⟩
  | x :: r, k, i + 1, d, h => by
    unfold enumD at h
    obtain ⟨y, h1, h2⟩ := enumD_get r (k + 1) i d (by simpa using h)
    refine ⟨y, by simpa using h1, ?_⟩
    rw [h2]
    congr 3
    omega
theorem wlk_enum (L : Bool) (a : Addr) (ds : List D) : Wlk K (Ite K a) (enumD 0 ds) (SrcL K L a ds) where
  keep := SrcL.keep
  go := fun {H W μ i} h hi => by
    obtain ⟨vs, h1, h3⟩ := h.at
    rw [enumD_len] at hi
    obtain ⟨v, e, _⟩ := h3.get (List.getElem?_eq_getElem hi)
    exact ⟨vs, v, h1, e⟩
  stop := fun {H W μ i} h hi => by
    obtain ⟨vs, h1, h3⟩ := h.at
    exact ⟨vs, h1, by rw [h3.length, ← enumD_len ds 0]; omega⟩
  yld := fun {H H' W μ i x d} w h hd y => by
    obtain ⟨vs, h1, h3⟩ := h.at
    obtain ⟨T, x', e1, e2, e3, y⟩ := y
    subst e1; subst e3
    obtain ⟨d', h4, h5⟩ := enumD_get ds 0 i d hd
    obtain ⟨v, e, q⟩ := h3.get h4
    rw [y vs h1] at e
    cases e
    subst h5
    have g := same_new (o := HO.tup [V.int (i : Nat), x']) e2
    refine ⟨g, .tup (.inl (.inl upd_same)) (.cons ?_ (.cons (q.same w g) .nil))⟩
    rw [Int.zero_add]
    exact .int _
theorem wlk_enumT (a : Addr) (ds : List D) : Wlk K (IteT K a) (enumD 0 ds) (SrcT K a ds) where
  keep := SrcT.keep
  go := fun {H W μ i} h hi => by
    obtain ⟨vs, h1, h3⟩ := h
    rw [enumD_len] at hi
    obtain ⟨v, e, _⟩ := h3.get (List.getElem?_eq_getElem hi)
    exact ⟨vs, v, h1, e⟩
  stop := fun {H W μ i} h hi => by
    obtain ⟨vs, h1, h3⟩ := h
    exact ⟨vs, h1, by rw [h3.length, ← enumD_len ds 0]; exact hi⟩
  yld := fun {H H' W μ i x d} w h hd y => by
    obtain ⟨vs, h1, h3⟩ := h
    obtain ⟨T, x', e1, e2, e3, y⟩ := y
    subst e1; subst e3
    obtain ⟨d', h4, h5⟩ := enumD_get ds 0 i d hd
    obtain ⟨v, e, q⟩ := h3.get h4
    rw [y vs h1] at e
    cases e
    subst h5
    have g := same_new (o := HO.tup [V.int (i : Nat), x']) e2
    refine ⟨g, .tup (.inl (.inl upd_same)) (.cons ?_ (.cons (q.same w g) .nil))⟩
    rw [Int.zero_add]
    exact .int _
theorem zipD_len : ∀ (xs ys : List D), (zipD xs ys).length = min xs.length ys.length
  | [], ys => by unfold zipD; simp
  | x :: xs, [] => by unfold zipD; simp
  | x :: xs, y :: ys => by unfold zipD; rw [List.length_cons, zipD_len xs ys, List.length_cons, List.length_cons]; omega
theorem zipD_get : ∀ (xs ys : List D) (i : Nat) (d : D), (zipD xs ys)[i]? = some d → ∃ x y, xs[i]? = some x ∧ ys[i]? = some y ∧ d = .tuple [x, y]
  | [], ys, i, d, h => by unfold zipD at h; simp at h
  | x :: xs, [], i, d, h => by unfold zipD at h; simp at h
  | x :: xs, y :: ys, 0, d, h => by unfold zipD at h; simp at h; rw [← h]; exact ⟨x, y, rfl, rfl, rfl⟩
  | x :: xs, y :: ys, i + 1, d, h => by
    unfold zipD at h
    obtain ⟨x', y', h1, h2, h3⟩ := zipD_get xs ys i d (by simpa using h)
    exact ⟨x', y', by simpa using h1, by simpa using h2, h3⟩
theorem wlk_zip (L : Bool) (a b : Addr) (ds es : List D) : Wlk K (Itz K a b) (zipD ds es) (fun H W μ => SrcL K L a ds H W μ ∧ SrcL K L b es H W μ) where
  keep := fun s x h => ⟨h.1.keep s x, h.2.keep s x⟩
  go := fun {H W μ i} h hi => by
    obtain ⟨vs, h1, h3⟩ := h.1.at
    obtain ⟨ws, k1, k3⟩ := h.2.at
    rw [zipD_len] at hi
    obtain ⟨v, e, _⟩ := h3.get (List.getElem?_eq_getElem (show i < ds.length by omega))
    obtain ⟨v', e', _⟩ := k3.get (List.getElem?_eq_getElem (show i < es.length by omega))
    exact ⟨vs, ws, v, v', h1, k1, e, e'⟩
  stop := fun {H W μ i} h hi => by
    obtain ⟨vs, h1, h3⟩ := h.1.at
    obtain ⟨ws, k1, k3⟩ := h.2.at
    rw [zipD_len] at hi
    refine ⟨vs, ws, h1, k1, ?_⟩
    rw [h3.length, k3.length]
    omega
  yld := fun {H H' W μ i x d} w h hd y => by
    obtain ⟨vs, h1, h3⟩ := h.1.at
    obtain ⟨ws, k1, k3⟩ := h.2.at
    obtain ⟨T, x', y', e1, e2, e3, y1, y2⟩ := y
    subst e1; subst e3
    obtain ⟨d1, d2, h4, h5, h6⟩ := zipD_get ds es i d hd
    obtain ⟨v, e, q⟩ := h3.get h4
    obtain ⟨v', e', q'⟩ := k3.get h5
    rw [y1 vs h1] at e
    rw [y2 ws k1] at e'
    cases e
    cases e'
    subst h6
    have g := same_new (o := HO.tup [x', y']) e2
    exact ⟨g, .tup (.inl (.inl upd_same)) (.cons (q.same w g) (.cons (q'.same w g) .nil))⟩
theorem wlk_zipT (a b : Addr) (ds es : List D) : Wlk K (RZ.ItzT K a b) (zipD ds es) (fun H W μ => SrcT K a ds H W μ ∧ SrcT K b es H W μ) where
  keep := fun s x h => ⟨h.1.keep s x, h.2.keep s x⟩
  go := fun {H W μ i} h hi => by
    obtain ⟨vs, h1, h3⟩ := h.1
    obtain ⟨ws, k1, k3⟩ := h.2
    rw [zipD_len] at hi
    obtain ⟨v, e, _⟩ := h3.get (List.getElem?_eq_getElem (show i < ds.length by omega))
    obtain ⟨v', e', _⟩ := k3.get (List.getElem?_eq_getElem (show i < es.length by omega))
    exact ⟨vs, ws, v, v', h1, k1, e, e'⟩
  stop := fun {H W μ i} h hi => by
    obtain ⟨vs, h1, h3⟩ := h.1
    obtain ⟨ws, k1, k3⟩ := h.2
    rw [zipD_len] at hi
    refine ⟨vs, ws, h1, k1, ?_⟩
    rw [h3.length, k3.length]
    omega
  yld := fun {H H' W μ i x d} w h hd y => by
    obtain ⟨vs, h1, h3⟩ := h.1
    obtain ⟨ws, k1, k3⟩ := h.2
    obtain ⟨T, x', y', e1, e2, e3, y1, y2⟩ := y
    subst e1; subst e3
    obtain ⟨d1, d2, h4, h5, h6⟩ := zipD_get ds es i d hd
    obtain ⟨v, e, q⟩ := h3.get h4
    obtain ⟨v', e', q'⟩ := k3.get h5
    rw [y1 vs h1] at e
    rw [y2 ws k1] at e'
    cases e
    cases e'
    subst h6
    have g := same_new (o := HO.tup [x', y']) e2
    exact ⟨g, .tup (.inl (.inl upd_same)) (.cons (q.same w g) (.cons (q'.same w g) .nil))⟩
end

/-! ### an iterable -/
/-- the walk has come; L: it may go on over statements -/
def RI (c : Cn) (L : Bool) : List D → It → Po → Slots → Prop := fun ds J q _ => ∃ F, Wlk c.X.K J ds F ∧ (L = true → LaterOk c.M c.X.K F) ∧ F q.H q.W q.μ
/-- what a for, a comprehension walks -/
def SndI (c : Cn) (k : IK) (ss : List Sm) (tg iter : Expr) : Prop := ∃ wi, PI c.X tg iter wi ∧
  (∀ σ p e m R, Sr c σ p e m → Post c σ p e (RI c false) (itW (smV ss e m) k) R → wi σ p.H R) ∧ (∀ σ p e m R, Sr c σ p e m → Post c σ p e (RI c true) (itW (smG ss e m) k) R → wi σ p.H R)
/-- a list or a tuple, walked -/
def iSeq (X : Cx) (ex : Expr) : TI := fun σ H R => WE X ex σ H fun x H1 => ∃ a, x = .ref a ∧ (((∃ xs, SqL X.K H1 a xs) ∧ R (Itl X.K a) H1) ∨ ((∃ xs, SqT X.K H1 a xs) ∧ R (Itt X.K a) H1))
theorem pi_seq {X : Cx} {tg l : Expr} : PI X tg l (iSeq X l) := by
  refine ⟨fun pins s σ H R I h => ?_⟩
  refine thn (h pins s I) fun v s1 ⟨x, H1, I1, r1, q1⟩ => ?_
  obtain ⟨a, e, q⟩ := q1
  subst e
  cases r1
  rcases q with ⟨⟨xs, hq⟩, q⟩ | ⟨⟨xs, hq⟩, q⟩
  · obtain ⟨its, rv, p, hz⟩ := I1.list hq
    refine wpAny_pyIter_list p.isList ?_
    refine ⟨s1.heap.objs.size, [s1.heap.objs.size], _, _, H1, rfl, I1.kept (t' := s1.toks) fun b o e => Heap.get?_push_of_some _ e, turn_list a _, ⟨_, Heap.get?_push_size _ rfl, rfl, rfl⟩, fun b hb => ?_, q⟩
    have e : b = s1.heap.objs.size := by simpa using hb
    subst e
    exact I1.fpOk (Nat.le_refl _) (I1.hok.fresh (Nat.le_refl _))
  · obtain ⟨its, rv, p, hz⟩ := I1.tuple hq
    refine wpAny_pyIter_tuple (show s1.heap.IsTuple a its.toArray from p) ?_
    refine ⟨s1.heap.objs.size, [s1.heap.objs.size], _, _, H1, rfl, I1.kept (t' := s1.toks) fun b o e => Heap.get?_push_of_some _ e, turn_tuple a _, ⟨_, Heap.get?_push_size _ rfl, rfl, rfl⟩, fun b hb => ?_, q⟩
    have e : b = s1.heap.objs.size := by simpa using hb
    subst e
    exact I1.fpOk (Nat.le_refl _) (I1.hok.fresh (Nat.le_refl _))
section
variable {c : Cn}
theorem stμ {M : Mo} {K : PySem.W.Frag} {H : Hp} {W : Addr → Prop} {μ : List Addr} {m : Cels} (s : StR M K H W μ m) {a : Addr} (h : ¬ W a) : a ∉ μ := fun z => h (s.μw a z)
/-- a thing looked at, as a source -/
theorem src_of {L : Bool} {σ : L2.St} {q : Po} {e : Slots} {m : Cels} {u : V} {v : Vl} {x : D} {ds : List D} (s : Sr c σ q e m) (l : LR c.X.K q.H q.W q.μ u v) (hL : L = true → isOwn v = false) (h : frz v = some x) (hs : seqOf x = some ds) :
    ∃ a, u = .ref a ∧ ((x = .list ds ∧ SrcL c.X.K L a ds q.H q.W q.μ) ∨ (x = .tuple ds ∧ SrcT c.X.K a ds q.H q.W q.μ)) := by
  cases v with
  | d y =>
    cases h
    have l : Dq c.X.K q.H q.W u x := l
    cases l with
    | lst h1 h2 h3 => cases hs; exact ⟨_, rfl, .inl ⟨rfl, _, h1, stμ s.st h2, fun _ => h2, h3⟩⟩
    | tup h1 h3 => cases hs; exact ⟨_, rfl, .inr ⟨rfl, _, h1, h3⟩⟩
    | _ => cases hs
  | own xs =>
    cases h
    cases hs
    obtain ⟨a, vs, h1, h2, h3, h4⟩ := l
    exact ⟨a, h1, .inl ⟨rfl, vs, .inl h2, h4, (fun z => nomatch hL z), h3⟩⟩
  | cell k => cases h
def srcOk (c : Cn) (L : Bool) (q : Po) (u : V) (x : D) : Prop := (∀ i, x = .int i → u = .int i) ∧ ∀ ds, seqOf x = some ds → ∃ a, u = .ref a ∧ ((x = .list ds ∧ SrcL c.X.K L a ds q.H q.W q.μ) ∨ (x = .tuple ds ∧ SrcT c.X.K a ds q.H q.W q.μ))
/-- the sources stand, and every walk of the items will do -/
def IW (c : Cn) (L : Bool) (k : IK) (us : List V) (H : Hp) (R : It → Hp → Prop) : Prop := ∃ (xs ds : List D) (q : Po), Paired (srcOk c L q) us xs ∧ itemsOf k xs = some ds ∧ q.H = H ∧ ∀ J F, Wlk c.X.K J ds F → (L = true → LaterOk c.M c.X.K F) → F q.H q.W q.μ → R J H
theorem srcs_v {σ : L2.St} {q : Po} {e : Slots} {m : Cels} (s : Sr c σ q e m) {us : List V} {vs : List Vl} (h : Paired (fun u v => LR c.X.K q.H q.W q.μ u v) us vs) : ∀ {xs : List D}, frzAll vs = some xs → Paired (srcOk c false q) us xs := by
  induction h with
  | nil => intro xs h; cases h; exact .nil
  | @cons u v us1 vs1 hd tl ih =>
    intro xs h
    unfold frzAll at h
    cases h1 : frz v with
    | none => rw [h1] at h; cases h
    | some y =>
      cases h2 : frzAll vs1 with
      | none => rw [h1, h2] at h; cases h
      | some l =>
        rw [h1, h2] at h
        cases h
        refine .cons ⟨fun i e => ?_, fun ds e => src_of s hd (fun z => nomatch z) h1 e⟩ (ih h2)
        subst e
        cases v with
        | d z => cases h1; cases hd; rfl
        | own zs => cases h1
        | cell k => cases h1
theorem srcs_d {q : Po} {σ : L2.St} {e : Slots} {m : Cels} (s : Sr c σ q e m) {us : List V} {xs : List D} : DqAll c.X.K q.H q.W us xs → Paired (srcOk c true q) us xs := by
  induction xs generalizing us with
  | nil => intro h; cases h; exact .nil
  | cons x xs ih =>
    intro h
    cases h with
    | cons a b =>
      refine .cons ⟨fun i e => ?_, fun ds e => src_of s (v := .d x) a (fun _ => rfl) rfl e⟩ (ih b)
      subst e
      cases a; rfl
theorem iw_v {ss : List Sm} {es : List Expr} (hs : Paired (Snd c) ss es) {k : IK} {σ : L2.St} {p : Po} {e : Slots} {m : Cels} {R : It → Hp → Prop} (s : Sr c σ p e m) (hp : Post c σ p e (RI c false) (itW (smV ss e m) k) R) : WA c.X es σ p.H fun us H => IW c false k us H R := by
  refine was_v hs s (Post.bind hp fun vs e1 m1 hp us q s1 x1 r1 => ?_)
  cases h1 : frzAll vs with
  | none => simp only [h1] at hp; exact hp.elim
  | some xs =>
    simp only [h1] at hp
    cases h2 : itemsOf k xs with
    | none => simp only [h2] at hp; exact hp.elim
    | some ds =>
      simp only [h2] at hp
      exact ⟨xs, ds, q, srcs_v s1 r1 h1, h2, rfl, fun J F h3 hl h4 => hp J q s1 x1 ⟨F, h3, hl, h4⟩⟩
theorem iw_g {ss : List Sm} {es : List Expr} (hs : Paired (Snd c) ss es) {k : IK} {σ : L2.St} {p : Po} {e : Slots} {m : Cels} {R : It → Hp → Prop} (s : Sr c σ p e m) (hp : Post c σ p e (RI c true) (itW (smG ss e m) k) R) : WA c.X es σ p.H fun us H => IW c true k us H R := by
  refine snds_g hs s (Post.bind hp fun vs e1 m1 hp us q s1 x1 r1 => ?_)
  cases h1 : frzAll vs with
  | none => simp only [h1] at hp; exact hp.elim
  | some xs =>
    simp only [h1] at hp
    cases h2 : itemsOf k xs with
    | none => simp only [h2] at hp; exact hp.elim
    | some ds =>
      simp only [h2] at hp
      obtain ⟨s2, x2, d2⟩ := r1.give s s1 x1 h1
      exact ⟨xs, ds, _, srcs_d s2 d2, h2, rfl, fun J F h3 hl h4 => hp J ⟨q.H, fun a => q.W a ∧ ¬ givenP us vs a, q.μ⟩ s2 x2 ⟨F, h3, hl, h4⟩⟩
theorem smV_one {x : Sm} {e : Slots} {m : Cels} : smV [x] e m = (x.v e m).bind fun v e m => .ok [v] e m := rfl
theorem smG_one {x : Sm} {e : Slots} {m : Cels} : smG [x] e m = (x.g e m).bind fun v e m => .ok [v] e m := rfl
theorem bind_bind {α β γ : Type} (r : Res α) (f : α → Slots → Cels → Res β) (g : β → Slots → Cels → Res γ) : (r.bind f).bind g = r.bind fun a e m => (f a e m).bind g := by cases r <;> rfl
variable {sa sb sc : Sm} {a b d tg : Expr} {pn pos : Pos}
theorem seq_items {xs ds : List D} (h : itemsOf .seq xs = some ds) : ∃ x, xs = [x] ∧ seqOf x = some ds := by
  unfold itemsOf at h
  split at h
  all_goals (try cases h)
  all_goals first | exact ⟨_, rfl, by assumption⟩ | (rename_i h0; cases h0)
theorem sndi_seq (ha : Snd c sa a) : SndI c .seq [sa] tg a := by
  refine ⟨iSeq c.X a, pi_seq, fun σ p e m R s hp => ?_, fun σ p e m R s hp => ?_⟩
  · have hp : Post c σ p e (RI c false) ((sa.v e m).bind fun v e m => (match frzAll [v] with
      | some ds => Res.of (itemsOf .seq ds) e m
      | none => .stuck)) R := by
      have : itW (smV [sa] e m) .seq = (sa.v e m).bind fun v e m => (match frzAll [v] with
        | some ds => Res.of (itemsOf .seq ds) e m
        | none => .stuck) := by rw [smV_one]; unfold itW; rw [bind_bind]; rfl
      rw [← this]; exact hp
    refine ha.v σ p e m _ s (Post.bind hp fun v e1 m1 hp u q s1 x1 r1 => ?_)
    cases h1 : frzAll [v] with
    | none => simp only [h1] at hp; exact hp.elim
    | some xs =>
      simp only [h1] at hp
      cases h2 : itemsOf .seq xs with
      | none => simp only [h2] at hp; exact hp.elim
      | some ds =>
        simp only [h2] at hp
        obtain ⟨x, e1', e2⟩ := seq_items h2
        have h3 : frz v = some x := by
          subst e1'
          unfold frzAll at h1
          cases hv : frz v with
          | none => rw [hv] at h1; cases h1
          | some y => rw [hv] at h1; simp only [frzAll] at h1; cases h1; rfl
        obtain ⟨a', e3, e4⟩ := src_of (L := false) s1 r1.1 (fun z => nomatch z) h3 e2
        refine ⟨a', e3, ?_⟩
        rcases e4 with ⟨_, e4⟩ | ⟨_, e4⟩
        · obtain ⟨vs, z1, z2⟩ := e4.at
          exact .inl ⟨⟨vs, z1⟩, hp _ q s1 x1 ⟨_, wlk_list false a' ds, (fun z => nomatch z), e4⟩⟩
        · obtain ⟨vs, z1, z2⟩ := id e4
          exact .inr ⟨⟨vs, z1⟩, hp _ q s1 x1 ⟨_, wlk_tup a' ds, (fun z => nomatch z), e4⟩⟩
  · have hp : Post c σ p e (RI c true) ((sa.g e m).bind fun v e m => (match frzAll [v] with
      | some ds => Res.of (itemsOf .seq ds) e m
      | none => .stuck)) R := by
      have : itW (smG [sa] e m) .seq = (sa.g e m).bind fun v e m => (match frzAll [v] with
        | some ds => Res.of (itemsOf .seq ds) e m
        | none => .stuck) := by rw [smG_one]; unfold itW; rw [bind_bind]; rfl
      rw [← this]; exact hp
    refine snd_g ha s (Post.bind hp fun v e1 m1 hp u q s1 x1 r1 => ?_)
    cases h1 : frzAll [v] with
    | none => simp only [h1] at hp; exact hp.elim
    | some xs =>
      simp only [h1] at hp
      cases h2 : itemsOf .seq xs with
      | none => simp only [h2] at hp; exact hp.elim
      | some ds =>
        simp only [h2] at hp
        obtain ⟨x, e1', e2⟩ := seq_items h2
        have h3 : frz v = some x := by
          subst e1'
          unfold frzAll at h1
          cases hv : frz v with
          | none => rw [hv] at h1; cases h1
          | some y => rw [hv] at h1; simp only [frzAll] at h1; cases h1; rfl
        have rl : RL c σ p [v] [u] q e1 := rl_cons s s1 x1 Ext.refl r1 rl_nil
        obtain ⟨s2, x2, d2⟩ := rl.give s s1 x1 h1
        subst e1'
        cases d2 with
        | cons dx _ =>
        obtain ⟨a', e3, e4⟩ := src_of (L := true) (v := .d x) s2 dx (fun _ => rfl) rfl e2
        refine ⟨a', e3, ?_⟩
        rcases e4 with ⟨_, e4⟩ | ⟨_, e4⟩
        · obtain ⟨vs, z1, z2⟩ := e4.at
          exact .inl ⟨⟨vs, z1⟩, hp _ ⟨q.H, fun a => q.W a ∧ ¬ givenP [u] [v] a, q.μ⟩ s2 x2 ⟨_, wlk_list true a' ds, (fun _ => SrcL.later rfl), e4⟩⟩
        · obtain ⟨vs, z1, z2⟩ := id e4
          exact .inr ⟨⟨vs, z1⟩, hp _ ⟨q.H, fun a => q.W a ∧ ¬ givenP [u] [v] a, q.μ⟩ s2 x2 ⟨_, wlk_tup a' ds, (fun _ => SrcT.later), e4⟩⟩
theorem paired1 {α β : Type} {R : α → β → Prop} {us : List α} {b : β} (h : Paired R us [b]) : ∃ a, us = [a] ∧ R a b := by
  cases h with
  | cons h t => cases t; exact ⟨_, rfl, h⟩
theorem paired2 {α β : Type} {R : α → β → Prop} {us : List α} {b b' : β} (h : Paired R us [b, b']) : ∃ a a', us = [a, a'] ∧ R a b ∧ R a' b' := by
  cases h with
  | cons h t => obtain ⟨a', rfl, h'⟩ := paired1 t; exact ⟨_, _, rfl, h, h'⟩
theorem paired3 {α β : Type} {R : α → β → Prop} {us : List α} {b b' b2 : β} (h : Paired R us [b, b', b2]) : ∃ a a' a2, us = [a, a', a2] ∧ R a b ∧ R a' b' ∧ R a2 b2 := by
  cases h with
  | cons h t => obtain ⟨a', a2, rfl, h', h2⟩ := paired2 t; exact ⟨_, _, _, rfl, h, h', h2⟩
/-- a rule over evaluated arguments -/
theorem sndi_of {k : IK} {ss : List Sm} {es : List Expr} {iter : Expr} {wi : TA → TI} (hs : Paired (Snd c) ss es) (hpi : PI c.X tg iter (wi (WA c.X es))) (f : ∀ L σ H R, (WA c.X es σ H fun us H1 => IW c L k us H1 R) → wi (WA c.X es) σ H R) : SndI c k ss tg iter :=
  ⟨_, hpi, fun σ p e m R s hp => f false σ p.H R (iw_v hs s hp), fun σ p e m R s hp => f true σ p.H R (iw_g hs s hp)⟩
theorem b62 {n : Int} (h1 : n.natAbs ≤ 1000000) : -(2 ^ 62) ≤ n ∧ n < 2 ^ 62 := by constructor <;> omega
theorem sndi_rng1 (hg : Gl c.X "range") (hm : c.X.mg "range" = none) (ha : Snd c sa a) : SndI c .rng1 [sa] tg (.Call (.Name "range" pn) [a] [] pos) := by
  refine sndi_of (wi := fun ta => iRng1 ta) (.cons ha .nil) (pi_range1 hg hm pa_wa (ha.sy.ns [] c.X.env)) fun L σ H R h => wa_mono h fun us H1 h => ?_
  obtain ⟨xs, ds, q, h1, h2, h3, h4⟩ := h
  subst h3
  unfold itemsOf at h2
  split at h2 <;> (try cases h2) <;> (try (rename_i h0; cases h0; done))
  rename_i n _
  split at h2
  · rename_i hb
    cases h2
    obtain ⟨u, rfl, hu⟩ := paired1 h1
    obtain ⟨b1, b2⟩ := b62 hb
    exact ⟨n, by rw [hu.1 n rfl], b1, b2, h4 _ _ (wlk_range 0 _) (fun _ {_ _ _ _ _ _ _ _} _ _ _ _ => True.intro) True.intro⟩
  · cases h2
theorem sndi_rng2 (hg : Gl c.X "range") (hm : c.X.mg "range" = none) (ha : Snd c sa a) (hb : Snd c sb b) : SndI c .rng2 [sa, sb] tg (.Call (.Name "range" pn) [a, b] [] pos) := by
  have e2 := hb.sy.ns [] c.X.env
  refine sndi_of (wi := fun ta => iRng2 ta) (.cons ha (.cons hb .nil)) (pi_range2 hg hm pa_wa (by rw [ha.sy.ns, e2]; rfl) (by rw [e2]; rfl)) fun L σ H R h => wa_mono h fun us H1 h => ?_
  obtain ⟨xs, ds, q, h1, h2, h3, h4⟩ := h
  subst h3
  unfold itemsOf at h2
  split at h2 <;> (try cases h2) <;> (try (rename_i h0; cases h0; done))
  rename_i n1 n2 _
  split at h2
  · rename_i hb
    cases h2
    obtain ⟨u, u', rfl, hu, hu'⟩ := paired2 h1
    obtain ⟨b1, b2⟩ := b62 hb.1
    obtain ⟨b3, b4⟩ := b62 hb.2
    exact ⟨n1, n2, by rw [hu.1 n1 rfl, hu'.1 n2 rfl], ⟨b1, b2, b3, b4⟩, h4 _ _ (wlk_range n1 _) (fun _ {_ _ _ _ _ _ _ _} _ _ _ _ => True.intro) True.intro⟩
  · cases h2
theorem sndi_rng3 (hg : Gl c.X "range") (hm : c.X.mg "range" = none) (ha : Snd c sa a) (hb : Snd c sb b) (hd : Snd c sc d) : SndI c .rng3 [sa, sb, sc] tg (.Call (.Name "range" pn) [a, b, d] [] pos) := by
  have e2 := hb.sy.ns [d] c.X.env
  have e3 := hd.sy.ns [] c.X.env
  refine sndi_of (wi := fun ta => iRng3 ta) (.cons ha (.cons hb (.cons hd .nil))) (pi_range3 hg hm pa_wa (ha.sy.ns _ _) (by rw [e2, e3]; rfl)) fun L σ H R h => wa_mono h fun us H1 h => ?_
  obtain ⟨xs, ds, q, h1, h2, h3, h4⟩ := h
  subst h3
  unfold itemsOf at h2
  split at h2 <;> (try cases h2) <;> (try (rename_i h0; cases h0; done))
  rename_i n1 n2 n3 _
  split at h2
  · rename_i hb
    cases h2
    obtain ⟨u, u', u2, rfl, hu, hu', hu2⟩ := paired3 h1
    obtain ⟨hc, hb⟩ := hb
    subst hc
    obtain ⟨b1, b2⟩ := b62 hb.1
    obtain ⟨b3, b4⟩ := b62 hb.2
    exact ⟨n1, n2, -1, (n1 - n2).toNat, by rw [hu.1 n1 rfl, hu'.1 n2 rfl, hu2.1 _ rfl], RgC.neg b1 b2 b3 b4, h4 _ _ (wlk_down n1 _) (fun _ {_ _ _ _ _ _ _ _} _ _ _ _ => True.intro) True.intro⟩
  · cases h2
theorem sndi_enum {elts : List Expr} {kk : Nat} {tpos : Pos} (hg : Gl c.X "enumerate") (hm : c.X.mg "enumerate" = none) (ha : Snd c sa a) : SndI c .enum [sa] (.Tuple elts kk tpos) (.Call (.Name "enumerate" pn) [a] [] pos) := by
  refine sndi_of (wi := fun ta => iEnumA c.X.K ta) (.cons ha .nil) (pi_enumA hg hm pa_wa (ha.sy.ns [] c.X.env)) fun L σ H R h => wa_mono h fun us H1 h => ?_
  obtain ⟨xs, ds, q, h1, h2, h3, h4⟩ := h
  subst h3
  unfold itemsOf at h2
  split at h2 <;> (try cases h2) <;> (try (rename_i h0; cases h0; done))
  rename_i x _
  cases hs : seqOf x with
  | none => rw [hs] at h2; cases h2
  | some es =>
    rw [hs] at h2
    cases h2
    obtain ⟨u, rfl, hu⟩ := paired1 h1
    obtain ⟨a', e3, e4⟩ := hu.2 es hs
    rcases e4 with ⟨_, e4⟩ | ⟨_, e4⟩
    · obtain ⟨vs, z1, z2⟩ := e4.at
      exact ⟨a', vs, by rw [e3], .inl ⟨z1, h4 _ _ (wlk_enum L a' es) (fun z => SrcL.later z) e4⟩⟩
    · obtain ⟨vs, z1, z2⟩ := id e4
      exact ⟨a', vs, by rw [e3], .inr ⟨z1, h4 _ _ (wlk_enumT a' es) (fun _ => SrcT.later) e4⟩⟩
theorem sndi_zip {elts : List Expr} {kk : Nat} {tpos : Pos} (hg : Gl c.X "zip") (hm : c.X.mg "zip" = none) (ha : Snd c sa a) (hb : Snd c sb b) : SndI c .zip [sa, sb] (.Tuple elts kk tpos) (.Call (.Name "zip" pn) [a, b] [] pos) := by
  have e2 := hb.sy.ns [] c.X.env
  refine sndi_of (wi := fun ta => RZ.iZipA c.X.K ta) (.cons ha (.cons hb .nil)) (RZ.pi_zipA hg hm pa_wa (ha.sy.ns _ _) (by rw [e2]; rfl)) fun L σ H R h => wa_mono h fun us H1 h => ?_
  obtain ⟨xs, ds, q, h1, h2, h3, h4⟩ := h
  subst h3
  unfold itemsOf at h2
  split at h2 <;> (try cases h2) <;> (try (rename_i h0; cases h0; done))
  · rename_i x y _
    obtain ⟨u, u', rfl, hu, hu'⟩ := paired2 h1
    obtain ⟨a', e3, e4⟩ := hu.2 x rfl
    obtain ⟨b', e5, e6⟩ := hu'.2 y rfl
    rcases e4 with ⟨_, e4⟩ | ⟨z, _⟩
    · rcases e6 with ⟨_, e6⟩ | ⟨z, _⟩
      · obtain ⟨vs, z1, z2⟩ := e4.at
        obtain ⟨ws, z3, z4⟩ := e6.at
        exact ⟨a', b', vs, ws, by rw [e3, e5], .inl ⟨z1, z3, h4 _ _ (wlk_zip L a' b' x y) (fun z {_ _ _ _ _ _ _ _} s s' x h => ⟨SrcL.later z s s' x h.1, SrcL.later z s s' x h.2⟩) ⟨e4, e6⟩⟩⟩
      · cases z
    · cases z
  · rename_i x y _
    obtain ⟨u, u', rfl, hu, hu'⟩ := paired2 h1
    obtain ⟨a', e3, e4⟩ := hu.2 x rfl
    obtain ⟨b', e5, e6⟩ := hu'.2 y rfl
    rcases e4 with ⟨z, _⟩ | ⟨_, e4⟩
    · cases z
    · rcases e6 with ⟨z, _⟩ | ⟨_, e6⟩
      · cases z
      · obtain ⟨vs, z1, z2⟩ := id e4
        obtain ⟨ws, z3, z4⟩ := id e6
        exact ⟨a', b', vs, ws, by rw [e3, e5], .inr ⟨z1, z3, h4 _ _ (wlk_zipT a' b' x y) (fun _ {_ _ _ _ _ _ _ _} s s' x h => ⟨SrcT.later s s' x h.1, SrcT.later s s' x h.2⟩) ⟨e4, e6⟩⟩⟩
end
end Pv

/-! PvS6: targets; list comprehensions. -/
namespace Pv
open PySem PySem.Spec PyProof.Rows L2

/-! ### targets -/
def LocF (X : Cx) (x : Str) : Prop := Loc X.env.scope x ∧ (X.fn x = true ∨ X.env.scope.names.lookup x = some .local)
mutual
inductive TgOk (X : Cx) : Tg → Expr → Prop
  | v {i : Nat} {x : Str} {pos : Pos} : X.N[i]? = some x → LocF X x → TgOk X (.v i) (.Name x pos)
  | t {ts : List Tg} {es : List Expr} {k : Nat} {pos : Pos} : TgOks X ts es → TgOk X (.t ts) (.Tuple es k pos)
inductive TgOks (X : Cx) : List Tg → List Expr → Prop
  | nil : TgOks X [] []
  | cons {t : Tg} {e : Expr} {ts : List Tg} {es : List Expr} : TgOk X t e → TgOks X ts es → TgOks X (t :: ts) (e :: es)
end
mutual
def tgSlots : Tg → List Nat
  | .v i => [i]
  | .t ts => tgSlotss ts
def tgSlotss : List Tg → List Nat
  | [] => []
  | t :: ts => tgSlots t ++ tgSlotss ts
end
mutual
def tgG (K : PySem.W.Frag) : Tg → TG
  | .v i => gName i
  | .t ts => gTup K ts.length (tgGs K ts)
def tgGs (K : PySem.W.Frag) : List Tg → TGs
  | [] => gNil
  | t :: ts => gCons (tgG K t) (tgGs K ts)
end
theorem tgOks_each {X : Cx} {env : PySem.Env} : ∀ {ts : List Tg} {es : List Expr}, TgOks X ts es → (assignEach es env).length = ts.length ∧ (assignEach es env).findIdx? (·.1) = none ∧ (assignEach es env).map (·.2) = es.map fun e => assign e env
  | [], _, h => by cases h; exact ⟨rfl, rfl, rfl⟩
  | t :: ts, _, h => by
    cases h with
    | cons a b =>
      obtain ⟨h1, h2, h3⟩ := tgOks_each (env := env) b
      cases a with
      | v _ _ =>
        refine ⟨congrArg Nat.succ h1, ?_, ?_⟩
        · unfold assignEach; rw [List.findIdx?_cons]; simp [h2]
        · unfold assignEach; rw [List.map_cons, h3]; rfl
      | t _ =>
        refine ⟨congrArg Nat.succ h1, ?_, ?_⟩
        · unfold assignEach; rw [List.findIdx?_cons]; simp [h2]
        · unfold assignEach; rw [List.map_cons, h3]; rfl
theorem tgOk_head {X : Cx} {t : Tg} {e : Expr} (a : TgOk X t e) (es : List Expr) (env : PySem.Env) : (assignEach (e :: es) env).map (·.2) = assign e env :: (assignEach es env).map (·.2) := by cases a <;> rfl
mutual
theorem tg_pg {X : Cx} (hc : X.calm = true) (hN : X.N.Nodup) : ∀ {t : Tg} {e : Expr}, TgOk X t e → PG X e (tgG X.K t)
  | .v i, _, h => by
    cases h with
    | v h1 h2 => exact pg_name hN h1 h2.1 h2.2
  | .t ts, _, h => by
    cases h with
    | t h =>
      obtain ⟨h1, h2, _⟩ := tgOks_each (env := X.env) h
      unfold tgG
      exact pg_tup hc (tgs_pg hc hN h) h1 h2
theorem tgs_pg {X : Cx} (hc : X.calm = true) (hN : X.N.Nodup) : ∀ {ts : List Tg} {es : List Expr}, TgOks X ts es → PGs X es (tgGs X.K ts)
  | [], _, h => by cases h; exact pgs_nil
  | t :: ts, _, h => by
    cases h with
    | cons a b => unfold tgGs; exact pgs_cons (tg_pg hc hN a) (tgs_pg hc hN b) (tgOk_head a _ _)
end
/-- a target has taken data: what has changed -/
structure TgR (K : PySem.W.Frag) (H : Hp) (W : Addr → Prop) (S : List Nat) (σ : L2.St) (e : Slots) (σ' : L2.St) (e' : Slots) : Prop where
  ls : σ'.length = σ.length
  le : e'.length = e.length
  ix : ∀ i : Nat, (e'[i]? = e[i]? ∧ σ'[i]? = σ[i]?) ∨ (i ∈ S ∧ ∃ x u, e'[i]? = some (some (.d x)) ∧ σ'[i]? = some (some u) ∧ Dq K H W u x)
section
variable {M : Mo} {K : PySem.W.Frag} {B : Bs} {H : Hp} {W : Addr → Prop} {μ : List Addr} {S : List Nat} {σ σ' σ2 : L2.St} {e e' e2 : Slots} {m : Cels}
theorem TgR.refl : TgR K H W S σ e σ e := ⟨rfl, rfl, fun i => .inl ⟨rfl, rfl⟩⟩
theorem TgR.trans {S1 S2 : List Nat} (a : TgR K H W S1 σ e σ' e') (b : TgR K H W S2 σ' e' σ2 e2) : TgR K H W (S1 ++ S2) σ e σ2 e2 := by
  refine ⟨b.ls.trans a.ls, b.le.trans a.le, fun i => ?_⟩
  rcases b.ix i with ⟨h1, h2⟩ | ⟨h, r⟩
  · rcases a.ix i with ⟨h3, h4⟩ | ⟨h, x, u, h3, h4, h5⟩
    · exact .inl ⟨h1.trans h3, h2.trans h4⟩
    · exact .inr ⟨List.mem_append_left _ h, x, u, h1.trans h3, h2.trans h4, h5⟩
  · exact .inr ⟨List.mem_append_right _ h, r⟩
mutual
theorem tg_run : ∀ {t : Tg} {u : V} {x : D} {σ : L2.St} {e e' : Slots} {Q : L2.St → Hp → Prop}, e.length = σ.length → Dq K H W u x → bindT t (.d x) e = some e' → (∀ σ', TgR K H W (tgSlots t) σ e σ' e' → Q σ' H) → tgG K t u σ H Q
  | .v i, u, x, σ, e, e', Q, hl, hd, hb, hq => by
    unfold bindT at hb
    split at hb
    · rename_i hi
      cases hb
      refine hq _ ⟨List.length_set, List.length_set, fun j => ?_⟩
      by_cases hj : j = i
      · subst hj
        exact .inr ⟨by simp [tgSlots], x, u, List.getElem?_set_self hi, List.getElem?_set_self (by omega), hd⟩
      · exact .inl ⟨List.getElem?_set_ne (Ne.symm hj), List.getElem?_set_ne (Ne.symm hj)⟩
    · cases hb
  | .t ts, u, x, σ, e, e', Q, hl, hd, hb, hq => by
    unfold bindT at hb
    split at hb
    · rename_i xs hx
      cases hx
      cases hd with
      | tup h1 h2 =>
        unfold tgG
        refine ⟨_, _, rfl, h1, ?_, tgs_run hl h2 hb fun σ' h => hq σ' ?_⟩
        · rw [h2.length]
          exact (tgs_len hb).symm
        · unfold tgSlots; exact h
    · cases hb
theorem tgs_run : ∀ {ts : List Tg} {us : List V} {xs : List D} {σ : L2.St} {e e' : Slots} {Q : L2.St → Hp → Prop}, e.length = σ.length → DqAll K H W us xs → bindTs ts xs e = some e' → (∀ σ', TgR K H W (tgSlotss ts) σ e σ' e' → Q σ' H) → tgGs K ts us σ H Q
  | [], us, xs, σ, e, e', Q, hl, hd, hb, hq => by
    cases xs with
    | nil =>
      cases hd
      unfold bindTs at hb
      cases hb
      exact ⟨rfl, hq σ .refl⟩
    | cons _ _ => unfold bindTs at hb; cases hb
  | t :: ts, us, xs, σ, e, e', Q, hl, hd, hb, hq => by
    cases xs with
    | nil => unfold bindTs at hb; cases hb
    | cons x xs =>
      cases hd with
      | cons a b =>
        unfold bindTs at hb
        cases h1 : bindT t (.d x) e with
        | none => rw [h1] at hb; cases hb
        | some e1 =>
          rw [h1] at hb
          unfold tgGs
          refine ⟨_, _, rfl, tg_run hl a h1 fun σ1 r1 => tgs_run (by rw [r1.le, r1.ls]; exact hl) b hb fun σ2 r2 => hq σ2 ?_⟩
          unfold tgSlotss
          exact r1.trans r2
theorem tgs_len : ∀ {ts : List Tg} {xs : List D} {e e' : Slots}, bindTs ts xs e = some e' → ts.length = xs.length
  | [], [], _, _, _ => rfl
  | [], _ :: _, _, _, h => by unfold bindTs at h; cases h
  | _ :: _, [], _, _, h => by unfold bindTs at h; cases h
  | t :: ts, x :: xs, e, e', h => by
    unfold bindTs at h
    cases h1 : bindT t (.d x) e with
    | none => rw [h1] at h; cases h
    | some e1 =>
      rw [h1] at h
      rw [List.length_cons, List.length_cons, tgs_len h]
end
theorem TgR.ownS (t : TgR K H W S σ e σ' e') {a : Addr} (h : OwnS e' σ' a) : OwnS e σ a := by
  obtain ⟨i, xs, h1, h2⟩ := h
  rcases t.ix i with ⟨h3, h4⟩ | ⟨_, x, u, h3, _⟩
  · exact ⟨i, xs, h3 ▸ h1, h4 ▸ h2⟩
  · rw [h3] at h1; cases h1
theorem SR.tg (s : SR M K B σ H W μ e m) (t : TgR K H W S σ e σ' e') : SR M K B σ' H W μ e' m := by
  refine ⟨s.st, s.keep, s.bt, s.bw, s.wb, s.pre, s.new, by rw [t.le, t.ls]; exact s.len, fun i v h => ?_, fun a h => s.own a (t.ownS h), fun i j xs ys a hij h1 h2 h3 h4 => ?_⟩
  · rcases t.ix i with ⟨h3, h4⟩ | ⟨_, x, u, h3, h4, h5⟩
    · rw [h3] at h
      obtain ⟨u, h5, h6⟩ := s.env i v h
      exact ⟨u, h4.trans h5, h6⟩
    · rw [h3] at h
      cases h
      exact ⟨u, h4, h5⟩
  · have no : ∀ {k : Nat} {zs : List D}, e'[k]? = some (some (.own zs)) → e'[k]? = e[k]? ∧ σ'[k]? = σ[k]? := fun {k zs} h => by
      rcases t.ix k with h3 | ⟨_, x, u, h3, _⟩
      · exact h3
      · rw [h3] at h; cases h
    obtain ⟨a1, a2⟩ := no h1
    obtain ⟨b1, b2⟩ := no h2
    exact s.dis i j xs ys a hij (a1 ▸ h1) (b1 ▸ h2) (a2 ▸ h3) (b2 ▸ h4)
theorem Ext.tg {H1 : Hp} {W1 : Addr → Prop} {μ1 : List Addr} {e1 : Slots} (t : TgR K H W S σ e σ' e') (x : Ext σ' H W μ e' H1 W1 μ1 e1) : Ext σ H W μ e H1 W1 μ1 e1 :=
  ⟨x.keep, x.there, x.wk, x.pre, x.new, fun a h => (x.wd a h).imp id t.ownS, fun i xs h => by
    have h := x.el i xs h
    rcases t.ix i with ⟨h3, _⟩ | ⟨_, y, u, h3, _⟩
    · rw [h3] at h; exact h
    · rw [h3] at h; cases h⟩

/-! ### a comprehension's own slots -/
theorem wipe_at {σ : L2.St} : ∀ {vs : List Nat} {i : Nat}, (wipe σ vs)[i]? = if i ∈ vs ∧ i < σ.length then some none else σ[i]?
  | [], i => by simp [wipe]
  | v :: vs, i => by
    unfold wipe
    by_cases h : v = i
    · subst h
      by_cases hl : v < σ.length
      · rw [List.getElem?_set_self (by rw [wipe_length]; exact hl), if_pos ⟨List.mem_cons_self, hl⟩]
      · rw [if_neg (fun z => hl z.2), List.getElem?_eq_none (by rw [List.length_set, wipe_length]; omega), List.getElem?_eq_none (by omega)]
    · rw [List.getElem?_set_ne h, wipe_at (vs := vs)]
      have : (i ∈ v :: vs) ↔ i ∈ vs := by
        rw [List.mem_cons]
        exact ⟨fun z => z.resolve_left fun z => h z.symm, .inr⟩
      simp only [this]
theorem wipeE_length (e : Slots) : ∀ vs : List Nat, (wipeE e vs).length = e.length
  | [] => rfl
  | v :: vs => by unfold wipeE; rw [List.length_set, wipeE_length e vs]
theorem wipeE_at {e : Slots} : ∀ {vs : List Nat} {i : Nat}, (wipeE e vs)[i]? = if i ∈ vs ∧ i < e.length then some none else e[i]?
  | [], i => by simp [wipeE]
  | v :: vs, i => by
    unfold wipeE
    by_cases h : v = i
    · subst h
      by_cases hl : v < e.length
      · rw [List.getElem?_set_self (by rw [wipeE_length]; exact hl), if_pos ⟨List.mem_cons_self, hl⟩]
      · rw [if_neg (fun z => hl z.2), List.getElem?_eq_none (by rw [List.length_set, wipeE_length]; omega), List.getElem?_eq_none (by omega)]
    · rw [List.getElem?_set_ne h, wipeE_at (vs := vs)]
      have : (i ∈ v :: vs) ↔ i ∈ vs := by
        rw [List.mem_cons]
        exact ⟨fun z => z.resolve_left fun z => h z.symm, .inr⟩
      simp only [this]
theorem restoreE_length (e old : Slots) : ∀ vs : List Nat, (restoreE e old vs).length = e.length
  | [] => rfl
  | v :: vs => by unfold restoreE; rw [List.length_set, restoreE_length e old vs]
theorem restoreE_at {e old : Slots} : ∀ {vs : List Nat} {i : Nat}, (restoreE e old vs)[i]? = if i ∈ vs ∧ i < e.length then some (old[i]?.getD none) else e[i]?
  | [], i => by simp [restoreE]
  | v :: vs, i => by
    unfold restoreE
    by_cases h : v = i
    · subst h
      by_cases hl : v < e.length
      · rw [List.getElem?_set_self (by rw [restoreE_length]; exact hl), if_pos ⟨List.mem_cons_self, hl⟩]
      · rw [if_neg (fun z => hl z.2), List.getElem?_eq_none (by rw [List.length_set, restoreE_length]; omega), List.getElem?_eq_none (by omega)]
    · rw [List.getElem?_set_ne h, restoreE_at (vs := vs)]
      have : (i ∈ v :: vs) ↔ i ∈ vs := by
        rw [List.mem_cons]
        exact ⟨fun z => z.resolve_left fun z => h z.symm, .inr⟩
      simp only [this]
theorem wipeE_some {vs : List Nat} {i : Nat} {v : Vl} (h : (wipeE e vs)[i]? = some (some v)) : e[i]? = some (some v) ∧ ¬ (i ∈ vs ∧ i < e.length) := by
  rw [wipeE_at] at h
  split at h
  · cases h
  · exact ⟨h, by assumption⟩
theorem wipe_off {vs : List Nat} {i : Nat} (hl : e.length = σ.length) (h : ¬ (i ∈ vs ∧ i < e.length)) : (wipe σ vs)[i]? = σ[i]? := by
  rw [wipe_at, if_neg (by rw [← hl]; exact h)]
theorem ownS_wipe {vs : List Nat} {a : Addr} (hl : e.length = σ.length) (h : OwnS (wipeE e vs) (wipe σ vs) a) : OwnS e σ a := by
  obtain ⟨i, xs, h1, h2⟩ := h
  obtain ⟨h3, h4⟩ := wipeE_some h1
  rw [wipe_off hl h4] at h2
  exact ⟨i, xs, h3, h2⟩
theorem SR.wiped {vs : List Nat} (s : SR M K B σ H W μ e m) : SR M K B (wipe σ vs) H W μ (wipeE e vs) m := by
  refine ⟨s.st, s.keep, s.bt, s.bw, s.wb, s.pre, s.new, by rw [wipeE_length, wipe_length]; exact s.len, fun i v h => ?_, fun a h => s.own a (ownS_wipe s.len h), fun i j xs ys a hij h1 h2 h3 h4 => ?_⟩
  · obtain ⟨h3, h4⟩ := wipeE_some h
    obtain ⟨u, h5, h6⟩ := s.env i v h3
    exact ⟨u, by rw [wipe_off s.len h4]; exact h5, h6⟩
  · obtain ⟨a1, a2⟩ := wipeE_some h1
    obtain ⟨b1, b2⟩ := wipeE_some h2
    rw [wipe_off s.len a2] at h3
    rw [wipe_off s.len b2] at h4
    exact s.dis i j xs ys a hij a1 b1 h3 h4
/-- behind a comprehension: the slots as they were -/
theorem SR.restore {vs : List Nat} {H1 : Hp} {W1 : Addr → Prop} {μ1 : List Addr} {e1 : Slots} {m1 : Cels} (s : SR M K B σ H W μ e m) (s1 : SR M K B (wipe σ vs) H1 W1 μ1 e1 m1) (x : Ext (wipe σ vs) H W μ (wipeE e vs) H1 W1 μ1 e1) :
    SR M K B σ H1 W1 μ1 (restoreE e1 e vs) m1 ∧ Ext σ H W μ e H1 W1 μ1 (restoreE e1 e vs) := by
  have len1 : e1.length = e.length := by rw [s1.len, wipe_length, s.len]
  have off : ∀ {i : Nat} {v : Vl}, (restoreE e1 e vs)[i]? = some (some v) → (i ∈ vs ∧ e[i]? = some (some v)) ∨ (¬ (i ∈ vs ∧ i < e.length) ∧ e1[i]? = some (some v) ∧ (wipe σ vs)[i]? = σ[i]?) := fun {i v} h => by
    rw [restoreE_at] at h
    split at h
    · rename_i hi
      refine .inl ⟨hi.1, ?_⟩
      cases q : e[i]? with
      | none => rw [q] at h; cases h
      | some z => rw [q] at h; exact h
    · rename_i hi
      rw [len1] at hi
      exact .inr ⟨hi, h, wipe_off s.len hi⟩
  have own1 : ∀ {i : Nat} {xs : List D}, ¬ (i ∈ vs ∧ i < e.length) → e1[i]? = some (some (.own xs)) → e[i]? = some (some (.own xs)) := fun {i xs} hi h => (wipeE_some (x.el i xs h)).1
  have back : ∀ {a : Addr}, OwnS (restoreE e1 e vs) σ a → OwnS e σ a := fun {a} ⟨i, xs, h1, h2⟩ => by
    rcases off h1 with ⟨_, h3⟩ | ⟨h3, h4, h5⟩
    · exact ⟨i, xs, h3, h2⟩
    · exact ⟨i, xs, own1 h3 h4, h2⟩
  have ee : ∀ {i : Nat} {xs : List D}, (restoreE e1 e vs)[i]? = some (some (.own xs)) → e[i]? = some (some (.own xs)) := fun {i xs} h => by
    rcases off h with ⟨_, h3⟩ | ⟨h3, h4, h5⟩
    · exact h3
    · exact own1 h3 h4
  refine ⟨⟨s1.st, s1.keep, s1.bt, s1.bw, s1.wb, s1.pre, s1.new, by rw [restoreE_length, len1]; exact s.len, fun i v h => ?_, fun a h => ?_, fun i j xs ys a hij h1 h2 h3 h4 => s.dis i j xs ys a hij (ee h1) (ee h2) h3 h4⟩,
    ⟨x.keep, x.there, x.wk, x.pre, x.new, fun a h => (x.wd a h).imp id (ownS_wipe s.len), fun i xs h => ee h⟩⟩
  · rcases off h with ⟨_, h3⟩ | ⟨h3, h4, h5⟩
    · obtain ⟨u, h6, h7⟩ := s.env i v h3
      exact ⟨u, h6, x.lr s.st h7⟩
    · obtain ⟨u, h6, h7⟩ := s1.env i v h4
      exact ⟨u, h5 ▸ h6, h7⟩
  · obtain ⟨i, xs, h1, h2⟩ := h
    rcases off h1 with ⟨hv, h3⟩ | ⟨h3, h4, h5⟩
    · obtain ⟨w1, w2⟩ := s.own a ⟨i, xs, h3, h2⟩
      refine ⟨?_, w2⟩
      rcases x.wd a w1 with z | ⟨j, ys, z1, z2⟩
      · exact z
      · obtain ⟨z3, z4⟩ := wipeE_some z1
        rw [wipe_off s.len z4] at z2
        have hij : i ≠ j := fun q => z4 ⟨q ▸ hv, (List.getElem?_eq_some_iff.mp z3).1⟩
        exact (s.dis i j xs ys a hij h3 z3 h2 z2).elim
    · exact s1.own a ⟨i, xs, h4, h5.symm ▸ h2⟩
/-- a fresh thing is written -/
theorem SR.wr {Dd : Addr} {vs vs' : List V} (s : SR M K B σ H W μ e m) (hw : W Dd) (hn : B.H Dd = none) (hμ : Dd ∉ μ) (ho : ¬ OwnS e σ Dd) (hd : H Dd = some (.lst vs)) : SR M K B σ (upd H Dd (.lst vs')) W μ e m := by
  have kk : ∀ a o, H a = some o → ¬ W a → upd H Dd (.lst vs') a = some o := fun a o h n => by
    rw [upd_ne (fun z => n (by rw [z]; exact hw))]; exact h
  refine ⟨⟨fun a h => ?_, s.st.μw, s.st.nd, ?_⟩, fun a o h n => ?_, fun a h z => ?_, s.bw, s.wb, s.pre, s.new, s.len, fun i v h => ?_, s.own, s.dis⟩
  · by_cases ha : a = Dd
    · subst ha; exact ⟨_, upd_same, True.intro⟩
    · obtain ⟨o, h1, h2⟩ := s.st.wok a h
      exact ⟨o, by rw [upd_ne ha]; exact h1, h2⟩
  · have go : ∀ {l1 : List Addr} {l2 : List Cel}, (∀ a ∈ l1, a ∈ μ) → Paired (CelR M K H W) l1 l2 → Paired (CelR M K (upd H Dd (.lst vs')) W) l1 l2 := by
      intro l1 l2 hm hp
      induction hp with
      | nil => exact .nil
      | @cons a c l1 l2 hd tl ih =>
        refine .cons ?_ (ih fun b hb => hm b (List.mem_cons_of_mem _ hb))
        exact CelR.keep s.st.wok kk (fun _ _ z => z) (fun o e => by rw [upd_ne (fun z => hμ (by rw [← z]; exact hm a List.mem_cons_self))]; exact e) hd
    exact go (fun _ h => h) s.st.cel
  · rw [upd_ne (fun z => by subst z; rw [hn] at h; cases h)]
    exact s.keep a o h n
  · by_cases ha : a = Dd
    · subst ha; rw [upd_same] at z; cases z
    · rw [upd_ne ha] at z; exact s.bt a h z
  · obtain ⟨u, h1, h2⟩ := s.env i v h
    refine ⟨u, h1, ?_⟩
    cases v with
    | d x => exact Dq.keep s.st.wok kk (fun _ _ z => z) h2
    | own xs =>
      obtain ⟨a, us, h3, h4, h5, h6⟩ := h2
      subst h3
      exact ⟨a, us, rfl, by rw [upd_ne (fun z => ho ⟨i, xs, h, by rw [← z]; exact h1⟩)]; exact h4, DqAll.keep s.st.wok kk (fun _ _ z => z) h5, h6⟩
    | cell k => exact h2
theorem Ext.wr {Dd : Addr} {o : HO} {H1 : Hp} {W1 : Addr → Prop} {μ1 : List Addr} {e1 : Slots} (x : Ext σ H W μ e H1 W1 μ1 e1) (hn : H Dd = none) : Ext σ H W μ e (upd H1 Dd o) W1 μ1 e1 :=
  ⟨fun a o' h n => by rw [upd_ne (fun z => by subst z; rw [hn] at h; cases h)]; exact x.keep a o' h n, fun a h z => by
    by_cases ha : a = Dd
    · subst ha; exact h hn
    · rw [upd_ne ha] at z; exact x.there a h z, x.wk, x.pre, x.new, x.wd, x.el⟩
theorem Ext.wiped {vs : List Nat} {H1 : Hp} {W1 : Addr → Prop} {μ1 : List Addr} {e1 : Slots} (x : Ext σ H W μ e H1 W1 μ1 e1) : Ext σ H W μ e H1 W1 μ1 (wipeE e1 vs) :=
  ⟨x.keep, x.there, x.wk, x.pre, x.new, x.wd, fun i xs h => x.el i xs (wipeE_some h).1⟩
end
theorem wipe_tg {K : PySem.W.Frag} {H : Hp} {W : Addr → Prop} {S vs : List Nat} {σ σ' : L2.St} {e e' : Slots} (t : TgR K H W S (wipe σ vs) e σ' e') (hS : ∀ i ∈ S, i ∈ vs) : wipe σ' vs = wipe σ vs := by
  apply List.ext_getElem?
  intro i
  rw [wipe_at, wipe_at]
  have hl : σ'.length = σ.length := by rw [t.ls, wipe_length]
  rw [hl]
  by_cases hi : i ∈ vs ∧ i < σ.length
  · rw [if_pos hi, if_pos hi]
  · rw [if_neg hi, if_neg hi]
    rcases t.ix i with ⟨_, h⟩ | ⟨h, x, u, _, h2, _⟩
    · rw [h, wipe_at, if_neg hi]
    · exfalso
      apply hi
      refine ⟨hS i h, ?_⟩
      have := (List.getElem?_eq_some_iff.mp h2).1
      omega
end Pv

/-! PvS7: list comprehensions. -/
namespace Pv
open PySem PySem.Spec PyProof.Rows L2

/-- where a comprehension's block stands -/
def Cn.blk (c : Cn) (scope : Scope) (s : Shared) (H : Hp) (C : Addr) (cl : List (Str × Addr)) (fp : List Addr) : Cn := ⟨c.M, c.X.blk s H scope (compEnvC scope cl C c.X.env) fp, c.B, fun _ _ _ _ => False⟩
def AllB (c : Cn) (scope : Scope) (P : Cn → Prop) : Prop := ∀ s H C cl fp, P (c.blk scope s H C cl fp)
/-- a clause's tests -/
def CondOk (c : Cn) (scope : Scope) (sc : Sm) (ifs : List Expr) : Prop := (ifs = [] ∧ sc.om = true) ∨ ∃ cnd, ifs = [cnd] ∧ isIf cnd = false ∧ sc.om = false ∧ AllB c scope fun c' => Snd c' sc cnd
section
variable {c : Cn} {scope : Scope}
theorem cond_run {sc : Sm} {ifs : List Expr} (h : CondOk c scope sc ifs) : ∃ tt : TT, (∀ (s : Shared) (H : Hp) (C : Addr) (cl : List (Str × Addr)) (fp : List Addr), PTs (c.X.blk s H scope (compEnvC scope cl C c.X.env) fp) ifs tt) ∧
    ∀ (σ : L2.St) (p : Po) (e : Slots) (m : Cels) (b : Bool) (e' : Slots) (m' : Cels) (Q : Bool → Hp → Prop), Sr c σ p e m → sc.c e m = .ok b e' m' → (∀ q, Sr c σ q e' m' → Ex σ p e q e' → Q b q.H) → tt σ p.H Q := by
  rcases h with ⟨rfl, ho⟩ | ⟨cnd, rfl, hif, ho, hs⟩
  · refine ⟨tYes, fun _ _ _ _ _ => pts_nil, fun σ p e m b e' m' Q s hb hq => ?_⟩
    unfold Sm.c at hb
    rw [ho] at hb
    cases hb
    exact hq p s Ext.refl
  · refine ⟨fun σ H Q => ∀ (s : Shared) (H0 : Hp) (C : Addr) (cl : List (Str × Addr)) (fp : List Addr), WT (c.blk scope s H0 C cl fp).X cnd σ H Q, fun s H0 C cl fp => pts_one ⟨fun pins st σ H Q I h => h s H0 C cl fp pins st I⟩, fun σ p e m b e' m' Q s hb hq s0 H0 C cl fp => ?_⟩
    unfold Sm.c at hb
    rw [ho] at hb
    have hb : sc.t e m = .ok b e' m' := hb
    refine (hs s0 H0 C cl fp).t hif σ p e m Q s ?_
    rw [hb]
    intro b' q s1 x1 rb
    subst rb
    exact hq q s1 x1
/-- .. and what is kept of each turn -/
theorem elt_run {se : Sm} {elt : Expr} (hs : AllB c scope fun c' => Snd c' se elt) : ∃ te : TE, (∀ (s : Shared) (H : Hp) (C : Addr) (cl : List (Str × Addr)) (fp : List Addr), PE (c.X.blk s H scope (compEnvC scope cl C c.X.env) fp) elt te) ∧
    ∀ (σ : L2.St) (p : Po) (e : Slots) (m : Cels) (v : Vl) (e' : Slots) (m' : Cels) (Q : VK), Sr c σ p e m → se.g e m = .ok v e' m' → (∀ u q, Sr c σ q e' m' → Ex σ p e q e' → RV c σ false p v u q e' → Q u q.H) → te σ p.H Q := by
  refine ⟨fun σ H Q => ∀ (s : Shared) (H0 : Hp) (C : Addr) (cl : List (Str × Addr)) (fp : List Addr), WE (c.blk scope s H0 C cl fp).X elt σ H Q, fun s H0 C cl fp => ⟨fun pins st σ H Q I h => h s H0 C cl fp pins st I⟩, fun σ p e m v e' m' Q s hv hq s0 H0 C cl fp => ?_⟩
  refine snd_g (hs s0 H0 C cl fp) (m := m) (e := e) (p := p) s ?_
  rw [hv]
  exact fun u q s1 x1 r1 => hq u q s1 x1 r1
theorem lc_bind {α : Type} {turn : D → Slots → Cels → Res (Option D)} {d : D} {ds acc : List D} {e : Slots} {m : Cels} {k : List D → Slots → Cels → Res α} {P : Res α → Prop} (hp : P ((compL turn (d :: ds) acc e m).bind k)) (hno : ¬ P .stuck) :
    (∃ y e' m', turn d e m = .ok (some y) e' m' ∧ acc.length < lim ∧ P ((compL turn ds (acc ++ [y]) e' m').bind k)) ∨ (∃ e' m', turn d e m = .ok none e' m' ∧ P ((compL turn ds acc e' m').bind k)) := by
  unfold compL at hp
  split at hp
  · rename_i y e' m' h
    split at hp
    · rename_i hl
      exact .inl ⟨y, e', m', h, hl, hp⟩
    · exact (hno hp).elim
  · rename_i e' m' h
    exact .inr ⟨e', m', h, hp⟩
  · exact (hno hp).elim
/-- a turn that comes to something -/
theorem turn_ok {tg : Tg} {own : List Nat} {cond elt : Sm} {d : D} {e : Slots} {m : Cels} {r : Option D} {e' : Slots} {m' : Cels} (h : turnC tg own cond elt d e m = .ok r e' m') :
    ∃ e1 b e2 m2, bindT tg (.d d) e = some e1 ∧ cond.c e1 m = .ok b e2 m2 ∧ ((b = false ∧ r = none ∧ e' = wipeE e2 own ∧ m' = m2) ∨ (b = true ∧ ∃ v e3 y, elt.g e2 m2 = .ok v e3 m' ∧ frz v = some y ∧ r = some y ∧ e' = wipeE e3 own)) := by
  unfold turnC at h
  cases h1 : bindT tg (.d d) e with
  | none => rw [h1] at h; cases h
  | some e1 =>
    rw [h1] at h
    dsimp only at h
    cases h2 : cond.c e1 m with
    | stuck => rw [h2] at h; cases h
    | exc _ _ _ _ => rw [h2] at h; cases h
    | ok b e2 m2 =>
      rw [h2, Res.bind_ok] at h
      refine ⟨e1, b, e2, m2, rfl, h2, ?_⟩
      cases b with
      | false =>
        cases h
        exact .inl ⟨rfl, rfl, rfl, rfl⟩
      | true =>
        dsimp only at h
        cases h3 : elt.g e2 m2 with
        | stuck => rw [h3] at h; cases h
        | exc _ _ _ _ => rw [h3] at h; cases h
        | ok v e3 m3 =>
          rw [h3, Res.bind_ok] at h
          cases h4 : frz v with
          | none => rw [h4] at h; cases h
          | some y =>
            rw [h4] at h
            cases h
            exact .inr ⟨rfl, v, e3, y, rfl, h4, rfl, rfl⟩
/-- what stays true through the turns; Dd: the new list -/
structure Turning (c : Cn) (σ : L2.St) (vs : List Nat) (q : Po) (e1 : Slots) (Dd : Addr) (acc : List D) (H : Hp) (W : Addr → Prop) (μ : List Addr) (e : Slots) (m : Cels) : Prop where
  s : SR c.M c.X.K c.B (wipe σ vs) H W μ e m
  x : Ext (wipe σ vs) q.H q.W q.μ (wipeE e1 vs) H W μ e
  w : W Dd
  μn : Dd ∉ μ
  no : ¬ OwnS e (wipe σ vs) Dd
  at_ : ∃ accV, H Dd = some (.lst accV) ∧ DqAll c.X.K H W accV acc
theorem comp_run {k : IK} {ss : List Sm} {tgE iter elt : Expr} {own : List (Str × Nat)} {tg : Tg} {scond se : Sm} {ifs : List Expr} (hi : SndI c k ss tgE iter) (hS : ∀ i ∈ tgSlots tg, i ∈ own.map (·.2)) (hcond : CondOk c scope scond ifs) (helt : AllB c scope fun c' => Snd c' se elt) :
    ∃ (wi : TI) (tt : TT) (te : TE), PI c.X tgE iter wi ∧ (∀ (s : Shared) (H : Hp) (C : Addr) (cl : List (Str × Addr)) (fp : List Addr), PTs (c.X.blk s H scope (compEnvC scope cl C c.X.env) fp) ifs tt) ∧
      (∀ (s : Shared) (H : Hp) (C : Addr) (cl : List (Str × Addr)) (fp : List Addr), PE (c.X.blk s H scope (compEnvC scope cl C c.X.env) fp) elt te) ∧
      ∀ (σ : L2.St) (p : Po) (e : Slots) (m : Cels) (Q : VK), Sr c σ p e m → Post c σ p e (RV c σ false p) (compV tg (own.map (·.2)) k ss scond se e m) Q → tLc wi (tgG c.X.K tg) tt te (own.map (·.2)) σ p.H Q := by
  obtain ⟨wi, hpi, hv, _⟩ := hi
  obtain ⟨tt, htt, rtt⟩ := cond_run hcond
  obtain ⟨te, hte, rte⟩ := elt_run helt
  refine ⟨wi, tt, te, hpi, htt, hte, fun σ p e m Q s0 hp => ?_⟩
  generalize hvs : own.map (·.2) = vs at hp hS ⊢
  refine hv σ p e m _ s0 (Post.bind hp fun items e1 m1 hp J q s1 x1 r1 => ?_)
  obtain ⟨F, wlk, _, hF⟩ := r1
  intro Dd hD
  let P : Res Vl → Prop := fun r => Post c σ p e (RV c σ false p) r Q
  let rest : List D → List D → Slots → Cels → Res Vl := fun ds acc e m => (compL (turnC tg vs scond se) ds acc e m).bind fun xs e' m => .ok (.own xs) (restoreE e' e1 vs) m
  let Pv : Nat → Hp → Prop := fun i H => ∃ acc W μ e m, Turning c σ vs q e1 Dd acc H W μ e m ∧ P (rest (items.drop i) acc e m)
  have sw : SR c.M c.X.K c.B (wipe σ vs) q.H q.W q.μ (wipeE e1 vs) m1 := s1.wiped
  have g0 := same_new (o := HO.lst []) hD
  have ge : wipe σ vs = wipe σ vs := rfl
  refine ⟨fun i n H => n = items.length - i ∧ i ≤ items.length ∧ Pv i H, ⟨items.length, by simp, Nat.zero_le _, [], _, q.μ, wipeE e1 vs, m1, ⟨sw.alloc g0 hD upd_same, Ext.alloc g0 hD, .inr rfl, fun z => sw.μt _ z hD, fun z => sw.ownT z hD, [], upd_same, .nil⟩, ?_⟩, ?_⟩
  · rw [List.drop_zero]
    exact hp
  · rintro i n H ⟨rfl, hi, acc, W, μ, ec, mc, T, hP⟩
    have hFc : F H W μ := wlk.keep sw.st T.x hF
    by_cases hlt : i < items.length
    · refine .inr ⟨wlk.go hFc hlt, Pv (i + 1), fun H' p' => ⟨items.length - (i + 1), by omega, rfl, hlt, p'⟩, fun u H' hy => ?_⟩
      have hd : items[i]? = some items[i] := List.getElem?_eq_getElem hlt
      obtain ⟨gg, dq⟩ := wlk.yld T.s.st.wok hFc hd hy
      have hP : P ((compL (turnC tg vs scond se) (items[i] :: items.drop (i + 1)) acc ec mc).bind fun xs e' m => .ok (.own xs) (restoreE e' e1 vs) m) := by
        have : items.drop i = items[i] :: items.drop (i + 1) := List.drop_eq_getElem_cons hlt
        rw [← this]; exact hP
      obtain ⟨accV, hDl, hacc⟩ := T.at_
      have s2 := T.s.grow gg
      have x2 : Ext (wipe σ vs) q.H q.W q.μ (wipeE e1 vs) H' W μ ec := T.x.trans sw.μt (Ext.grow gg)
      have turn : ∀ {r : Option D} {e' : Slots} {m' : Cels}, turnC tg vs scond se items[i] ec mc = .ok r e' m' →
          (∀ accV' Hn Wn μn, Turning c σ vs q e1 Dd (match r with
            | some y => acc ++ [y]
            | none => acc) Hn Wn μn e' m' → Hn Dd = some (.lst accV') → Pv (i + 1) Hn) → (∀ y, r = some y → acc.length < lim) →
          tgG c.X.K tg u (wipe σ vs) H' fun σ2 H2 => wipe σ2 vs = wipe σ vs ∧ tt σ2 H2 fun b H3 =>
            if b = true then te σ2 H3 fun y H4 => ∃ acc, H4 Dd = some (.lst acc) ∧ acc.length < sizeLine ∧ Pv (i + 1) (upd H4 Dd (.lst (acc ++ [y]))) else Pv (i + 1) H3 := by
        intro r e' m' ht hfin hlim
        obtain ⟨eb, b, e3, m3, hb, hcn, hrest⟩ := turn_ok ht
        refine tg_run (W := W) s2.len dq hb fun σ2 tr => ?_
        have hwp : wipe σ2 vs = wipe σ vs := wipe_tg tr hS
        refine ⟨hwp, ?_⟩
        have s3 := s2.tg tr
        refine rtt σ2 ⟨H', W, μ⟩ eb mc b e3 m3 _ s3 hcn fun q3 s4 x4 => ?_
        have x4' : Ext (wipe σ vs) H' W μ ec q3.H q3.W q3.μ e3 := Ext.tg tr x4
        have noD3 : ¬ OwnS e3 σ2 Dd := fun z => T.no (tr.ownS (x4.own z))
        have hD3 : q3.H Dd = some (.lst accV) := x4.keep Dd _ (gg _ _ hDl) T.μn
        have w3 : q3.W Dd := (x4'.wd Dd T.w).resolve_right T.no
        have μ3 : Dd ∉ q3.μ := fun z => by
          rcases x4.new Dd z with z | z
          · exact T.μn z
          · have z : H' Dd = none := z
            rw [gg _ _ hDl] at z; cases z
        have acc3 : DqAll c.X.K q3.H q3.W accV acc := x4.dqs s3.st (hacc.same T.s.st.wok gg)
        rcases hrest with ⟨rfl, rfl, rfl, rfl⟩ | ⟨rfl, v, e5, y, hel, hfz, rfl, rfl⟩
        · rw [if_neg Bool.false_ne_true]
          have s5 := s4.wiped (vs := vs)
          rw [hwp] at s5
          refine hfin accV q3.H q3.W q3.μ ⟨s5, (x2.trans sw.μt x4').wiped, w3, μ3, fun z => noD3 (ownS_wipe s4.len (by rw [hwp]; exact z)), accV, hD3, acc3⟩ hD3
        · rw [if_pos rfl]
          refine rte σ2 q3 e3 m3 v e5 m' _ s4 hel fun uv q5 s5 x5 rv => ?_
          have rl : RL c σ2 q3 [v] [uv] q5 e5 := rl_cons s4 s5 x5 Ext.refl rv rl_nil
          obtain ⟨s6, x6, d6⟩ := rl.give s4 s5 x5 (xs := [y]) (by unfold frzAll; rw [hfz]; rfl)
          have x46 : Ext σ2 H' W μ eb q5.H (fun a => q5.W a ∧ ¬ givenP [uv] [v] a) q5.μ e5 := x4.trans s3.μt x6
          have x7 : Ext (wipe σ vs) q.H q.W q.μ (wipeE e1 vs) q5.H (fun a => q5.W a ∧ ¬ givenP [uv] [v] a) q5.μ e5 := x2.trans sw.μt (Ext.tg tr x46)
          have noD5 : ¬ OwnS e5 σ2 Dd := fun z => noD3 (x6.own z)
          have hD5 : q5.H Dd = some (.lst accV) := x6.keep Dd _ hD3 μ3
          have w5 : q5.W Dd ∧ ¬ givenP [uv] [v] Dd := (x6.wd Dd w3).resolve_right noD3
          have μ5 : Dd ∉ q5.μ := fun z => by
            rcases x6.new Dd z with z | z
            · exact μ3 z
            · rw [hD3] at z; cases z
          have acc5 : DqAll c.X.K q5.H (fun a => q5.W a ∧ ¬ givenP [uv] [v] a) accV acc := x6.dqs s4.st acc3
          have hBn : c.B.H Dd = none := s1.base hD
          refine ⟨accV, hD5, Nat.lt_of_le_of_lt (Nat.le_of_eq acc5.length) (lim_lt (hlim y rfl)), ?_⟩
          have s7 := s6.wr (vs' := accV ++ [uv]) w5 hBn μ5 noD5 hD5
          have s8 := s7.wiped (vs := vs)
          rw [hwp] at s8
          have kk : ∀ a o, q5.H a = some o → ¬ (q5.W a ∧ ¬ givenP [uv] [v] a) → upd q5.H Dd (.lst (accV ++ [uv])) a = some o := fun a o h n => by
            rw [upd_ne (fun z => n (by rw [z]; exact w5))]; exact h
          exact hfin (accV ++ [uv]) _ _ _ ⟨s8, (x7.wr hD).wiped, w5, μ5, fun z => noD5 (ownS_wipe s6.len (by rw [hwp]; exact z)), accV ++ [uv], upd_same, (acc5.append d6).keep s6.st.wok kk (fun _ _ z => z)⟩ upd_same
      rcases lc_bind (P := P) hP (fun z => z) with ⟨y, e', m', ht, hlim, hP'⟩ | ⟨e', m', ht, hP'⟩
      · exact turn ht (fun accV' Hn Wn μn T' _ => ⟨_, Wn, μn, e', m', T', hP'⟩) fun _ _ => hlim
      · exact turn ht (fun accV' Hn Wn μn T' _ => ⟨_, Wn, μn, e', m', T', hP'⟩) fun y z => nomatch z
    · have e0 : i = items.length := by omega
      subst e0
      refine .inl ⟨wlk.stop hFc rfl, ?_⟩
      rw [List.drop_length] at hP
      have hP : Post c σ p e (RV c σ false p) (.ok (.own acc) (restoreE ec e1 vs) mc) Q := hP
      obtain ⟨accV, hDl, hacc⟩ := T.at_
      obtain ⟨s9, x9⟩ := s1.restore T.s T.x
      have xx : Ex σ p e ⟨H, W, μ⟩ (restoreE ec e1 vs) := x1.trans s0.μt x9
      have hpn : p.H Dd = none := Classical.byContradiction fun z => (x1.there Dd z) hD
      refine hP (.ref Dd) ⟨H, W, μ⟩ s9 xx ⟨⟨Dd, accV, rfl, hDl, hacc, T.μn⟩, fun _ => ⟨tmp_of s0 xx (v := .own acc) (fun a h => by cases h; exact hpn) fun xs a _ h => by cases h; exact T.w, fun a h => by cases h; exact hpn⟩⟩
theorem snd_comp (hc : c.X.calm = true) (hN : c.X.N.Nodup) {k : IK} {ss : List Sm} {tgE iter elt : Expr} {own : List (Str × Nat)} {tg : Tg} {scond se : Sm} {ifs : List Expr} {pos : Pos} (hi : SndI c k ss tgE iter) (hfs : ∀ x, foldedSetIterable iter c.X.env x = pure x)
    (ok : BlkOk c.X.N c.X.env.scope scope own) (ht : AllB c scope fun c' => TgOk c'.X tg tgE) (hS : ∀ i ∈ tgSlots tg, i ∈ own.map (·.2)) (hcond : CondOk c scope scond ifs) (helt : AllB c scope fun c' => Snd c' se elt) :
    Snd c (.mk' (compV tg (own.map (·.2)) k ss scond se)) (.ListComp elt [⟨tgE, iter, ifs, 0⟩] scope pos) := by
  obtain ⟨wi, tt, te, h1, h2, h3, h4⟩ := comp_run hi hS hcond helt
  exact snd_mk (fun σ p e m Q s hp => pe.we (pe_lc (g := tgG c.X.K tg) hc hN h1 ok (fun s H C cl fp => tg_pg (X := (c.blk scope s H C cl fp).X) hc hN (ht s H C cl fp)) h2 h3 hfs) (h4 σ p e m Q s hp)) rfl rfl
end
end Pv

/-! PvS8: statements. -/
namespace Pv
open PySem PySem.Spec PyProof.Rows L2

def WS (X : Cx) (st : Stmt) (D : Ends) (σ : L2.St) (H : Hp) : Prop := ∀ (pins : List (Addr × Obj)) (s : Shared), Inv X pins σ H s → wpAny (model X.prog X.w) X.A (PySem.exec st X.env) (SP X pins D) X.xe s
def WSs (X : Cx) (sts : List Stmt) (D : Ends) (σ : L2.St) (H : Hp) : Prop := ∀ (pins : List (Addr × Obj)) (s : Shared), Inv X pins σ H s → wpAny (model X.prog X.w) X.A (PySem.execs sts X.env) (SP X pins D) X.xe s
theorem ps_ws {X : Cx} {st : Stmt} : PS X st (WS X st) := ⟨fun pins s σ H D I h => h pins s I⟩
theorem pss_wss {X : Cx} {sts : List Stmt} : PSs X sts (WSs X sts) := ⟨fun pins s σ H D I h => h pins s I⟩
theorem ws_of {X : Cx} {st : Stmt} {t : TS} (h : PS X st t) {D : Ends} {σ : L2.St} {H : Hp} (q : t D σ H) : WS X st D σ H := fun pins s I => h.run pins s σ H D I q
theorem wss_of {X : Cx} {sts : List Stmt} {t : TS} (h : PSs X sts t) {D : Ends} {σ : L2.St} {H : Hp} (q : t D σ H) : WSs X sts D σ H := fun pins s I => h.run pins s σ H D I q

/-- what a statement is to reach -/
def PostS (c : Cn) (p : Po) (r : Res Fl) (D : Ends) : Prop := match r with
  | .ok .nx e' m' => ∀ σ' q, Sr c σ' q e' m' → Later p.H p.W q.H q.W → D.nx σ' q.H
  | .ok .brk e' m' => ∀ σ' q, Sr c σ' q e' m' → Later p.H p.W q.H q.W → D.bk σ' q.H
  | .ok .cont e' m' => ∀ σ' q, Sr c σ' q e' m' → Later p.H p.W q.H q.W → D.ct σ' q.H
  | .ok (.ret v) e' m' => ∀ u σ' q, Sr c σ' q e' m' → Later p.H p.W q.H q.W → LR c.X.K q.H q.W q.μ u v → (∀ xs a, v = .own xs → u = .ref a → q.W a ∧ c.B.H a = none) → D.rt u q.H
  | .exc k f e' m' => ∀ cls dx σ' q, Sr c σ' q e' m' → Later p.H p.W q.H q.W → ER c.M c.X.K k f cls dx q.H q.W → c.T cls dx σ' q.H
  | .stuck => False
def SndS (c : Cn) (f : Slots → Cels → Res Fl) (st : Stmt) : Prop := ∀ σ p e m D, Sr c σ p e m → PostS c p (f e m) D → WS c.X st D σ p.H
def SndSs (c : Cn) (f : Slots → Cels → Res Fl) (sts : List Stmt) : Prop := ∀ σ p e m D, Sr c σ p e m → PostS c p (f e m) D → WSs c.X sts D σ p.H

section
variable {c : Cn} {σ : L2.St} {p q : Po} {e e1 : Slots} {m : Cels}
theorem PostS.shift {r : Res Fl} {D : Ends} (x : Later p.H p.W q.H q.W) (h : PostS c p r D) : PostS c q r D := by
  cases r with
  | ok f e' m' =>
    cases f with
    | nx => exact fun σ' q' s' x' => h σ' q' s' (x.trans x')
    | brk => exact fun σ' q' s' x' => h σ' q' s' (x.trans x')
    | cont => exact fun σ' q' s' x' => h σ' q' s' (x.trans x')
    | ret v => exact fun u σ' q' s' x' => h u σ' q' s' (x.trans x')
  | exc k f e' m' => exact fun cls dx σ' q' s' x' => h cls dx σ' q' s' (x.trans x')
  | stuck => exact h
/-- an expression, then the rest of the statement -/
theorem PostS.bind {α β : Type} {RR : α → β → Po → Slots → Prop} {r : Res α} {k : α → Slots → Cels → Res Fl} {D : Ends} {Q1 : β → Hp → Prop} (s : Sr c σ p e m)
    (h : PostS c p (r.bind k) D) (f : ∀ a e1 m1, PostS c p (k a e1 m1) D → ∀ b q, Sr c σ q e1 m1 → Ex σ p e q e1 → RR a b q e1 → Q1 b q.H) : Post c σ p e RR r Q1 := by
  cases r with
  | ok a e1 m1 => exact f a e1 m1 h
  | exc k f e1 m1 => exact fun cls dx q s' x' er => h cls dx σ q s' (x'.later s.st) er
  | stuck => exact h
theorem Ext.lat (s : Sr c σ p e m) (x : Ex σ p e q e1) : Later p.H p.W q.H q.W := x.later s.st

/-! ### the slots and the heap behind a store -/
theorem SR.asg {i : Nat} {u : V} {v : Vl} (s : Sr c σ q e m) (hi : i < e.length) (l : LR c.X.K q.H q.W q.μ u v) (t : Tmp c.B σ q.W e u v) : Sr c (σ.set i (some u)) q (e.set i (some v)) m := by
  have hi' : i < σ.length := by rw [← s.len]; exact hi
  have look : ∀ {j : Nat} {w : Vl}, (e.set i (some v))[j]? = some (some w) → (j = i ∧ w = v) ∨ (j ≠ i ∧ e[j]? = some (some w)) := fun {j w} h => by
    by_cases hj : j = i
    · subst hj
      rw [List.getElem?_set_self hi] at h
      cases h
      exact .inl ⟨rfl, rfl⟩
    · rw [List.getElem?_set_ne (Ne.symm hj)] at h
      exact .inr ⟨hj, h⟩
  have σi : (σ.set i (some u))[i]? = some (some u) := List.getElem?_set_self hi'
  have σj : ∀ {j : Nat}, j ≠ i → (σ.set i (some u))[j]? = σ[j]? := fun h => List.getElem?_set_ne (Ne.symm h)
  have tm : ∀ {xs : List D} {a : Addr}, v = .own xs → u = .ref a → q.W a ∧ c.B.H a = none ∧ ¬ OwnS e σ a := fun {xs a} h1 h2 => by
    subst h1
    exact t a h2
  refine ⟨s.st, s.keep, s.bt, s.bw, s.wb, s.pre, s.new, by rw [List.length_set, List.length_set]; exact s.len, fun j w h => ?_, fun a h => ?_, fun j k xs ys a hjk h1 h2 h3 h4 => ?_⟩
  · rcases look h with ⟨rfl, rfl⟩ | ⟨hj, h⟩
    · exact ⟨u, σi, l⟩
    · obtain ⟨u', h1, h2⟩ := s.env j w h
      exact ⟨u', by rw [σj hj]; exact h1, h2⟩
  · obtain ⟨j, xs, h1, h2⟩ := h
    rcases look h1 with ⟨rfl, h3⟩ | ⟨hj, h1⟩
    · rw [σi] at h2
      cases h2
      obtain ⟨w1, w2, _⟩ := tm h3.symm rfl
      exact ⟨w1, w2⟩
    · rw [σj hj] at h2
      exact s.own a ⟨j, xs, h1, h2⟩
  · rcases look h1 with ⟨z1, e1⟩ | ⟨hj, g1⟩
    · rcases look h2 with ⟨z2, e2⟩ | ⟨hk, g2⟩
      · exact hjk (z1.trans z2.symm)
      · subst z1
        rw [σi] at h3
        cases h3
        rw [σj hk] at h4
        exact (tm e1.symm rfl).2.2 ⟨k, ys, g2, h4⟩
    · rcases look h2 with ⟨z2, e2⟩ | ⟨hk, g2⟩
      · subst z2
        rw [σi] at h4
        cases h4
        rw [σj hj] at h3
        exact (tm e2.symm rfl).2.2 ⟨j, xs, g1, h3⟩
      · rw [σj hj] at h3
        rw [σj hk] at h4
        exact s.dis j k xs ys a hjk g1 g2 h3 h4
/-- a slot's own list is written -/
theorem SR.wrOwn {i : Nat} {xs xs' : List D} {a : Addr} {vs vs' : List V} (s : Sr c σ q e m) (he : e[i]? = some (some (.own xs))) (hσ : σ[i]? = some (some (.ref a))) (h : q.H a = some (.lst vs)) (hμ : a ∉ q.μ) (d : DqAll c.X.K q.H q.W vs' xs') :
    Sr c σ ⟨upd q.H a (.lst vs'), q.W, q.μ⟩ (e.set i (some (.own xs'))) m ∧ Later q.H q.W (upd q.H a (.lst vs')) q.W := by
  have hi : i < e.length := (List.getElem?_eq_some_iff.mp he).1
  obtain ⟨w1, w2⟩ := s.own a ⟨i, xs, he, hσ⟩
  have kk : ∀ b o, q.H b = some o → ¬ q.W b → upd q.H a (.lst vs') b = some o := fun b o h n => by
    rw [upd_ne (fun z => n (by rw [z]; exact w1))]; exact h
  have look : ∀ {j : Nat} {w : Vl}, (e.set i (some (.own xs')))[j]? = some (some w) → (j = i ∧ w = .own xs') ∨ (j ≠ i ∧ e[j]? = some (some w)) := fun {j w} h => by
    by_cases hj : j = i
    · subst hj
      rw [List.getElem?_set_self hi] at h
      cases h
      exact .inl ⟨rfl, rfl⟩
    · rw [List.getElem?_set_ne (Ne.symm hj)] at h
      exact .inr ⟨hj, h⟩
  have ow : ∀ {j : Nat} {ys : List D}, (e.set i (some (.own xs')))[j]? = some (some (.own ys)) → ∃ zs, e[j]? = some (some (.own zs)) := fun {j ys} h => by
    rcases look h with ⟨rfl, _⟩ | ⟨_, h⟩
    · exact ⟨xs, he⟩
    · exact ⟨ys, h⟩
  refine ⟨⟨⟨fun b h => ?_, s.st.μw, s.st.nd, ?_⟩, fun b o hbo n => ?_, fun b h z => ?_, s.bw, s.wb, s.pre, s.new, by rw [List.length_set]; exact s.len, fun j w hw => ?_, fun b ⟨j, ys, h1, h2⟩ => ?_, fun j k ys zs b hjk h1 h2 h3 h4 => ?_⟩, ⟨kk, fun b h z => ?_, fun _ _ z => z⟩⟩
  · by_cases hb : b = a
    · subst hb; exact ⟨_, upd_same, True.intro⟩
    · obtain ⟨o, h1, h2⟩ := s.st.wok b h
      exact ⟨o, by show upd q.H a (.lst vs') b = some o; rw [upd_ne hb]; exact h1, h2⟩
  · have go : ∀ {l1 : List Addr} {l2 : List Cel}, (∀ b ∈ l1, b ∈ q.μ) → Paired (CelR c.M c.X.K q.H q.W) l1 l2 → Paired (CelR c.M c.X.K (upd q.H a (.lst vs')) q.W) l1 l2 := by
      intro l1 l2 hm hp
      induction hp with
      | nil => exact .nil
      | @cons b cl l1 l2 hd tl ih =>
        refine .cons ?_ (ih fun b hb => hm b (List.mem_cons_of_mem _ hb))
        exact CelR.keep s.st.wok kk (fun _ _ z => z) (fun o e => by rw [upd_ne (fun z => hμ (by rw [← z]; exact hm b List.mem_cons_self))]; exact e) hd
    exact go (fun _ h => h) s.st.cel
  · show upd q.H a (.lst vs') b = some o
    rw [upd_ne (fun z => by subst z; rw [w2] at hbo; cases hbo)]
    exact s.keep b o hbo n
  · have z : upd q.H a (.lst vs') b = none := z
    by_cases hb : b = a
    · subst hb; rw [upd_same] at z; cases z
    · rw [upd_ne hb] at z; exact s.bt b h z
  · rcases look hw with ⟨rfl, rfl⟩ | ⟨hj, gw⟩
    · exact ⟨_, hσ, a, vs', rfl, upd_same, d.keep s.st.wok kk (fun _ _ z => z), hμ⟩
    · obtain ⟨u, h1, h2⟩ := s.env j w gw
      refine ⟨u, h1, ?_⟩
      cases w with
      | d x => exact Dq.keep s.st.wok kk (fun _ _ z => z) h2
      | own ys =>
        obtain ⟨b, us, h3, h4, h5, h6⟩ := h2
        subst h3
        refine ⟨b, us, rfl, ?_, DqAll.keep s.st.wok kk (fun _ _ z => z) h5, h6⟩
        show upd q.H a (.lst vs') b = _
        rw [upd_ne (fun z => by subst z; exact s.dis j i ys xs b hj gw he h1 hσ)]
        exact h4
      | cell k => exact h2
  · obtain ⟨zs, h3⟩ := ow h1
    exact s.own b ⟨j, zs, h3, h2⟩
  · obtain ⟨ys', h1⟩ := ow h1
    obtain ⟨zs', h2⟩ := ow h2
    exact s.dis j k ys' zs' b hjk h1 h2 h3 h4
  · by_cases hb : b = a
    · subst hb; rw [upd_same] at z; cases z
    · rw [upd_ne hb] at z; exact h z
/-- a cell of the store is written -/
theorem SR.wrCell {k : Nat} {xs' : List D} {a : Addr} {vs' : List V} (s : Sr c σ q e m) (hk : q.μ[k]? = some a) (d : DqAll c.X.K q.H q.W vs' xs') :
    Sr c σ ⟨upd q.H a (.lst vs'), q.W, q.μ⟩ e (m.set k (.arr xs')) ∧ Later q.H q.W (upd q.H a (.lst vs')) q.W := by
  have ham : a ∈ q.μ := List.mem_of_getElem? hk
  have w1 : q.W a := s.st.μw a ham
  have kk : ∀ b o, q.H b = some o → ¬ q.W b → upd q.H a (.lst vs') b = some o := fun b o h n => by
    rw [upd_ne (fun z => n (by rw [z]; exact w1))]; exact h
  refine ⟨⟨⟨fun b h => ?_, s.st.μw, s.st.nd, ?_⟩, fun b o h n => ?_, fun b h z => ?_, s.bw, s.wb, s.pre, s.new, s.len, fun j w h => ?_, s.own, s.dis⟩, ⟨kk, fun b h z => ?_, fun _ _ z => z⟩⟩
  · by_cases hb : b = a
    · subst hb; exact ⟨_, upd_same, True.intro⟩
    · obtain ⟨o, h1, h2⟩ := s.st.wok b h
      exact ⟨o, by show upd q.H a (.lst vs') b = some o; rw [upd_ne hb]; exact h1, h2⟩
  · have go : ∀ {l1 : List Addr} {l2 : List Cel} {k : Nat}, l1.Nodup → l1[k]? = some a → Paired (CelR c.M c.X.K q.H q.W) l1 l2 → Paired (CelR c.M c.X.K (upd q.H a (.lst vs')) q.W) l1 (l2.set k (.arr xs')) := by
      have off : ∀ {l1 : List Addr} {l2 : List Cel}, a ∉ l1 → Paired (CelR c.M c.X.K q.H q.W) l1 l2 → Paired (CelR c.M c.X.K (upd q.H a (.lst vs')) q.W) l1 l2 := by
        intro l1 l2 hm hp
        induction hp with
        | nil => exact .nil
        | @cons b cl l1 l2 hd tl ih =>
          refine .cons ?_ (ih fun z => hm (List.mem_cons_of_mem _ z))
          exact CelR.keep s.st.wok kk (fun _ _ z => z) (fun o e => by rw [upd_ne (fun z => hm (by rw [← z]; exact List.mem_cons_self))]; exact e) hd
      intro l1 l2 k nd hk hp
      induction hp generalizing k with
      | nil => simp at hk
      | @cons b cl l1 l2 hd tl ih =>
        have nd' := List.nodup_cons.mp nd
        cases k with
        | zero =>
          simp at hk
          subst hk
          exact .cons ⟨vs', upd_same, d.keep s.st.wok kk (fun _ _ z => z)⟩ (off nd'.1 tl)
        | succ k =>
          simp at hk
          refine .cons ?_ (ih nd'.2 hk)
          exact CelR.keep s.st.wok kk (fun _ _ z => z) (fun o e => by rw [upd_ne (fun z => nd'.1 (by rw [z]; exact List.mem_of_getElem? hk))]; exact e) hd
    exact go s.st.nd hk s.st.cel
  · show upd q.H a (.lst vs') b = some o
    rw [upd_ne (fun z => by
      subst z
      rcases s.new b ham with z | z
      · exact n z
      · rw [h] at z; cases z)]
    exact s.keep b o h n
  · have z : upd q.H a (.lst vs') b = none := z
    by_cases hb : b = a
    · subst hb; rw [upd_same] at z; cases z
    · rw [upd_ne hb] at z; exact s.bt b h z
  · obtain ⟨u, h1, h2⟩ := s.env j w h
    refine ⟨u, h1, ?_⟩
    cases w with
    | d x => exact Dq.keep s.st.wok kk (fun _ _ z => z) h2
    | own ys =>
      obtain ⟨b, us, h3, h4, h5, h6⟩ := h2
      refine ⟨b, us, h3, ?_, DqAll.keep s.st.wok kk (fun _ _ z => z) h5, h6⟩
      show upd q.H a (.lst vs') b = _
      rw [upd_ne (fun z => h6 (by rw [z]; exact ham))]
      exact h4
    | cell k => exact h2
  · by_cases hb : b = a
    · subst hb; rw [upd_same] at z; cases z
    · rw [upd_ne hb] at z; exact h z

/-! ### simple statements -/
section
variable {sa sb sc : Sm} {a b d : Expr} {pos : Pos}
/-- what is stored in a name: kept -/
theorem asg_post {i : Nat} {D : Ends} (s : Sr c σ p e m) (hp : PostS c p ((sa.g e m).bind fun v e m => match bindT (.v i) v e with
    | some e => .ok .nx e m
    | none => .stuck) D) : Post c σ p e (RV c σ false p) (sa.g e m) (fun x H1 => gName i x σ H1 D.nx) := by
  refine hp.bind s fun v e1 m1 hp u q s1 x1 r1 => ?_
  unfold bindT at hp
  split at hp
  · rename_i e2 h
    split at h
    · rename_i hi
      cases h
      exact hp _ q (s1.asg hi r1.1 (r1.2 rfl).1) (x1.lat s)
    · cases h
  · exact hp.elim
theorem snds_asg {i : Nat} {x : Str} {px : Pos} (hN : c.X.N.Nodup) (hi : c.X.N[i]? = some x) (hx : LocF c.X x) (ha : Snd c sa a) (hsw : swapsWith a (some (.Name x px)) pos.line c.X.env = pure false) :
    SndS c (fun e m => (sa.g e m).bind fun v e m => match bindT (.v i) v e with
      | some e => .ok .nx e m
      | none => .stuck) (.Assign [.Name x px] a pos) := fun σ p e m D s hp =>
  ws_of (ps_set hN hi hx.1 pe_we hsw hx.2) (snd_g ha s (asg_post s hp))
/-- x = [..] on one line -/
theorem snds_asgLc {scope : Scope} {i : Nat} {y : Str} {py cpos : Pos} {k : IK} {ss : List Sm} {tgE iter elt : Expr} {own : List (Str × Nat)} {tg : Tg} {scond se : Sm} {ifs : List Expr} (hc : c.X.calm = true) (hN : c.X.N.Nodup) (hy : c.X.N[i]? = some y) (hyl : c.X.env.scope.names.lookup y = some .local)
    (hsw : swapsWith (.ListComp elt [⟨tgE, iter, ifs, 0⟩] scope cpos) (some (.Name y py)) pos.line c.X.env = pure true) (hi : SndI c k ss tgE iter) (hfs : ∀ x, foldedSetIterable iter c.X.env x = pure x)
    (ok : BlkOk c.X.N c.X.env.scope scope own) (ht : AllB c scope fun c' => TgOk c'.X tg tgE) (hS : ∀ i ∈ tgSlots tg, i ∈ own.map (·.2)) (hcond : CondOk c scope scond ifs) (helt : AllB c scope fun c' => Snd c' se elt) :
    SndS c (fun e m => ((Sm.mk' (compV tg (own.map (·.2)) k ss scond se)).g e m).bind fun v e m => match bindT (.v i) v e with
      | some e => .ok .nx e m
      | none => .stuck) (.Assign [.Name y py] (.ListComp elt [⟨tgE, iter, ifs, 0⟩] scope cpos) pos) := fun σ p e m D s hp => by
  obtain ⟨wi, tt, te, h1, h2, h3, h4⟩ := comp_run hi hS hcond helt
  exact ws_of (ps_setLc (g := tgG c.X.K tg) hc hN hy hyl hsw h1 ok (fun s H C cl fp => tg_pg (X := (c.blk scope s H C cl fp).X) hc hN (ht s H C cl fp)) h2 h3 hfs) (h4 σ p e m _ s (asg_post s hp))
/-- a, b = e -/
theorem snds_asgT {tg : Tg} {tgE : Expr} (hc : c.X.calm = true) (hN : c.X.N.Nodup) (ht : TgOk c.X tg tgE) (hv : ∀ i, tg ≠ .v i) (ha : Snd c sa a) (hs : swapsWithSole [tgE] a pos.line c.X.env = pure false) (hw : swappedStores [tgE] a c.X.env = pure none)
    (h1 : (assignEach [tgE] c.X.env).map (·.2) = [assign tgE c.X.env]) : SndS c (fun e m => (sa.g e m).bind fun v e m => match bindT tg v e with
      | some e => .ok .nx e m
      | none => .stuck) (.Assign [tgE] a pos) := fun σ p e m D s hp => by
  refine ws_of (ps_asg pe_we (tg_pg hc hN ht) hs hw h1) (snd_g ha s (hp.bind s fun v e1 m1 hp u q s1 x1 r1 => ?_))
  cases hb : bindT tg v e1 with
  | none => rw [hb] at hp; exact hp.elim
  | some e2 =>
    rw [hb] at hp
    cases v with
    | d y => exact tg_run s1.len r1.1 hb fun σ' tr => hp σ' q (s1.tg tr) (x1.lat s)
    | own ys =>
      cases tg with
      | v i => exact (hv i rfl).elim
      | t ts => unfold bindT at hb; cases hb
    | cell k =>
      cases tg with
      | v i => exact (hv i rfl).elim
      | t ts => unfold bindT at hb; cases hb
theorem snds_expr (ha : Snd c sa a) (hs : swapsWith a none pos.line c.X.env = pure false) : SndS c (fun e m => (sa.v e m).bind fun _ e m => .ok .nx e m) (.Expr a pos) := fun σ p e m D s hp => by
  refine ws_of (ps_expr pe_we hs) (ha.v σ p e m _ s (hp.bind s fun v e1 m1 hp u q s1 x1 r1 => hp σ q s1 (x1.lat s)))
theorem snds_ret (ha : Snd c sa a) : SndS c (fun e m => (sa.r e m).bind fun v e m => .ok (.ret v) e m) (.Return (some a) pos) := fun σ p e m D s hp => by
  refine ws_of (ps_ret pe_we) ?_
  show WE c.X a σ p.H D.rt
  unfold Sm.r at hp
  cases hv : sa.var with
  | none =>
    rw [hv] at hp
    refine ha.v σ p e m _ s (PostS.bind s hp fun v e1 m1 hp u q s1 x1 r1 => hp u σ q s1 (x1.lat s) r1.1 fun xs b h1 h2 => ?_)
    subst h1; subst h2
    obtain ⟨w1, w2, _⟩ := (r1.2 (by rw [hv]; rfl)).1 b rfl
    exact ⟨w1, w2⟩
  | some i =>
    rw [hv] at hp
    refine pe.we (ha.vr i hv) ?_
    have hp : PostS c p ((getV e m i).bind fun v e m => .ok (.ret v) e m) D := hp
    unfold getV at hp
    split at hp
    · rename_i v he
      obtain ⟨u, h5, h6⟩ := s.env i v he
      refine ⟨u, h5, hp u σ p s .refl h6 fun xs b h1 h2 => ?_⟩
      subst h1; subst h2
      exact s.own b ⟨i, xs, he, h5⟩
    · exact hp.elim
end
end
end Pv

/-! PvS9: statements: blocks, choices, loops, stores into lists. -/
namespace Pv
open PySem PySem.Spec PyProof.Rows L2

section
variable {c : Cn} {σ : L2.St} {p q : Po} {e e1 : Slots} {m : Cels} {sa sb sc : Sm} {a b d : Expr} {pos : Pos}
/-- a part of a statement, by how it ends -/
theorem PostS.fl {r : Res Fl} {k : Fl → Slots → Cels → Res Fl} {D D' : Ends} (h : PostS c p (r.bind k) D) (hrt : ∀ v e m, k (.ret v) e m = .ok (.ret v) e m) (hrt' : ∀ u H, D.rt u H → D'.rt u H)
    (hnx : ∀ e1 m1 σ' q, PostS c p (k .nx e1 m1) D → Sr c σ' q e1 m1 → Later p.H p.W q.H q.W → D'.nx σ' q.H) (hct : ∀ e1 m1 σ' q, PostS c p (k .cont e1 m1) D → Sr c σ' q e1 m1 → Later p.H p.W q.H q.W → D'.ct σ' q.H)
    (hbk : ∀ e1 m1 σ' q, PostS c p (k .brk e1 m1) D → Sr c σ' q e1 m1 → Later p.H p.W q.H q.W → D'.bk σ' q.H) : PostS c p r D' := by
  cases r with
  | ok f e' m' =>
    cases f with
    | nx => exact fun σ' q' s' x' => hnx e' m' σ' q' h s' x'
    | brk => exact fun σ' q' s' x' => hbk e' m' σ' q' h s' x'
    | cont => exact fun σ' q' s' x' => hct e' m' σ' q' h s' x'
    | ret v =>
      have h : PostS c p (k (.ret v) e' m') D := h
      rw [hrt] at h
      exact fun u σ' q' s' x' l w => hrt' u q'.H (h u σ' q' s' x' l w)
  | exc k f e' m' => exact h
  | stuck => exact h

/-! ### ends, blocks, choices -/
theorem snds_pass : SndS c (fun e m => .ok .nx e m) (.Pass pos) := fun σ p e m D s hp => ws_of ps_pass (hp σ p s .refl)
theorem snds_brk : SndS c (fun e m => .ok .brk e m) (.Break pos) := fun σ p e m D s hp => ws_of ps_break (hp σ p s .refl)
theorem snds_cont : SndS c (fun e m => .ok .cont e m) (.Continue pos) := fun σ p e m D s hp => ws_of ps_continue (hp σ p s .refl)
theorem snds_never {st : Stmt} : SndS c (fun _ _ => .stuck) st := fun σ p e m D s hp => hp.elim
theorem snds_retN : SndS c (fun e m => (Res.ok (.d .none) e m).bind fun v e m => .ok (.ret v) e m) (.Return none pos) := fun σ p e m D s hp =>
  ws_of ps_retN (hp .non σ p s .refl (Dq.non (K := c.X.K)) fun xs a h => nomatch h)
theorem sndss_nil : SndSs c (fun e m => .ok .nx e m) [] := fun σ p e m D s hp => wss_of pss_nil (hp σ p s .refl)
theorem sndss_cons {f g : Slots → Cels → Res Fl} {st : Stmt} {sts : List Stmt} (hf : SndS c f st) (hg : SndSs c g sts) : SndSs c (fun e m => (f e m).bind fun fl e m => match fl with
    | .nx => g e m
    | fl => .ok fl e m) (st :: sts) := fun σ p e m D s hp => by
  refine wss_of (pss_cons ps_ws pss_wss) (hf σ p e m _ s (PostS.fl hp (fun _ _ _ => rfl) (fun _ _ h => h) (fun e1 m1 σ' q hp s1 x1 => hg σ' q e1 m1 D s1 (hp.shift x1)) (fun e1 m1 σ' q hp s1 x1 => hp σ' q s1 x1) fun e1 m1 σ' q hp s1 x1 => hp σ' q s1 x1))
theorem snds_if {f g : Slots → Cels → Res Fl} {sts1 sts2 : List Stmt} (ha : Snd c sa a) (hif : isIf a = false) (hf : SndSs c f sts1) (hg : SndSs c g sts2) : SndS c (fun e m => (sa.t e m).bind fun k e m => match k with
    | true => f e m
    | false => g e m) (.If a sts1 sts2 pos) := fun σ p e m D s hp => by
  refine ws_of (ps_if pt_wt pss_wss pss_wss) (ha.t hif σ p e m _ s (PostS.bind s hp fun k e1 m1 hp b q s1 x1 r1 => ?_))
  have r1 : b = k := r1
  subst r1
  cases b with
  | true => exact ite_tt (hf σ q e1 m1 D s1 (hp.shift (x1.lat s)))
  | false => exact ite_ff (hg σ q e1 m1 D s1 (hp.shift (x1.lat s)))

/-! ### loops -/
theorem snds_for {k : IK} {ss : List Sm} {tgE iter : Expr} {tg : Tg} {f : Slots → Cels → Res Fl} {sts : List Stmt} (hc : c.X.calm = true) (hN : c.X.N.Nodup) (hpo : PassesOwn (model c.X.prog c.X.w) c.X.A c.X.env c.X.xe) (hi : SndI c k ss tgE iter) (hfs : ∀ x, foldedSetIterable iter c.X.env x = pure x)
    (ht : TgOk c.X tg tgE) (hf : SndSs c f sts) : SndS c (fun e m => (itW (smG ss e m) k).bind fun items e m => forL (fun x e m => match bindT tg (.d x) e with
      | some e => f e m
      | none => .stuck) items e m) (.For tgE iter sts [] pos) := fun σ p e m D s hp => by
  obtain ⟨wi, hpi, _, hg⟩ := hi
  refine ws_of (ps_for hpo hc hpi (tg_pg hc hN ht) pss_wss hfs) ?_
  refine hg σ p e m _ s (PostS.bind s hp fun items e1 m1 hp J q s1 x1 r1 => ?_)
  obtain ⟨F, wlk, hL, hF⟩ := r1
  have hL : LaterOk c.M c.X.K F := fun {_ _ _ _ _ _ _ _} a b d e => hL rfl a b d e
  let turn : PyData → Slots → Cels → Res Fl := fun x e m => match bindT tg (.d x) e with
    | some e => f e m
    | none => .stuck
  have hp : PostS c p (forL turn items e1 m1) D := hp
  refine ⟨fun i n σ H => n = items.length - i ∧ i ≤ items.length ∧ ∃ (r : Po) (e : Slots) (m : Cels), r.H = H ∧ Sr c σ r e m ∧ F r.H r.W r.μ ∧ PostS c r (forL turn (items.drop i) e m) D,
    ⟨items.length, by simp, Nat.zero_le _, q, e1, m1, rfl, s1, hF, by rw [List.drop_zero]; exact hp.shift (x1.lat s)⟩, ?_⟩
  rintro i n σ H ⟨rfl, hi, r, e, m, rfl, sr, hFr, hP⟩
  by_cases hlt : i < items.length
  · refine .inr ⟨wlk.go hFr hlt, fun σ' H' => i + 1 ≤ items.length ∧ ∃ (r : Po) (e : Slots) (m : Cels), r.H = H' ∧ Sr c σ' r e m ∧ F r.H r.W r.μ ∧ PostS c r (forL turn (items.drop (i + 1)) e m) D, fun σ' H' h => ⟨items.length - (i + 1), by omega, rfl, h⟩, fun u H' hy => ?_⟩
    have hd : items[i]? = some items[i] := List.getElem?_eq_getElem hlt
    obtain ⟨gg, dq⟩ := wlk.yld sr.st.wok hFr hd hy
    rw [List.drop_eq_getElem_cons hlt] at hP
    have s2 : Sr c σ ⟨H', r.W, r.μ⟩ e m := sr.grow gg
    have l2 : Later r.H r.W H' r.W := (Ext.grow (σ := σ) (W := r.W) (μ := r.μ) (e := e) gg).later sr.st
    have hP : PostS c ⟨H', r.W, r.μ⟩ ((turn items[i] e m).bind fun f e m => match f with
      | .nx => forL turn (items.drop (i + 1)) e m
      | .cont => forL turn (items.drop (i + 1)) e m
      | .brk => .ok .nx e m
      | .ret v => .ok (.ret v) e m) D := PostS.shift (q := ⟨H', r.W, r.μ⟩) l2 hP
    have ht : turn items[i] e m = match bindT tg (.d items[i]) e with
      | some e => f e m
      | none => .stuck := rfl
    cases hb : bindT tg (.d items[i]) e with
    | none => rw [ht, hb] at hP; exact hP.elim
    | some e2 =>
      rw [ht, hb] at hP
      refine tg_run (W := r.W) s2.len dq hb fun σ2 tr => ?_
      have s3 : Sr c σ2 ⟨H', r.W, r.μ⟩ e2 m := s2.tg tr
      have hF2 : F H' r.W r.μ := hL sr.st s2.st l2 hFr
      have nxt : ∀ (e1 : Slots) (m1 : Cels) (σ' : L2.St) (q : Po), PostS c ⟨H', r.W, r.μ⟩ (forL turn (items.drop (i + 1)) e1 m1) D → Sr c σ' q e1 m1 → Later H' r.W q.H q.W →
          i + 1 ≤ items.length ∧ ∃ (r : Po) (e : Slots) (m : Cels), r.H = q.H ∧ Sr c σ' r e m ∧ F r.H r.W r.μ ∧ PostS c r (forL turn (items.drop (i + 1)) e m) D := fun e1 m1 σ' q hq sq lq =>
        ⟨hlt, q, e1, m1, rfl, sq, hL s2.st sq.st lq hF2, hq.shift lq⟩
      exact hf σ2 ⟨H', r.W, r.μ⟩ e2 m _ s3 (PostS.fl hP (fun _ _ _ => rfl) (fun _ _ h => h) nxt nxt fun e1 m1 σ' q hq sq lq => hq σ' q sq lq)
  · have e0 : i = items.length := by omega
    subst e0
    refine .inl ⟨wlk.stop hFr rfl, ?_⟩
    rw [List.drop_length] at hP
    exact hP σ r sr .refl
theorem snds_while {f : Slots → Cels → Res Fl} {sts : List Stmt} {fuel : Nat} (hpo : PassesOwn (model c.X.prog c.X.w) c.X.A c.X.env c.X.xe) (ha : Snd c sa a) (hif : isIf a = false) (hf : SndSs c f sts) : SndS c (fun e m => whileL sa.t f fuel e m) (.While a sts [] pos) := fun σ p e m D s hp => by
  refine ws_of (ps_while hpo pt_wt pss_wss) ?_
  refine ⟨fun n σ H => ∃ (r : Po) (e : Slots) (m : Cels), r.H = H ∧ Sr c σ r e m ∧ PostS c r (whileL sa.t f n e m) D, ⟨fuel, p, e, m, rfl, s, hp⟩, ?_⟩
  rintro n σ H ⟨r, e, m, rfl, sr, hP⟩
  cases n with
  | zero => exact hP.elim
  | succ n =>
    refine ha.t hif σ r e m _ sr (PostS.bind sr hP fun k e1 m1 hP b q s1 x1 r1 => ?_)
    have r1 : b = k := r1
    subst r1
    have hP := hP.shift (x1.lat sr)
    cases b with
    | false => exact ite_ff (hP σ q s1 .refl)
    | true =>
      refine ite_tt ⟨fun σ' H' => ∃ (r : Po) (e : Slots) (m : Cels), r.H = H' ∧ Sr c σ' r e m ∧ PostS c r (whileL sa.t f n e m) D, fun σ' H' h => ⟨n, Nat.lt_succ_self n, h⟩, ?_⟩
      have nxt : ∀ (e1 : Slots) (m1 : Cels) (σ' : L2.St) (q' : Po), PostS c q (whileL sa.t f n e1 m1) D → Sr c σ' q' e1 m1 → Later q.H q.W q'.H q'.W →
          ∃ (r : Po) (e : Slots) (m : Cels), r.H = q'.H ∧ Sr c σ' r e m ∧ PostS c r (whileL sa.t f n e m) D := fun e1 m1 σ' q' hq sq lq => ⟨q', e1, m1, rfl, sq, hq.shift lq⟩
      exact hf σ q e1 m1 _ s1 (PostS.fl hP (fun _ _ _ => rfl) (fun _ _ h => h) nxt nxt fun e1 m1 σ' q' hq sq lq => hq σ' q' sq lq)

/-! ### a op= e -/
theorem iop_sound (o : Op) : PIp c.X (opA o) (fun x y H Q => ∃ i j k, x = .int i ∧ y = .int j ∧ augOp o i j = some k ∧ Q (.int k) H) := by
  intro pins s σ H x y v u Q I rx ry h
  obtain ⟨i, j, k, rfl, rfl, hk, q⟩ := h
  cases o with
  | add => cases hk; exact iop_add pins s σ H _ _ v u Q I rx ry ⟨_, _, rfl, rfl, q⟩
  | sub => cases hk; exact iop_sub pins s σ H _ _ v u Q I rx ry ⟨_, _, rfl, rfl, q⟩
  | mul =>
    rw [show augOp .mul i j = (if i.natAbs < 18446744073709551616 ∨ j.natAbs < 18446744073709551616 then some (i * j) else none) from rfl] at hk
    split at hk
    · rename_i h1
      cases hk
      have h9 : (-(2 ^ 64) < i ∧ i < 2 ^ 64) ∨ (-(2 ^ 64) < j ∧ j < 2 ^ 64) := by omega
      exact iop_mul pins s σ H _ _ v u Q I rx ry ⟨_, _, rfl, rfl, h9, q⟩
    · cases hk
  | fdiv =>
    rw [show augOp .fdiv i j = (if 0 < j ∧ j.natAbs < 1073741824 then some (i / j) else none) from rfl] at hk
    split at hk
    · rename_i h1
      cases hk
      have h9 : 0 < j ∧ j < 1073741824 := by omega
      exact iop_fdiv pins s σ H _ _ v u Q I rx ry ⟨_, _, rfl, rfl, h9, q⟩
    · cases hk
  | mod =>
    rw [show augOp .mod i j = (if 0 < j then some (i % j) else none) from rfl] at hk
    split at hk
    · rename_i h1
      cases hk
      exact iop_mod pins s σ H _ _ v u Q I rx ry ⟨_, _, rfl, rfl, h1, q⟩
    · cases hk
  | pow => cases hk
theorem snds_aug {i : Nat} {x : Str} {px : Pos} (o : Op) (hN : c.X.N.Nodup) (hi : c.X.N[i]? = some x) (hx : LocF c.X x) (ha : Snd c sa a) : SndS c (fun e m => match e[i]? with
    | some (some (.d (.int a))) => (sa.v e m).bind fun v e m => match v with
      | .d (.int b) => match augOp o a b with
        | some c => .ok .nx (e.set i (some (.d (.int c)))) m
        | none => .stuck
      | _ => .stuck
    | _ => .stuck) (.AugAssign (.Name x px) (opA o) a pos) := fun σ p e m D s hp => by
  refine ws_of (ps_aug hN hi hx.1 pe_we (iop_sound o) hx.2) ?_
  simp only at hp
  split at hp
  · rename_i n he
    obtain ⟨u, h1, h2⟩ := s.env i _ he
    have h2 : Dq c.X.K p.H p.W u (.int n) := h2
    cases h2
    refine ⟨_, h1, ha.v σ p e m _ s (PostS.bind s hp fun v e1 m1 hp u q s1 x1 r1 => ?_)⟩
    split at hp
    · rename_i k
      cases r1.1
      split at hp
      · rename_i r hr
        have hi : i < e1.length := by
          rw [s1.len, ← s.len]
          exact (List.getElem?_eq_some_iff.mp he).1
        exact ⟨n, k, r, rfl, rfl, hr, hp _ q (s1.asg hi (Dq.int (K := c.X.K) r) True.intro) (x1.lat s)⟩
      · exact hp.elim
    · exact hp.elim
  · exact hp.elim

/-! ### stores into lists -/
theorem own_at {i : Nat} {xs : List D} (h : ownAt e i = some xs) : e[i]? = some (some (.own xs)) := by
  unfold ownAt at h
  split at h
  · rename_i ys he
    cases h
    exact he
  · cases h
theorem meth_few {cpos : Pos} {x : Bool × Sem Value} : ((backTo cpos [x]).all fun y => !y.1) = !x.1 := by simp [backTo]
theorem name_base {x : Str} {px : Pos} {attr : Str} {env : PySem.Env} : attributeBase (.Name x px) attr env (eval (.Name x px) env) = eval (.Name x px) env := rfl
theorem few1 {ex : Expr} (h : Syn ex) (cpos : Pos) (env : PySem.Env) : ((backTo cpos (starEach [ex] env)).all (fun x => !x.1) && (backToKw cpos (keywordEach [] env)).all (fun x => x.1.isSome)
      && decide (([ex] : List Expr).length + ([] : List Keyword).length + (if ([] : List Keyword).isEmpty then 0 else 1) < 30)) = true := by
  rw [h.ns]; rfl
theorem plain1 (cpos : Pos) (env : PySem.Env) : (backTo cpos (starEach [] env)).any (·.1) = false := rfl
/-- x.append(e) -/
theorem snds_app {i : Nat} {x : Str} {px apos cpos : Pos} (hi : c.X.N[i]? = some x) (hv : Vis c.X.env.scope x) (hd : (x == ("__debug__" : Str)) = false) (hcd : (x == ("__classdict__" : Str)) = false) (hline : (apos.endLine == cpos.line) = true) (ha : Snd c sa a) :
    SndS c (fun e m => match ownAt e i with
      | some _ => (sa.g e m).bind fun v e m => match frz v, ownAt e i with
        | some y, some xs => if xs.length < lim then .ok .nx (e.set i (some (.own (xs ++ [y])))) m else .stuck
        | _, _ => .stuck
      | none => .stuck) (.Expr (.Call (.Attribute (.Name x px) "append" apos) [a] [] cpos) pos) := fun σ p e m D s hp => by
  cases h0 : ownAt e i with
  | none => simp only [h0] at hp; exact hp.elim
  | some xs0 =>
  simp only [h0] at hp
  obtain ⟨z, h5, b, vs, rfl, h7, h8, h9⟩ := s.env i _ (own_at h0)
  refine ws_of (ps_expr (pe_bm PySem.F.plainAttrs_list PySem.F.slot_list_append PySem.F.type_list_append mt_append (pe_var hi hv hd hcd) (pa_wa (es := [a])) name_base (few1 ha.sy _ _) hline (ha.sy.ns _ _) (plain1 _ _)) (by rfl)) ?_
  refine ⟨_, h5, .inl ⟨rfl, vs, .inl (.inl h7)⟩, wa_cons ha.sy (snd_g ha s (PostS.bind s hp fun v e1 m1 hp u q s1 x1 r1 => ?_))⟩
  cases h1 : frz v with
  | none => simp only [h1] at hp; exact hp.elim
  | some y =>
    cases h2 : ownAt e1 i with
    | none => simp only [h1, h2] at hp; exact hp.elim
    | some xs =>
      simp only [h1, h2] at hp
      split at hp
      · rename_i hl
        have he := own_at h2
        have rl : RL c σ p [v] [u] q e1 := rl_cons s s1 x1 Ext.refl r1 rl_nil
        obtain ⟨s2, x2, d2⟩ := rl.give s s1 x1 (xs := [y]) (by unfold frzAll; rw [h1]; rfl)
        obtain ⟨z, k5, b', vs', rfl, k7, k8, k9⟩ := s2.env i _ he
        rw [h5] at k5
        cases k5
        obtain ⟨s3, l3⟩ := s2.wrOwn he h5 k7 k9 (k8.append d2)
        exact wa_of pa_nil ⟨b, vs', u, rfl, rfl, k7, by rw [k8.length]; exact lim_lt hl, hp σ _ s3 ((x2.later s.st).trans l3)⟩
      · exact hp.elim
/-- x.extend(e) -/
theorem snds_ext {i : Nat} {x : Str} {px apos cpos : Pos} (hi : c.X.N[i]? = some x) (hv : Vis c.X.env.scope x) (hd : (x == ("__debug__" : Str)) = false) (hcd : (x == ("__classdict__" : Str)) = false) (hline : (apos.endLine == cpos.line) = true) (ha : Snd c sa a) :
    SndS c (fun e m => match ownAt e i with
      | some _ => (sa.v e m).bind fun v e m => match v, ownAt e i with
        | .own ys, some xs => if xs.length + ys.length ≤ lim then .ok .nx (e.set i (some (.own (xs ++ ys)))) m else .stuck
        | _, _ => .stuck
      | none => .stuck) (.Expr (.Call (.Attribute (.Name x px) "extend" apos) [a] [] cpos) pos) := fun σ p e m D s hp => by
  cases h0 : ownAt e i with
  | none => simp only [h0] at hp; exact hp.elim
  | some xs0 =>
  simp only [h0] at hp
  obtain ⟨z, h5, b, vs, rfl, h7, h8, h9⟩ := s.env i _ (own_at h0)
  refine ws_of (ps_expr (pe_bm PySem.F.plainAttrs_list PySem.F.slot_list_extend PySem.F.type_list_extend mt_extend (pe_var hi hv hd hcd) (pa_wa (es := [a])) name_base (few1 ha.sy _ _) hline (ha.sy.ns _ _) (plain1 _ _)) (by rfl)) ?_
  refine ⟨_, h5, .inl ⟨rfl, vs, .inl (.inl h7)⟩, wa_cons ha.sy (ha.v σ p e m _ s (PostS.bind s hp fun v e1 m1 hp u q s1 x1 r1 => ?_))⟩
  cases v with
  | d y => exact hp.elim
  | cell k => exact hp.elim
  | own ys =>
    cases h2 : ownAt e1 i with
    | none => simp only [h2] at hp; exact hp.elim
    | some xs =>
      simp only [h2] at hp
      split at hp
      · rename_i hl
        have he := own_at h2
        obtain ⟨z, k5, b', vs', rfl, k7, k8, k9⟩ := s1.env i _ he
        rw [h5] at k5
        cases k5
        obtain ⟨b2, ws, rfl, z2, z3, z4⟩ := r1.1
        obtain ⟨s3, l3⟩ := s1.wrOwn he h5 k7 k9 (k8.append z3)
        exact wa_of pa_nil ⟨b, b2, vs', ws, rfl, rfl, k7, z2, by rw [k8.length, z3.length]; exact lim_ok hl, hp σ _ s3 ((x1.lat s).trans l3)⟩
      · exact hp.elim
theorem ix_eq {n : Nat} {i : Int} : ixOf n i = ixN n i := rfl
/-- x[k] = e -/
theorem snds_setIx {i : Nat} {x : Str} {px tpos : Pos} (hi : c.X.N[i]? = some x) (hv : Vis c.X.env.scope x) (hd : (x == ("__debug__" : Str)) = false) (hcd : (x == ("__classdict__" : Str)) = false) (ha : Snd c sa a) (hb : Snd c sb b)
    (hs : swapsWithSole [.Subscript (.Name x px) b tpos] a pos.line c.X.env = pure false) (hw : swappedStores [.Subscript (.Name x px) b tpos] a c.X.env = pure none)
    (hsub : ∀ v, assign (.Subscript (.Name x px) b tpos) c.X.env v = (do
      let ov ← holding [v] (eval (.Name x px) c.X.env)
      let iv ← holding [v, ov] (eval b c.X.env)
      standAt tpos
      holding [v, ov, iv] (setItem ov iv v)
      release [v, ov, iv] [])) :
    SndS c (fun e m => (sa.g e m).bind fun v e m => match frz v with
      | some y => (getV e m i).bind fun o e m => (sb.v e m).bind fun u e m => match o, u with
        | .own _, .d (.int p) => match ownAt e i with
          | some xs => match ixOf xs.length p with
            | some q => .ok .nx (e.set i (some (.own (xs.set q y)))) m
            | none => .stuck
          | none => .stuck
        | .cell c, .d (.int p) => match m[c]? with
          | some (.arr xs) => match ixOf xs.length p with
            | some q => .ok .nx e (m.set c (.arr (xs.set q y)))
            | none => .stuck
          | _ => .stuck
        | _, _ => .stuck
      | none => .stuck) (.Assign [.Subscript (.Name x px) b tpos] a pos) := fun σ p e m D s hp => by
  refine ws_of (ps_asg pe_we (pg_sub (pe_var hi hv hd hcd) pe_we set_list hsub) hs hw rfl) (snd_g ha s (PostS.bind s hp fun v e1 m1 hp u q s1 x1 r1 => ?_))
  cases h1 : frz v with
  | none => simp only [h1] at hp; exact hp.elim
  | some y =>
    simp only [h1] at hp
    have rl : RL c σ p [v] [u] q e1 := rl_cons s s1 x1 Ext.refl r1 rl_nil
    obtain ⟨s2, x2, d2⟩ := rl.give s s1 x1 (xs := [y]) (by unfold frzAll; rw [h1]; rfl)
    have hp := hp.shift (x2.later s.st)
    have dy : Dq c.X.K q.H (fun a => q.W a ∧ ¬ givenP [u] [v] a) u y := by
      cases d2 with
      | cons h _ => exact h
    clear d2
    generalize hq2 : (⟨q.H, fun a => q.W a ∧ ¬ givenP [u] [v] a, q.μ⟩ : Po) = q2 at s2 hp
    have hH : q2.H = q.H := by rw [← hq2]
    have dy : Dq c.X.K q2.H q2.W u y := by
      rw [← hq2]
      exact dy
    unfold getV at hp
    split at hp
    · rename_i o he
      rw [Res.bind_ok] at hp
      obtain ⟨uo, h5, h6⟩ := s2.env i o he
      refine ⟨uo, h5, ?_⟩
      rw [← hH]
      refine hb.v σ q2 e1 m1 _ s2 (PostS.bind s2 hp fun w e3 m3 hp uk q3 s3 x3 r3 => ?_)
      have dy3 := x3.dq s2.st dy
      cases o with
      | d z => exact hp.elim
      | own zs =>
        cases w with
        | own _ => exact hp.elim
        | cell _ => exact hp.elim
        | d wk =>
          cases wk with
          | int k =>
            dsimp only at hp
            cases r3.1
            cases h8 : ownAt e3 i with
            | none => simp only [h8] at hp; exact hp.elim
            | some xs =>
              simp only [h8] at hp
              cases h9 : ixOf xs.length k with
              | none => simp only [h9] at hp; exact hp.elim
              | some j =>
                simp only [h9] at hp
                have he3 := own_at h8
                obtain ⟨z, k5, b', vs', rfl, k7, k8, k9⟩ := s3.env i _ he3
                rw [h5] at k5
                cases k5
                obtain ⟨s4, l4⟩ := s3.wrOwn he3 h5 k7 k9 (k8.set dy3 j)
                exact ⟨b', vs', k, j, rfl, rfl, k7, by rw [← ix_eq, k8.length]; exact h9, hp σ _ s4 ((x3.lat s2).trans l4)⟩
          | _ => exact hp.elim
      | cell kk =>
        cases w with
        | own _ => exact hp.elim
        | cell _ => exact hp.elim
        | d wk =>
          cases wk with
          | int k =>
            dsimp only at hp
            cases r3.1
            split at hp
            · rename_i xs hm
              cases h9 : ixOf xs.length k with
              | none => simp only [h9] at hp; exact hp.elim
              | some j =>
                simp only [h9] at hp
                obtain ⟨b', hk1, rfl⟩ : LR c.X.K q3.H q3.W q3.μ uo (.cell kk) := x3.lr s2.st h6
                obtain ⟨b2, hk2, vs', k7, k8⟩ := Paired.get1 s3.st.cel hm
                rw [hk1] at hk2
                cases hk2
                obtain ⟨s4, l4⟩ := s3.wrCell hk1 (k8.set dy3 j)
                exact ⟨b', vs', k, j, rfl, rfl, k7, by rw [← ix_eq, k8.length]; exact h9, hp σ _ s4 ((x3.lat s2).trans l4)⟩
            · exact hp.elim
          | _ => exact hp.elim
    · exact hp.elim

/-! ### a, b = e1, e2: both are evaluated first -/
theorem par_run {q : Po} {m : Cels} : ∀ {is : List Nat} {vs : List Vl} {us : List V} {σ : L2.St} {e e' : Slots}, Sr c σ q e m → Paired (fun u v => LR c.X.K q.H q.W q.μ u v ∧ Tmp c.B σ q.W e u v) us vs →
    (∀ (i j : Nat) (xs ys : List D) (a : Addr), i ≠ j → vs[i]? = some (.own xs) → vs[j]? = some (.own ys) → us[i]? = some (.ref a) → us[j]? = some (.ref a) → False) → parB is vs e = some e' →
    Sr c ((is.zip us).foldl (fun σ z => σ.set z.1 (some z.2)) σ) q e' m
  | [], vs, us, σ, e, e', s, h, _, hb => by
    cases vs with
    | nil => unfold parB at hb; cases hb; exact s
    | cons _ _ => unfold parB at hb; cases hb
  | i :: is, vs, us, σ, e, e', s, h, ap, hb => by
    cases h with
    | nil => unfold parB at hb; cases hb
    | @cons u v us1 vs1 hd tl =>
      unfold parB at hb
      split at hb
      · rename_i hi
        show Sr c ((is.zip us1).foldl (fun σ z => σ.set z.1 (some z.2)) (σ.set i (some u))) q e' m
        refine par_run (s.asg hi hd.1 hd.2) ?_ (fun a b xs ys w hab h1 h2 h3 h4 => ap (a + 1) (b + 1) xs ys w (by omega) (by simpa using h1) (by simpa using h2) (by simpa using h3) (by simpa using h4)) hb
        have hi' : i < σ.length := by rw [← s.len]; exact hi
        have go : ∀ {us2 : List V} {vs2 : List Vl} (n : Nat), (∀ k, us2[k]? = us1[n + k]?) → (∀ k, vs2[k]? = vs1[n + k]?) → Paired (fun u v => LR c.X.K q.H q.W q.μ u v ∧ Tmp c.B σ q.W e u v) us2 vs2 → Paired (fun u' v' => LR c.X.K q.H q.W q.μ u' v' ∧ Tmp c.B (σ.set i (some u)) q.W (e.set i (some v)) u' v') us2 vs2 := by
          intro us2 vs2 n hu hv hp
          induction hp generalizing n with
          | nil => exact .nil
          | @cons u' v' us3 vs3 hd' tl' ih =>
            refine .cons ⟨hd'.1, ?_⟩ (ih (n + 1) (fun k => ?_) fun k => ?_)
            · cases v' with
              | d _ => exact True.intro
              | cell _ => exact True.intro
              | own zs =>
                intro w hw
                obtain ⟨t1, t2, t3⟩ := hd'.2 w hw
                refine ⟨t1, t2, fun z => ?_⟩
                obtain ⟨j, ys, z1, z2⟩ := z
                by_cases hj : j = i
                · subst hj
                  rw [List.getElem?_set_self hi] at z1
                  rw [List.getElem?_set_self hi'] at z2
                  cases z1
                  cases z2
                  have e1 := hu 0
                  have e2 := hv 0
                  simp at e1 e2
                  exact ap 0 (n + 1) ys zs w (by omega) rfl (by rw [List.getElem?_cons_succ]; exact e2.symm) rfl (by rw [List.getElem?_cons_succ, ← e1, hw])
                · rw [List.getElem?_set_ne (Ne.symm hj)] at z1 z2
                  exact t3 ⟨j, ys, z1, z2⟩
            · have := hu (k + 1)
              rw [List.getElem?_cons_succ] at this
              rw [this]
              congr 1
              omega
            · have := hv (k + 1)
              rw [List.getElem?_cons_succ] at this
              rw [this]
              congr 1
              omega
        exact go 0 (fun k => by rw [Nat.zero_add]) (fun k => by rw [Nat.zero_add]) tl
      · cases hb
theorem par_post {is : List Nat} {ss : List Sm} {D : Ends} {Q1 : List V → Hp → Prop} (s : Sr c σ p e m) (hp : PostS c p ((smG ss e m).bind fun vs e m => match parB is vs e with
    | some e => .ok .nx e m
    | none => .stuck) D) (f : ∀ us H, us.length = is.length → D.nx ((is.zip us).foldl (fun σ z => σ.set z.1 (some z.2)) σ) H → Q1 us H) : Post c σ p e (RL c σ p) (smG ss e m) Q1 := by
  refine PostS.bind s hp fun vs e1 m1 hp us q s1 x1 r1 => ?_
  cases hb : parB is vs e1 with
  | none => simp only [hb] at hp; exact hp.elim
  | some e2 =>
    simp only [hb] at hp
    have len : ∀ {is : List Nat} {vs : List Vl} {e e' : Slots}, parB is vs e = some e' → is.length = vs.length := by
      intro is
      induction is with
      | nil => intro vs e e' h; cases vs with | nil => rfl | cons _ _ => unfold parB at h; cases h
      | cons i is ih =>
        intro vs e e' h
        cases vs with
        | nil => unfold parB at h; cases h
        | cons v vs =>
          unfold parB at h
          split at h
          · rw [List.length_cons, List.length_cons, ih h]
          · cases h
    refine f us q.H ?_ (hp _ q (par_run s1 (Paired.mapP r1.lr fun u v z => ⟨z.1, z.2.1⟩) r1.ap hb) (x1.lat s))
    rw [Paired.len r1.lr, len hb]
theorem snds_par2 {i j : Nat} {x y : Str} {px py pt pt2 : Pos} {kt k2 : Nat} (hc : c.X.calm = true) (hN : c.X.N.Nodup) (hi : c.X.N[i]? = some x) (hj : c.X.N[j]? = some y) (hij : i ≠ j) (hx : c.X.env.scope.names.lookup x = some .local) (hy : c.X.env.scope.names.lookup y = some .local)
    (ha : Snd c sa a) (hb : Snd c sb b) (hw : swappedStores [.Tuple [.Name x px, .Name y py] kt pt] (.Tuple [a, b] k2 pt2) c.X.env = pure (some [x, y])) :
    SndS c (fun e m => (smG [sa, sb] e m).bind fun vs e m => match parB [i, j] vs e with
      | some e => .ok .nx e m
      | none => .stuck) (.Assign [.Tuple [.Name x px, .Name y py] kt pt] (.Tuple [a, b] k2 pt2) pos) := fun σ p e m D s hp => by
  refine ws_of (ps_par hc hN hi hj hij hx hy pa_wa hw (by rfl)) (snds_g (.cons ha (.cons hb .nil)) s (par_post s hp fun us H hl h => ?_))
  match us, hl, h with
  | [u, v], _, h => exact ⟨u, v, rfl, h⟩
theorem snds_par3 {i j l : Nat} {x y z : Str} {px py pz pt pt2 : Pos} {kt k2 : Nat} (hc : c.X.calm = true) (hN : c.X.N.Nodup) (hi : c.X.N[i]? = some x) (hj : c.X.N[j]? = some y) (hl : c.X.N[l]? = some z) (hij : i ≠ j) (hil : i ≠ l) (hjl : j ≠ l)
    (hx : c.X.env.scope.names.lookup x = some .local) (hy : c.X.env.scope.names.lookup y = some .local) (hz : c.X.env.scope.names.lookup z = some .local)
    (ha : Snd c sa a) (hb : Snd c sb b) (hd : Snd c sc d) (hw : swappedStores [.Tuple [.Name x px, .Name y py, .Name z pz] kt pt] (.Tuple [a, b, d] k2 pt2) c.X.env = pure (some [x, y, z])) :
    SndS c (fun e m => (smG [sa, sb, sc] e m).bind fun vs e m => match parB [i, j, l] vs e with
      | some e => .ok .nx e m
      | none => .stuck) (.Assign [.Tuple [.Name x px, .Name y py, .Name z pz] kt pt] (.Tuple [a, b, d] k2 pt2) pos) := fun σ p e m D s hp => by
  refine ws_of (ps_par3 hc hN hi hj hl hij hil hjl hx hy hz pa_wa hw (by rfl)) (snds_g (.cons ha (.cons hb (.cons hd .nil))) s (par_post s hp fun us H hl h => ?_))
  match us, hl, h with
  | [u, v, w], _, h => exact ⟨u, v, w, rfl, h⟩
end
end Pv

/-! PvS10: further expressions: in range(..), xs[::-1], list(range(..)), reversed. -/
namespace Pv
open PySem PySem.Spec PyProof.Rows L2

theorem Res.bind_assoc {α β γ : Type} (r : Res α) (k : α → Slots → Cels → Res β) (l : β → Slots → Cels → Res γ) : (r.bind k).bind l = r.bind fun a e m => (k a e m).bind l := by cases r <;> rfl

/-! ### in range(..) -/
def rInR (ng : Bool) : R2 := fun x y H Q => ∃ i a lo hi, x = V.int i ∧ y = V.ref a ∧ H a = some (.rng lo hi) ∧ Q (.bl (decide (lo ≤ i ∧ i < hi) != ng)) H
theorem op_inR {X : Cx} (ng : Bool) : OpR X (compareOp (if ng then .NotIn else .In)) (rInR ng) := by
  cases ng with
  | false =>
    intro pins s σ H x y v u Q I rx ry h
    obtain ⟨i, a, lo, hi, h1, h2, h3, q⟩ := h
    refine op_in_rng pins s σ H x y v u Q I rx ry ⟨i, a, lo, hi, h1, h2, h3, ?_⟩
    rw [Bool.bne_false] at q
    exact q
  | true =>
    intro pins s σ H x y v u Q I rx ry h
    obtain ⟨i, a, lo, hi, rfl, rfl, ha, q⟩ := h
    obtain ⟨k, rfl⟩ := rx
    obtain rfl : u = Value.ref a := ry
    obtain ⟨t1, t2, t3, ho⟩ := I.hok a _ ha
    show wpAny _ _ (do return Value.bool (!(← contains (Value.ref a) (Value.int i k)))) _ _ s
    refine wpAny_bind (wpAny_contains_slot (T := "range") ⟨_, ho, rfl⟩ PySem.F.slot_range_contains (call_meets PySem.F.slot_range_contains ⟨_, ho, rfl⟩ PySem.F.entry_range_contains (PySem.F.args_range_contains_2 _ _) (q_contains a lo hi i t1 t2 t3 k)
      ⟨ho, wpAny_truthy_bool (wpAny_pure ⟨.bl _, H, I, rfl, ?_⟩)⟩))
    rw [place1]
    rw [Bool.bne_true] at q
    exact q
theorem cr_range1 {X : Cx} : CallR X (.type "range") (fun vs H Q => ∃ j, vs = [V.int j] ∧ ∀ p, H p = none → Q (.ref p) (upd H p (.rng 0 j))) := by
  intro pins s σ H vs us Q I r h
  obtain ⟨j, rfl, q⟩ := h
  obtain ⟨u1, rfl, ri⟩ := vals1 r
  obtain ⟨t, rfl⟩ := ri
  refine call_range_1 ⟨.ref s.heap.objs.size, upd H s.heap.objs.size (.rng 0 j), I.laid (t' := s.toks + 2) (fun b o e => Heap.get?_push_of_some _ e) (Nat.le_refl _) ?_, rfl, q _ (I.hok.fresh (Nat.le_refl _))⟩
  exact ⟨_, _, _, Heap.get?_push_size _ rfl⟩
section
variable {c : Cn} {sa sb sd : Sm} {a b d : Expr} {pos pn p2 : Pos}
theorem inr2_eq (ng : Bool) (e : Slots) (m : Cels) : inrV ng sa [sb, sd] e m = (sa.v e m).bind fun v e m => (sb.v e m).bind fun w e m => (sd.v e m).bind fun u e m => match dat m v, datAll m [w, u] with
    | some (.int i), some ds => Res.of (rngIn ng i ds) e m
    | _, _ => .stuck := by
  unfold inrV smV smV smV
  congr 1
  funext v e m
  rw [Res.bind_assoc]
  congr 1
  funext w e m
  rw [Res.bind_assoc, Res.bind_assoc]
  rfl
theorem inr1_eq (ng : Bool) (e : Slots) (m : Cels) : inrV ng sa [sb] e m = (sa.v e m).bind fun v e m => (sb.v e m).bind fun w e m => match dat m v, datAll m [w] with
    | some (.int i), some ds => Res.of (rngIn ng i ds) e m
    | _, _ => .stuck := by
  unfold inrV smV smV
  congr 1
  funext v e m
  rw [Res.bind_assoc]
  rfl
theorem int_of {x : V} {v : Vl} {q : Po} {σ : L2.St} {e : Slots} {m : Cels} {i : Int} (s : Sr c σ q e m) (l : LR c.X.K q.H q.W q.μ x v) (h : dat m v = some (.int i)) : x = .int i := (lk_of s l h).int
theorem inr_bool (ng : Bool) {ss : List Sm} {e : Slots} {m : Cels} : ∀ u e' m', inrV ng sa ss e m = .ok u e' m' → ∃ k, u = .d (.bool k) := by
  intro u e' m' h
  unfold inrV at h
  cases h1 : sa.v e m with
  | stuck => rw [h1] at h; cases h
  | exc _ _ _ _ => rw [h1] at h; cases h
  | ok v e1 m1 =>
    rw [h1, Res.bind_ok] at h
    cases h2 : smV ss e1 m1 with
    | stuck => rw [h2] at h; cases h
    | exc _ _ _ _ => rw [h2] at h; cases h
    | ok w e2 m2 =>
      rw [h2, Res.bind_ok] at h
      split at h
      · rename_i i ds _ _
        unfold rngIn at h
        split at h
        · cases h; exact ⟨_, rfl⟩
        · cases h; exact ⟨_, rfl⟩
        · cases h
      · cases h
theorem inr2_t (ng : Bool) (ha : Snd c sa a) (hb : Snd c sb b) (hd : Snd c sd d) {σ : L2.St} {p : Po} {e : Slots} {m : Cels} {Q : VK} (s : Sr c σ p e m) (hp : Post c σ p e (RV c σ false p) (inrV ng sa [sb, sd] e m) Q) :
    tOp (rInR ng) (WE c.X a) (tCB (fun vs H Q => ∃ i j, vs = [V.int i, V.int j] ∧ ∀ p, H p = none → Q (.ref p) (upd H p (.rng i j))) (tCons (WE c.X b) (tCons (WE c.X d) tNil))) σ p.H Q := by
  rw [inr2_eq] at hp
  refine one ha s hp fun v e1 m1 x q1 s1 x1 l1 hk => ?_
  refine one hb s1 hk fun w e2 m2 y q2 s2 x2 l2 hk => ?_
  refine one hd s2 hk fun u e3 m3 z q3 s3 x3 l3 hk => ?_
  split at hk
  · rename_i i ds h1 h2
    have ex := int_of s3 (x3.lr s2.st (x2.lr s1.st l1)) h1
    unfold datAll datAll datAll at h2
    cases hw : dat m3 w with
    | none => simp [hw] at h2
    | some dw =>
      cases hu : dat m3 u with
      | none => simp [hw, hu] at h2
      | some du =>
        simp only [hw, hu, Option.some.injEq] at h2
        subst h2
        unfold rngIn at hk
        split at hk
        · rename_i h0; cases h0
        · rename_i lo hi h0
          cases h0
          have ey := int_of s3 (x3.lr s2.st l2) hw
          have ez := int_of s3 l3 hu
          subst ex ey ez
          refine ⟨lo, hi, rfl, fun p hn => ⟨i, p, lo, hi, rfl, rfl, upd_same, ?_⟩⟩
          have hr := ret_of s3 (Post.reV (x1.trans s.μt (x2.trans s1.μt x3)) hk)
          exact hr (.bl _) _ (same_new hn) (.bl _)
        · exact hk.elim
  · exact hk.elim
theorem snd_inr2 (ng : Bool) (hg : Gl c.X "range") (hm : c.X.mg "range" = none) (ha : Snd c sa a) (hb : Snd c sb b) (hd : Snd c sd d) : Snd c (.mk' (inrV ng sa [sb, sd])) (.Compare a [if ng then .NotIn else .In] [.Call (.Name "range" pn) [b, d] [] p2] pos) := by
  have hst := hb.sy.ns [d] c.X.env
  have hst2 := hd.sy.ns [] c.X.env
  have hpl : (backTo p2 (starEach [d] c.X.env)).any (·.1) = false := by rw [hst2]; rfl
  have pr : PE c.X (.Call (.Name "range" pn) [b, d] [] p2) (tCB (fun vs H Q => ∃ i j, vs = [V.int i, V.int j] ∧ ∀ p, H p = none → Q (.ref p) (upd H p (.rng i j))) (tCons (WE c.X b) (tCons (WE c.X d) tNil))) :=
    pe_callTy cr_range2 hg hm (by decide +kernel) (pa_cons pe_we (pa_cons pe_we pa_nil hst2) hst) (by decide) (by decide) hst hpl
  refine ⟨fun σ p e m Q s hp => pe.we (pe_cmpR (op_inR ng) pe_we pr rfl) (inr2_t ng ha hb hd s hp), fun _ σ p e m Q s hp => pt.wt (pt_cmpR (op_inR ng) pe_we pr rfl) ?_, syn_of rfl, (fun i z => nomatch z), rfl⟩
  exact inr2_t ng ha hb hd s (tof_bool (inr_bool ng) hp)
theorem inr1_t (ng : Bool) (ha : Snd c sa a) (hb : Snd c sb b) {σ : L2.St} {p : Po} {e : Slots} {m : Cels} {Q : VK} (s : Sr c σ p e m) (hp : Post c σ p e (RV c σ false p) (inrV ng sa [sb] e m) Q) :
    tOp (rInR ng) (WE c.X a) (tCB (fun vs H Q => ∃ j, vs = [V.int j] ∧ ∀ p, H p = none → Q (.ref p) (upd H p (.rng 0 j))) (tCons (WE c.X b) tNil)) σ p.H Q := by
  rw [inr1_eq] at hp
  refine one ha s hp fun v e1 m1 x q1 s1 x1 l1 hk => ?_
  refine one hb s1 hk fun w e2 m2 y q2 s2 x2 l2 hk => ?_
  split at hk
  · rename_i i ds h1 h2
    have ex := int_of s2 (x2.lr s1.st l1) h1
    unfold datAll datAll at h2
    cases hw : dat m2 w with
    | none => simp [hw] at h2
    | some dw =>
      simp only [hw, Option.some.injEq] at h2
      subst h2
      unfold rngIn at hk
      split at hk
      · rename_i hi h0
        cases h0
        have ey := int_of s2 l2 hw
        subst ex ey
        refine ⟨hi, rfl, fun p hn => ⟨i, p, 0, hi, rfl, rfl, upd_same, ?_⟩⟩
        have hr := ret_of s2 (Post.reV (x1.trans s.μt x2) hk)
        exact hr (.bl _) _ (same_new hn) (.bl _)
      · rename_i h0; cases h0
      · exact hk.elim
  · exact hk.elim
theorem snd_inr1 (ng : Bool) (hg : Gl c.X "range") (hm : c.X.mg "range" = none) (ha : Snd c sa a) (hb : Snd c sb b) : Snd c (.mk' (inrV ng sa [sb])) (.Compare a [if ng then .NotIn else .In] [.Call (.Name "range" pn) [b] [] p2] pos) := by
  have hst := hb.sy.ns [] c.X.env
  have pr : PE c.X (.Call (.Name "range" pn) [b] [] p2) (tCB (fun vs H Q => ∃ j, vs = [V.int j] ∧ ∀ p, H p = none → Q (.ref p) (upd H p (.rng 0 j))) (tCons (WE c.X b) tNil)) :=
    pe_callTy cr_range1 hg hm (by decide +kernel) (pa_cons pe_we pa_nil hst) (by decide) (by decide) hst rfl
  refine ⟨fun σ p e m Q s hp => pe.we (pe_cmpR (op_inR ng) pe_we pr rfl) (inr1_t ng ha hb s hp), fun _ σ p e m Q s hp => pt.wt (pt_cmpR (op_inR ng) pe_we pr rfl) ?_, syn_of rfl, (fun i z => nomatch z), rfl⟩
  exact inr1_t ng ha hb s (tof_bool (inr_bool ng) hp)
end

/-! ### xs[::-1], list(range(..)), tuple(range(..)), tuple(reversed(..)) -/
section
variable {c : Cn} {sa sb sd : Sm} {a b d : Expr} {pos pn p2 pp : Pos}
end
theorem fm_congr {α β : Type} {f g : α → Option β} : ∀ {l : List α}, (∀ x ∈ l, f x = g x) → l.filterMap f = l.filterMap g
  | [], _ => rfl
  | x :: l, h => by rw [List.filterMap_cons, List.filterMap_cons, h x List.mem_cons_self, fm_congr fun y hy => h y (List.mem_cons_of_mem _ hy)]
theorem rev_pick (xs : Array Value) : ((List.range xs.size).filterMap fun (k : Nat) => xs[(((xs.size : Int) - 1) + (k : Int) * (-1)).toNat]?).toArray = xs.toList.reverse.toArray := by
  congr 1
  have e : (List.range xs.size).filterMap (fun (k : Nat) => xs[(((xs.size : Int) - 1) + (k : Int) * (-1)).toNat]?) = (List.range xs.size).filterMap (fun (k : Nat) => xs.toList.reverse[k]?) := by
    refine fm_congr fun k hk => ?_
    have hk := List.mem_range.mp hk
    rw [List.getElem?_reverse (by simpa using hk), Array.length_toList, Array.getElem?_toList]
    congr 1
    omega
  rw [e]
  have h2 : xs.size = xs.toList.reverse.length := by simp
  rw [h2]
  generalize xs.toList.reverse = l
  apply List.ext_getElem?
  intro i
  induction l generalizing i with
  | nil => simp
  | cons a l ih =>
    rw [List.length_cons, List.range_succ_eq_map, List.filterMap_cons, List.filterMap_map]
    have : ((fun k => (a :: l)[k]?) ∘ Nat.succ) = fun k => l[k]? := by funext k; simp
    rw [this]
    cases i with
    | zero => simp
    | succ i => simpa using ih i
section
variable {prog : Program} {w : World} {A : Around} {E : Value → Shared → Prop} {s : Shared}
/-- t[::-1] of a tuple -/
theorem getItem_tuple_rev {t sl : Addr} {items : Array Value} {vl vu vs : Value} {Q : Value → Shared → Prop} (ht : IsTup s.heap t items) (hs : s.heap.IsSliceOf sl vl vu vs) (pl : IsPart vl none) (pu : IsPart vu none) (ps : IsPart vs (some (-1)))
    (h : Q (.ref s.heap.objs.size) { s with heap := s.heap.push { cls := .type "tuple", data := .seq items.toList.reverse.toArray } }) (hsz : items.size ≤ sizeLine) : wpAny (model prog w) A (getItem (.ref t) (.ref sl)) Q E s := by
  have hok : sizeOk (.seq items.toList.reverse.toArray) := by
    show items.toList.reverse.toArray.size ≤ sizeLine
    rw [List.size_toArray, List.length_reverse, Array.length_toList]
    exact hsz
  obtain ⟨os, hos, hcs, hds⟩ := id hs
  have hTs : s.TypeIs (.ref sl) "slice" := ⟨os, hos, hcs⟩
  cases pl
  cases pu
  cases ps with
  | int _ tk =>
  have hadj : Builtin.Slice.sliceAdjust none none (-1) (items.size : Int) = ((items.size : Int) - 1, -1) := rfl
  have hpl : Builtin.Slice.slicePlaces ((items.size : Int) - 1) (-1) (-1) = items.size := by
    unfold Builtin.Slice.slicePlaces
    simp only [show ¬ ((-1 : Int) > 0) by decide, if_false]
    split <;> simp <;> omega
  unfold getItem
  refine wpAny_holding ?_
  refine wpAny_bind (wpAny_sequenceKey ht.typeIs (by decide) ?_)
  refine wpAny_bind (wpAny_callSpecial?_slot (name := Str.ofString "__getitem__") ht.typeIs PyProof.Rows.slot_tuple_getitem
    (wpAny_call_entry PyProof.Rows.slot_tuple_getitem ht.typeIs entry_tuple_getitem (?_ : wpAny _ _ _ _ _ _) (args_tuple_getitem _ _)))
  show wpAny _ _ (Builtin.Tuple.tupleItemsOf (.ref t) >>= _) _ _ s
  refine wpAny_bind (PyProof.Rows.tupleItemsOf_ ht (?_ : wpAny _ _ _ _ _ _))
  refine wpAny_bind (wpAny_typeOf hTs (?_ : wpAny _ _ _ _ _ _))
  rw [if_pos (by decide)]
  refine wpAny_bind (?_ : wpAny _ _ _ _ _ _)
  unfold Builtin.Slice.sliceApplied Builtin.Slice.sliceFields
  refine wpAny_bind (wpAny_bind (wpAny_field hos hds (x := .none) rfl (wpAny_bind (wpAny_field hos hds (x := .none) rfl (wpAny_bind (wpAny_field hos hds (x := .int (-1) tk) rfl (wpAny_pure (?_ : wpAny _ _ _ _ _ _))))))))
  refine wpAny_bind (HT.slicePart_ (.int (-1) tk) (?_ : wpAny _ _ _ _ _ _))
  show wpAny _ _ (if ((-1 : Int) == 0) = true then _ else _) _ _ s
  rw [if_neg (by decide)]
  refine wpAny_bind (HT.slicePart_ .none (wpAny_bind (HT.slicePart_ .none (wpAny_bind (wpAny_pure (?_ : wpAny _ _ _ _ _ _))))))
  show wpAny _ _ (match Builtin.Slice.sliceAdjust none none (-1) (items.size : Int) with | (lo, hi) => pure (lo, (-1 : Int), Builtin.Slice.slicePlaces lo hi (-1))) _ _ s
  rw [hadj]
  show wpAny _ _ (pure (((items.size : Int) - 1), (-1 : Int), Builtin.Slice.slicePlaces ((items.size : Int) - 1) (-1) (-1))) _ _ s
  rw [hpl]
  refine wpAny_pure (?_ : wpAny _ _ _ _ _ _)
  have hno : ¬ (((items.size : Int) - 1 == 0 && (-1 : Int) == 1 && items.size == items.size) = true) := by simp
  show wpAny _ _ (if ((items.size : Int) - 1 == 0 && (-1 : Int) == 1 && items.size == items.size) = true then _ else _) _ _ s
  rw [if_neg hno, rev_pick]
  first
    | exact wpAny_bind (m := Builtin.Tuple.tupleExact _) (wpAny_newObj_type (wpAny_pure ⟨_, rfl, wpAny_pure h⟩) hok)
    | exact wpAny_bind (m := Builtin.Tuple.tupleExact _) (wpAny_newObj_type (wpAny_bind (wpAny_pure (wpAny_pure ⟨_, rfl, wpAny_pure h⟩))) hok)
    | exact wpAny_bind (wpAny_bind (m := Builtin.Tuple.tupleExact _) (wpAny_newObj_type (wpAny_pure (wpAny_pure ⟨_, rfl, wpAny_pure h⟩)) hok))
    | exact wpAny_bind (wpAny_bind (m := Builtin.Tuple.tupleExact _) (wpAny_newObj_type (wpAny_pure ⟨_, rfl, wpAny_pure h⟩) hok))
end
section
variable {X : Cx}
/-- x[::-1], x a list or a tuple -/
def tRevA (K : PySem.W.Frag) (te : TE) : TE := fun σ H Q => te σ H fun x H1 => ∃ a xs, x = .ref a ∧ ((SqL K H1 a xs ∧ ∀ p, H1 p = none → Q (.ref p) (upd H1 p (.lst xs.reverse))) ∨ (SqT K H1 a xs ∧ ∀ p, H1 p = none → Q (.ref p) (upd H1 p (.tup xs.reverse))))
theorem pe_revA {e : Expr} {te : TE} {k : Nat} {p1 p2 p3 pos : Pos} (he : PE X e te) : PE X (.Subscript e (.Slice none none (some (.UnaryOp .USub (.Constant (.int 1) k p1) p2)) p3) pos) (tRevA X.K te) := by
  refine ⟨fun pins s σ H Q I h => ?_⟩
  refine Subscript_ (thn (he.run pins s σ H _ I h) fun v s1 ⟨x, H1, I1, r1, q1⟩ => ?_)
  obtain ⟨a, xs, rfl, q⟩ := q1
  cases r1
  have step : PO X (some (.UnaryOp .USub (.Constant (.int 1) k p1) p2)) (tPart (tUn (rU fun i => .int (-i)) (tC (.int 1)))) := po_some (pe_un un_neg pe_int)
  refine wpAny_Slice (thn (po_none.run pins s1 σ H1 (fun o H2 => o = none ∧ H2 = H1) I1 ⟨rfl, rfl⟩) fun vl s2 ⟨l, H2, I2, pl, el, e2⟩ => ?_)
  subst el e2
  refine thn (po_none.run pins s2 σ H2 (fun o H3 => o = none ∧ H3 = H2) I2 ⟨rfl, rfl⟩) fun vu s3 ⟨u, H3, I3, pu, eu, e3⟩ => ?_
  subst eu e3
  refine thn (step.run pins s3 σ H3 (fun o H4 => o = some (-1) ∧ H4 = H3) I3 ⟨1, rfl, -1, rfl, rfl, rfl⟩) fun vs s4 ⟨o, H4, I4, ps, eo, e4⟩ => ?_
  subst eo e4
  have I5 : Inv X pins σ H4 { s4 with heap := s4.heap.push { cls := .type "slice", data := .fields #[vl, vu, vs] } } := I4.kept (t' := s4.toks) fun b ob q => Heap.get?_push_of_some _ q
  show wpAny (model X.prog X.w) X.A (subscriptTail e (.Slice none none (some (.UnaryOp .USub (.Constant (.int 1) k p1) p2)) p3) (.ref a) (.ref s4.heap.objs.size)) (EP X pins σ Q) X.xe { s4 with heap := s4.heap.push { cls := .type "slice", data := .fields #[vl, vu, vs] } }
  rcases q with ⟨hx, q⟩ | ⟨hx, q⟩
  · obtain ⟨its, r, ht, hz⟩ := I5.list hx
    have hlen := r.length
    refine tail_any (ops := [.ref a, .ref s4.heap.objs.size]) ht.isList.typeIs (PySem.slot_list_getitem.lookup) ?_ (by with_unfolding_all rfl)
    refine wpAny_getItem_list_slice ht.isList (Heap.IsSliceOf.new _ vl vu vs) pl pu ps (by decide) ?_ (by rw [List.size_toArray]; omega)
    rw [PySem.W.krv_pick]
    refine ⟨.ref _, _, I5.laid (t' := s4.toks) (o := .lst xs.reverse) (fun b ob q => Heap.get?_push_of_some _ q) (Nat.le_refl _) ?_, rfl, q _ (I5.hok.fresh (Nat.le_refl _))⟩
    exact ⟨by rw [List.length_reverse]; exact hz, _, 0, r.reverse, Heap.get?_push_size _ rfl⟩
  · obtain ⟨its, r, ht, hz⟩ := I5.tuple hx
    have hlen := r.length
    refine tail_any (ops := [.ref a, .ref s4.heap.objs.size]) ht.typeIs (PyProof.Rows.slot_tuple_getitem.lookup) ?_ (by with_unfolding_all rfl)
    refine getItem_tuple_rev ht (Heap.IsSliceOf.new _ vl vu vs) pl pu ps ?_ (by rw [List.size_toArray]; omega)
    refine ⟨.ref _, _, I5.laid (t' := s4.toks) (o := .tup xs.reverse) (fun b ob q => Heap.get?_push_of_some _ q) (Nat.le_refl _) ?_, rfl, q _ (I5.hok.fresh (Nat.le_refl _))⟩
    exact ⟨by rw [List.length_reverse]; exact hz, _, r.reverse, ⟨_, Heap.get?_push_size _ rfl, rfl, _, rfl⟩⟩
end
section
variable {c : Cn} {sa sb sd : Sm} {a b d : Expr} {pos pn p2 pp : Pos}
theorem revL_v (ha : Snd c sa a) {ex : Expr} (hr : PE c.X ex (tRevA c.X.K (WE c.X a))) : SndV c (.mk' (one1 revLD sa)) ex := by
  intro σ p e m Q s hp
  refine pe.we hr ?_
  refine one ha s hp fun v e2 m2 x q s2 x2 lx hk => ?_
  cases h1 : dat m2 v with
  | none => simp only [h1] at hk; exact hk.elim
  | some d1 =>
    simp only [h1] at hk
    cases d1 with
    | list xs =>
      have hk : Post c σ q e2 (RV c σ false p) (.ok (.own xs.reverse) e2 m2) Q := hk
      obtain ⟨a', vs, rfl, h2, h3⟩ := (lk_of s2 lx h1).list
      exact ⟨a', vs, rfl, .inl ⟨.inl h2, (ret_of s2 (Post.reV x2 hk)).lst s2.st.wok h3.reverse⟩⟩
    | tuple xs =>
      have hk : Post c σ q e2 (RV c σ false p) (.ok (.d (.tuple xs.reverse)) e2 m2) Q := hk
      obtain ⟨a', vs, rfl, h2, h3⟩ := (lk_of s2 lx h1).tup
      exact ⟨a', vs, rfl, .inr ⟨h2, (ret_of s2 (Post.reV x2 hk)).tup s2.st.wok h3.reverse⟩⟩
    | _ => exact hk.elim
end
section
variable {c : Cn} {sa sb sd : Sm} {a b d : Expr} {pos pn p2 pp : Pos}
theorem snd_revL {k : Nat} {p1 p3 : Pos} (ha : Snd c sa a) : Snd c (.mk' (one1 revLD sa)) (.Subscript a (.Slice none none (some (.UnaryOp .USub (.Constant (.int 1) k p1) p2)) p3) pos) :=
  snd_mk (revL_v ha (pe_revA pe_we)) rfl rfl

theorem upTo_dq {K : PySem.W.Frag} {H : Hp} {W : Addr → Prop} : ∀ (n : Nat) (lo : Int), DqAll K H W ((List.range n).map fun i => V.int (lo + (i : Nat))) (upTo lo n)
  | 0, _ => .nil
  | n + 1, lo => by
    unfold upTo
    rw [List.range_succ_eq_map, List.map_cons, List.map_map]
    refine .cons ?_ ?_
    · have : lo + ((0 : Nat) : Int) = lo := by simp
      rw [this]; exact .int lo
    · have e : ((fun i : Nat => V.int (lo + (i : Nat))) ∘ Nat.succ) = fun i : Nat => V.int (lo + 1 + (i : Nat)) := by
        funext i
        simp only [Function.comp, V.int.injEq]
        omega
      rw [e]
      exact upTo_dq n (lo + 1)
theorem rgok {a b : Int} (h1 : a.natAbs ≤ 1000000) (h2 : b.natAbs ≤ 1000000) : RgOk a b := ⟨by omega, by omega, by omega, by omega, by omega⟩
def matO (tup : Bool) (xs : List V) : HO := match tup with
  | true => .tup xs
  | false => .lst xs
/-- what list(..), tuple(..) of a range gives -/
theorem mat_rng {tup : Bool} {lo hi : Int} {σ : L2.St} {p q : Po} {e e2 : Slots} {m2 : Cels} {Q : VK} (s2 : Sr c σ q e2 m2) (x2 : Ex σ p e q e2) (hk : Post c σ q e2 (RV c σ false p) (if (upTo lo (hi - lo).toNat).length ≤ lim then match tup with
      | true => .ok (.d (.tuple (upTo lo (hi - lo).toNat))) e2 m2
      | false => .ok (.own (upTo lo (hi - lo).toNat)) e2 m2
    else .stuck) Q) : ∀ z, q.H z = none → Q (.ref z) (upd q.H z (matO tup (rgV lo hi))) := by
  intro z hz
  split at hk
  · cases tup with
    | true => exact (ret_of s2 (Post.reV x2 hk)).tup s2.st.wok (upTo_dq _ _) z hz
    | false => exact (ret_of s2 (Post.reV x2 hk)).lst s2.st.wok (upTo_dq _ _) z hz
  · exact hk.elim
theorem mat1_eq (tup : Bool) (k : IK) (e : Slots) (m : Cels) : matV tup k [sa] e m = (sa.v e m).bind fun v e m => (match frzAll [v] with
    | some ds => Res.of (itemsOf k ds) e m
    | none => .stuck).bind fun items e m => if items.length ≤ lim then match tup with
    | true => .ok (.d (.tuple items)) e m
    | false => .ok (.own items) e m
  else .stuck := by
  unfold matV itW
  rw [smV_one, Res.bind_assoc, Res.bind_assoc]
  rfl
theorem mat2_eq (tup : Bool) (k : IK) (e : Slots) (m : Cels) : matV tup k [sa, sb] e m = (sa.v e m).bind fun v e m => (sb.v e m).bind fun w e m => (match frzAll [v, w] with
    | some ds => Res.of (itemsOf k ds) e m
    | none => .stuck).bind fun items e m => if items.length ≤ lim then match tup with
    | true => .ok (.d (.tuple items)) e m
    | false => .ok (.own items) e m
  else .stuck := by
  unfold matV itW smV smV smV
  rw [Res.bind_assoc, Res.bind_assoc]
  congr 1
  funext v e m
  rw [Res.bind_assoc, Res.bind_assoc]
  rfl
theorem frz1 {v : Vl} {x : D} (h : frzAll [v] = some [x]) : frz v = some x := by
  unfold frzAll at h
  cases hv : frz v with
  | none => rw [hv] at h; cases h
  | some y => rw [hv] at h; simp only [frzAll] at h; cases h; rfl
theorem frz_int {v : Vl} {i : Int} (h : frz v = some (.int i)) : v = .d (.int i) := by
  cases v with
  | d x => cases h; rfl
  | own xs => cases h
  | cell k => cases h
theorem frz2 {v w : Vl} {x y : D} (h : frzAll [v, w] = some [x, y]) : frz v = some x ∧ frz w = some y := by
  unfold frzAll at h
  cases hv : frz v with
  | none => rw [hv] at h; cases h
  | some z =>
    cases hw : frzAll [w] with
    | none => rw [hv, hw] at h; cases h
    | some l => rw [hv, hw] at h; cases h; exact ⟨rfl, frz1 hw⟩
theorem rng1_of {ds items : List D} (h : itemsOf .rng1 ds = some items) : ∃ n, ds = [.int n] ∧ n.natAbs ≤ 1000000 ∧ items = upTo 0 n.toNat := by
  unfold itemsOf at h
  split at h <;> (try cases h) <;> (try (rename_i h0; cases h0; done))
  split at h
  · cases h; exact ⟨_, rfl, by assumption, rfl⟩
  · cases h
theorem rng2_of {ds items : List D} (h : itemsOf .rng2 ds = some items) : ∃ a b, ds = [.int a, .int b] ∧ (a.natAbs ≤ 1000000 ∧ b.natAbs ≤ 1000000) ∧ items = upTo a (b - a).toNat := by
  unfold itemsOf at h
  split at h <;> (try cases h) <;> (try (rename_i h0; cases h0; done))
  split at h
  · cases h; exact ⟨_, _, rfl, by assumption, rfl⟩
  · cases h
theorem mat_r1 (tup : Bool) (ha : Snd c sa a) {σ : L2.St} {p : Po} {e : Slots} {m : Cels} {Q : VK} (s : Sr c σ p e m) (hp : Post c σ p e (RV c σ false p) (matV tup .rng1 [sa] e m) Q) :
    tRg1 (WE c.X a) σ p.H fun lo hi H1 => RgOk lo hi ∧ ∀ z, H1 z = none → Q (.ref z) (upd H1 z (matO tup (rgV lo hi))) := by
  rw [mat1_eq] at hp
  refine one ha s hp fun v e2 m2 x q s2 x2 lx hk => ?_
  cases h1 : frzAll [v] with
  | none => simp only [h1] at hk; exact hk.elim
  | some ds =>
    simp only [h1] at hk
    cases h2 : itemsOf .rng1 ds with
    | none => rw [h2] at hk; exact hk.elim
    | some items =>
      rw [h2] at hk
      obtain ⟨n, rfl, hb, rfl⟩ := rng1_of h2
      have hv := frz_int (frz1 h1)
      subst hv
      cases lx
      refine ⟨n, rfl, rgok (by decide) hb, mat_rng s2 x2 ?_⟩
      rw [Int.sub_zero]
      exact hk
theorem mat_r2 (tup : Bool) (ha : Snd c sa a) (hb : Snd c sb b) {σ : L2.St} {p : Po} {e : Slots} {m : Cels} {Q : VK} (s : Sr c σ p e m) (hp : Post c σ p e (RV c σ false p) (matV tup .rng2 [sa, sb] e m) Q) :
    tRg2 (WE c.X a) (WE c.X b) σ p.H fun lo hi H1 => RgOk lo hi ∧ ∀ z, H1 z = none → Q (.ref z) (upd H1 z (matO tup (rgV lo hi))) := by
  rw [mat2_eq] at hp
  refine one ha s hp fun v e1 m1 x q1 s1 x1 lx hk1 => ?_
  refine one hb s1 hk1 fun w e2 m2 y q s2 x2 ly hk => ?_
  clear hk1
  cases h1 : frzAll [v, w] with
  | none => simp only [h1] at hk; exact hk.elim
  | some ds =>
    simp only [h1] at hk
    cases h2 : itemsOf .rng2 ds with
    | none => rw [h2] at hk; exact hk.elim
    | some items =>
      rw [h2] at hk
      obtain ⟨i, j, rfl, hb, rfl⟩ := rng2_of h2
      obtain ⟨hv, hw⟩ := frz2 h1
      have hv := frz_int hv
      have hw := frz_int hw
      subst hv hw
      cases lx
      cases ly
      exact ⟨i, j, rfl, rfl, rgok hb.1 hb.2, mat_rng s2 (x1.trans s.μt x2) hk⟩
theorem snd_mat1 (hc : c.X.calm = true) (tup : Bool) {x : Str} (hx : x = if tup then "tuple" else "list") (hg : Gl c.X x) (hm : c.X.mg x = none) (hg2 : Gl c.X "range") (hm2 : c.X.mg "range" = none) (ha : Snd c sa a) : Snd c (.mk' (matV tup .rng1 [sa])) (.Call (.Name x pn) [.Call (.Name "range" pp) [a] [] p2] [] pos) := by
  subst hx
  have pr := prg_1 (p := pp) (pos := p2) hg2 hm2 (pe_we (X := c.X) (ex := a)) (ha.sy.ns [] c.X.env)
  cases tup with
  | true => exact snd_mk (fun σ p e m Q s hp => pe.we (pe_tupRg hc hg hm pr) (mat_r1 true ha s hp)) rfl rfl
  | false => exact snd_mk (fun σ p e m Q s hp => pe.we (pe_listRg hc hg hm pr) (mat_r1 false ha s hp)) rfl rfl
theorem snd_mat2 (hc : c.X.calm = true) (tup : Bool) {x : Str} (hx : x = if tup then "tuple" else "list") (hg : Gl c.X x) (hm : c.X.mg x = none) (hg2 : Gl c.X "range") (hm2 : c.X.mg "range" = none) (ha : Snd c sa a) (hb : Snd c sb b) : Snd c (.mk' (matV tup .rng2 [sa, sb])) (.Call (.Name x pn) [.Call (.Name "range" pp) [a, b] [] p2] [] pos) := by
  subst hx
  have e2 := hb.sy.ns [] c.X.env
  have pr := prg_2 (p := pp) (pos := p2) hg2 hm2 (pe_we (X := c.X) (ex := a)) (pe_we (X := c.X) (ex := b)) (ha.sy.ns [b] c.X.env) e2 (by rw [e2]; rfl)
  cases tup with
  | true => exact snd_mk (fun σ p e m Q s hp => pe.we (pe_tupRg hc hg hm pr) (mat_r2 true ha hb s hp)) rfl rfl
  | false => exact snd_mk (fun σ p e m Q s hp => pe.we (pe_listRg hc hg hm pr) (mat_r2 false ha hb s hp)) rfl rfl
theorem snd_trv (hc : c.X.calm = true) (hg : Gl c.X "tuple") (hm : c.X.mg "tuple" = none) (hg2 : Gl c.X "reversed") (hm2 : c.X.mg "reversed" = none) (ha : Snd c sa a) : Snd c (.mk' (one1 trvD sa)) (.Call (.Name "tuple" pn) [.Call (.Name "reversed" pp) [a] [] p2] [] pos) := by
  refine snd_mk (fun σ p e m Q s hp => pe.we (RT.pe_tupRev hc hg hm hg2 hm2 pe_we (ha.sy.ns [] c.X.env)) ?_) rfl rfl
  have hp : Post c σ p e (RV c σ false p) (one1 trvD sa e m) Q := hp
  refine one ha s hp fun v e2 m2 x q s2 x2 lx hk => ?_
  cases h1 : dat m2 v with
  | none => simp only [h1] at hk; exact hk.elim
  | some d1 =>
    simp only [h1] at hk
    cases d1 with
    | list xs =>
      have hk : Post c σ q e2 (RV c σ false p) (.ok (.d (.tuple xs.reverse)) e2 m2) Q := hk
      obtain ⟨a', vs, rfl, h2, h3⟩ := (lk_of s2 lx h1).list
      exact ⟨a', vs, rfl, .inl h2, (ret_of s2 (Post.reV x2 hk)).tup s2.st.wok h3.reverse⟩
    | _ => exact hk.elim
/-! ### for x in reversed(..) -/
theorem rev_get {α : Type} {l : List α} {i : Nat} {d : α} (h : l.reverse[i]? = some d) : i < l.length ∧ l[l.length - 1 - i]? = some d := by
  have hi : i < l.length := by
    have := (List.getElem?_eq_some_iff.mp h).1
    rwa [List.length_reverse] at this
  refine ⟨hi, ?_⟩
  rw [← List.getElem?_reverse hi]
  exact h
theorem wlk_rev {K : PySem.W.Frag} (L : Bool) (a : Addr) (ds : List D) : Wlk K (Itv K a ds.length) ds.reverse (SrcL K L a ds) where
  keep := SrcL.keep
  go := fun {H W μ i} h hi => by
    obtain ⟨vs, h1, h3⟩ := h.at
    rw [List.length_reverse] at hi
    obtain ⟨v, e, _⟩ := h3.get (List.getElem?_eq_getElem (show ds.length - 1 - i < ds.length by omega))
    exact ⟨hi, vs, v, h1, e⟩
  stop := fun {H W μ i} h hi => by
    rw [List.length_reverse] at hi
    exact Nat.le_of_eq hi.symm
  yld := fun {H H' W μ i x d} w h hd y => by
    obtain ⟨vs, h1, h3⟩ := h.at
    obtain ⟨e, y⟩ := y
    subst e
    obtain ⟨hi, hd⟩ := rev_get hd
    obtain ⟨v, e, q⟩ := h3.get hd
    rw [y vs h1] at e
    cases e
    exact ⟨fun _ _ h => h, q⟩
theorem wlk_revT {K : PySem.W.Frag} (a : Addr) (ds : List D) : Wlk K (RT.ItvT K a ds.length) ds.reverse (SrcT K a ds) where
  keep := SrcT.keep
  go := fun {H W μ i} h hi => by
    obtain ⟨vs, h1, h3⟩ := h
    rw [List.length_reverse] at hi
    obtain ⟨v, e, _⟩ := h3.get (List.getElem?_eq_getElem (show ds.length - 1 - i < ds.length by omega))
    exact ⟨hi, vs, v, h1, e⟩
  stop := fun {H W μ i} h hi => by
    rw [List.length_reverse] at hi
    exact Nat.le_of_eq hi.symm
  yld := fun {H H' W μ i x d} w h hd y => by
    obtain ⟨vs, h1, h3⟩ := h
    obtain ⟨e, y⟩ := y
    subst e
    obtain ⟨hi, hd⟩ := rev_get hd
    obtain ⟨v, e, q⟩ := h3.get hd
    rw [y vs h1] at e
    cases e
    exact ⟨fun _ _ h => h, q⟩
theorem revs_items {xs ds : List D} (h : itemsOf .revs xs = some ds) : ∃ x es, xs = [x] ∧ seqOf x = some es ∧ ds = es.reverse := by
  unfold itemsOf at h
  split at h <;> (try cases h) <;> (try (rename_i h0; cases h0; done))
  · exact ⟨_, _, rfl, rfl, rfl⟩
  · exact ⟨_, _, rfl, rfl, rfl⟩
theorem sndi_revs {tg : Expr} (hg : Gl c.X "reversed") (hm : c.X.mg "reversed" = none) (ha : Snd c sa a) : SndI c .revs [sa] tg (.Call (.Name "reversed" pn) [a] [] pos) := by
  refine ⟨_, RT.pi_revA (te := WE c.X a) hg hm pe_we (ha.sy.ns [] c.X.env), fun σ p e m R s hp => ?_, fun σ p e m R s hp => ?_⟩
  · have hp : Post c σ p e (RI c false) ((sa.v e m).bind fun v e m => (match frzAll [v] with
      | some ds => Res.of (itemsOf .revs ds) e m
      | none => .stuck)) R := by
      have : itW (smV [sa] e m) .revs = (sa.v e m).bind fun v e m => (match frzAll [v] with
        | some ds => Res.of (itemsOf .revs ds) e m
        | none => .stuck) := by rw [smV_one]; unfold itW; rw [bind_bind]; rfl
      rw [← this]; exact hp
    refine ha.v σ p e m _ s (Post.bind hp fun v e1 m1 hp u q s1 x1 r1 => ?_)
    cases h1 : frzAll [v] with
    | none => simp only [h1] at hp; exact hp.elim
    | some xs =>
      simp only [h1] at hp
      cases h2 : itemsOf .revs xs with
      | none => simp only [h2] at hp; exact hp.elim
      | some ds =>
        simp only [h2] at hp
        obtain ⟨x, es, e1', e2, rfl⟩ := revs_items h2
        subst e1'
        obtain ⟨a', e3, e4⟩ := src_of (L := false) s1 r1.1 (fun z => nomatch z) (frz1 h1) e2
        rcases e4 with ⟨_, e4⟩ | ⟨_, e4⟩
        · obtain ⟨vs, z1, z2⟩ := e4.at
          exact ⟨a', vs, e3, .inl ⟨z1, by rw [z2.length]; exact hp _ q s1 x1 ⟨_, wlk_rev false a' es, (fun z => nomatch z), e4⟩⟩⟩
        · obtain ⟨vs, z1, z2⟩ := id e4
          exact ⟨a', vs, e3, .inr ⟨z1, by rw [z2.length]; exact hp _ q s1 x1 ⟨_, wlk_revT a' es, (fun z => nomatch z), e4⟩⟩⟩
  · have hp : Post c σ p e (RI c true) ((sa.g e m).bind fun v e m => (match frzAll [v] with
      | some ds => Res.of (itemsOf .revs ds) e m
      | none => .stuck)) R := by
      have : itW (smG [sa] e m) .revs = (sa.g e m).bind fun v e m => (match frzAll [v] with
        | some ds => Res.of (itemsOf .revs ds) e m
        | none => .stuck) := by rw [smG_one]; unfold itW; rw [bind_bind]; rfl
      rw [← this]; exact hp
    refine snd_g ha s (Post.bind hp fun v e1 m1 hp u q s1 x1 r1 => ?_)
    cases h1 : frzAll [v] with
    | none => simp only [h1] at hp; exact hp.elim
    | some xs =>
      simp only [h1] at hp
      cases h2 : itemsOf .revs xs with
      | none => simp only [h2] at hp; exact hp.elim
      | some ds =>
        simp only [h2] at hp
        obtain ⟨x, es, e1', e2, rfl⟩ := revs_items h2
        have rl : RL c σ p [v] [u] q e1 := rl_cons s s1 x1 Ext.refl r1 rl_nil
        obtain ⟨s2, x2, d2⟩ := rl.give s s1 x1 h1
        subst e1'
        cases d2 with
        | cons dx _ =>
        obtain ⟨a', e3, e4⟩ := src_of (L := true) (v := .d x) s2 dx (fun _ => rfl) rfl e2
        rcases e4 with ⟨_, e4⟩ | ⟨_, e4⟩
        · obtain ⟨vs, z1, z2⟩ := e4.at
          exact ⟨a', vs, e3, .inl ⟨z1, by rw [z2.length]; exact hp _ ⟨q.H, fun a => q.W a ∧ ¬ givenP [u] [v] a, q.μ⟩ s2 x2 ⟨_, wlk_rev true a' es, (fun _ => SrcL.later rfl), e4⟩⟩⟩
        · obtain ⟨vs, z1, z2⟩ := id e4
          exact ⟨a', vs, e3, .inr ⟨z1, by rw [z2.length]; exact hp _ ⟨q.H, fun a => q.W a ∧ ¬ givenP [u] [v] a, q.μ⟩ s2 x2 ⟨_, wlk_revT a' es, (fun _ => SrcT.later), e4⟩⟩⟩

/-! ### x.append(y.pop(e)) -/
theorem ix_seq {n : Nat} {i : Int} {p : Nat} (h : ixOf n i = some p) (hn : n ≤ lim) : seqIndex? i n = some p ∧ -(2 ^ 63) ≤ i ∧ i < 2 ^ 63 := by
  have hl : lim = 1000000 := rfl
  unfold ixOf at h
  split at h
  · split at h
    · cases h
      exact ⟨seqIndex_of (by assumption) (by assumption), by omega, by omega⟩
    · cases h
  · split at h
    · cases h
      exact ⟨seqIndex_neg (by omega) (by omega), by omega, by omega⟩
    · cases h
theorem snds_appPop {i j : Nat} {x y : Str} {px py apos apos2 cpos cpos2 : Pos} (hi : c.X.N[i]? = some x) (hv : Vis c.X.env.scope x) (hd : (x == ("__debug__" : Str)) = false) (hcd : (x == ("__classdict__" : Str)) = false) (hline : (apos.endLine == cpos.line) = true)
    (hi2 : c.X.N[j]? = some y) (hv2 : Vis c.X.env.scope y) (hd2 : (y == ("__debug__" : Str)) = false) (hcd2 : (y == ("__classdict__" : Str)) = false) (hline2 : (apos2.endLine == cpos2.line) = true) (ha : Snd c sa a) :
    SndS c (fun e m => match ownAt e i, ownAt e j with
    | some _, some _ => (sa.v e m).bind fun v e m => match v, ownAt e i, ownAt e j with
      | .d (.int k), some xs, some ys => match ixOf ys.length k with
        | some p => match ys[p]? with
          | some y => if xs.length < lim ∧ i ≠ j ∧ ys.length ≤ lim then .ok .nx ((e.set j (some (.own (ys.eraseIdx p)))).set i (some (.own (xs ++ [y])))) m else .stuck
          | none => .stuck
        | none => .stuck
      | _, _, _ => .stuck
    | _, _ => .stuck) (.Expr (.Call (.Attribute (.Name x px) "append" apos) [.Call (.Attribute (.Name y py) "pop" apos2) [a] [] cpos2] [] cpos) pos) := fun σ p e m D s hp => by
  have ppop : PE c.X (.Call (.Attribute (.Name y py) "pop" apos2) [a] [] cpos2) _ := pe_bm PySem.F.plainAttrs_list PySem.F.slot_list_pop PySem.F.type_list_pop mt_popAt (pe_var hi2 hv2 hd2 hcd2) (pa_wa (es := [a])) name_base (few1 ha.sy _ _) hline2 (ha.sy.ns _ _) (plain1 _ _)
  refine ws_of (ps_expr (pe_bm PySem.F.plainAttrs_list PySem.F.slot_list_append PySem.F.type_list_append mt_append (pe_var hi hv hd hcd) (pa_cons ppop pa_nil rfl) name_base rfl hline rfl rfl) (by rfl)) ?_
  cases h0 : ownAt e i with
  | none => simp only [h0] at hp; exact hp.elim
  | some xs0 =>
  cases h0' : ownAt e j with
  | none => simp only [h0, h0'] at hp; exact hp.elim
  | some ys0 =>
  simp only [h0, h0'] at hp
  obtain ⟨z, h5, b, vs, rfl, h7, h8, h9⟩ := s.env i _ (own_at h0)
  obtain ⟨z', k5, b', vs', rfl, k7, k8, k9⟩ := s.env j _ (own_at h0')
  refine ⟨_, h5, .inl ⟨rfl, vs, .inl (.inl h7)⟩, ?_⟩
  refine ⟨_, k5, .inl ⟨rfl, vs', .inl (.inl k7)⟩, wa_cons ha.sy (ha.v σ p e m _ s (PostS.bind s hp fun v e1 m1 hp u q s1 x1 r1 => ?_))⟩
  split at hp
  · rename_i k xs ys h1 h2
    split at hp
    · rename_i pp h3
      split at hp
      · rename_i y hy
        split at hp
        · rename_i hc
          obtain ⟨c1, c2, c3⟩ := hc
          cases r1.1
          have he := own_at h1
          have he' := own_at h2
          obtain ⟨z, i5, a1, ws, rfl, i7, i8, i9⟩ := s1.env i _ he
          rw [h5] at i5
          cases i5
          obtain ⟨z, j5, a2, ws', rfl, j7, j8, j9⟩ := s1.env j _ he'
          rw [k5] at j5
          cases j5
          obtain ⟨g1, g2, g3⟩ := ix_seq h3 c3
          obtain ⟨w, hw, dw⟩ := j8.get hy
          obtain ⟨s2, l2⟩ := s1.wrOwn he' k5 j7 j9 (j8.eraseIdx pp)
          have hne : b ≠ b' := fun z => s1.dis i j xs ys b c2 he he' h5 (by rw [z]; exact k5)
          have he2 : (e1.set j (some (.own (ys.eraseIdx pp))))[i]? = some (some (.own xs)) := by rw [List.getElem?_set_ne (Ne.symm c2)]; exact he
          obtain ⟨z, n5, a3, us, rfl, n7, n8, n9⟩ := s2.env i _ he2
          rw [h5] at n5
          cases n5
          have dw2 : Dq c.X.K (upd q.H b' (.lst (ws'.eraseIdx pp))) q.W w y := dw.keep s1.st.wok l2.keep l2.wk
          obtain ⟨s3, l3⟩ := s2.wrOwn he2 h5 n7 n9 (n8.append (.cons dw2 .nil))
          refine wa_of pa_nil ⟨b', ws', k, pp, w, rfl, rfl, j7, g2, g3, by rw [j8.length]; exact g1, hw, ?_⟩
          exact ⟨b, us, w, rfl, rfl, n7, by rw [n8.length]; exact lim_lt c1, hp σ _ s3 (((x1.lat s).trans l2).trans l3)⟩
        · exact hp.elim
      · exact hp.elim
    · exact hp.elim
  · exact hp.elim
end

/-! ### a, b = x, y by a tuple -/
section
variable {c : Cn} {σ : L2.St} {p q : Po} {e : Slots} {m : Cels} {pos : Pos}
theorem names_run {K : PySem.W.Frag} : ∀ {is : List Nat} {us : List V} {σ : L2.St} {H : Hp} {Q : L2.St → Hp → Prop}, us.length = is.length → Q ((is.zip us).foldl (fun σ z => σ.set z.1 (some z.2)) σ) H → tgGs K (is.map .v) us σ H Q
  | [], [], _, _, _, _, h => ⟨rfl, h⟩
  | i :: is, u :: us, _, _, _, hl, h => ⟨u, us, rfl, names_run (is := is) (us := us) (by simpa using hl) h⟩
theorem snds_parT {is : List Nat} {ss : List Sm} {ts vs : List Expr} {kt k2 : Nat} {pt pt2 : Pos} (hc : c.X.calm = true) (hN : c.X.N.Nodup) (ht : TgOk c.X (.t (is.map .v)) (.Tuple ts kt pt)) (hs : Paired (Snd c) ss vs) (hl : is.length ≤ 10)
    (hw : swappedStores [.Tuple ts kt pt] (.Tuple vs k2 pt2) c.X.env = pure none) (hss : swapsWithSole [.Tuple ts kt pt] (.Tuple vs k2 pt2) pos.line c.X.env = pure false) :
    SndS c (fun e m => (smG ss e m).bind fun vs e m => match parB is vs e with
      | some e => .ok .nx e m
      | none => .stuck) (.Assign [.Tuple ts kt pt] (.Tuple vs k2 pt2) pos) := fun σ p e m D s hp => by
  refine ws_of (ps_asg (pe_tup pa_wa) (tg_pg hc hN ht) hss hw rfl) ?_
  refine snds_g hs s (PostS.bind s hp fun vs e1 m1 hp us q s1 x1 r1 => ?_)
  cases hb : parB is vs e1 with
  | none => simp only [hb] at hp; exact hp.elim
  | some e2 =>
    simp only [hb] at hp
    have len : ∀ {is : List Nat} {vs : List Vl} {e e' : Slots}, parB is vs e = some e' → is.length = vs.length := by
      intro is
      induction is with
      | nil => intro vs e e' h; cases vs with | nil => rfl | cons _ _ => unfold parB at h; cases h
      | cons i is ih =>
        intro vs e e' h
        cases vs with
        | nil => unfold parB at h; cases h
        | cons v vs =>
          unfold parB at h
          split at h
          · rw [List.length_cons, List.length_cons, ih h]
          · cases h
    have hul : us.length = is.length := by rw [Paired.len r1.lr, len hb]
    have s2 := par_run s1 (Paired.mapP r1.lr fun u v z => ⟨z.1, z.2.1⟩) r1.ap hb
    refine ⟨lim_ok (by rw [hul]; exact Nat.le_trans hl (by decide +kernel)), fun a hn => ?_⟩
    have g := same_new (o := HO.tup us) hn
    refine ⟨a, us, rfl, .inl (.inl upd_same), ?_, names_run hul ?_⟩
    · rw [hul, List.length_map]
    · exact hp _ ⟨_, q.W, q.μ⟩ (s2.grow g) ((x1.lat s).trans ((Ext.grow (σ := σ) (e := e1) (μ := q.μ) (W := q.W) g).later s1.st))
end
end Pv

/-! PvS11: a set of the ints of a list, as a set that can be walked (SetR). -/
namespace Pv
open PySem PySem.Spec PyProof.Rows L2
section
variable {P : Program} {w : World} {A : Around} {E : Value → Shared → Prop} {s : Shared}
/-- an empty set's object -/
abbrev eSet (w : World) : Obj := { cls := .type "set", dict := none, data := .set #[] 0 (.fresh 0 0 (!w.params.followText "set-order")) }
theorem ints_at {items : Array Value} {ns : List Int} (h : IntsAre items.toList ns) : items.size = ns.length ∧ ∀ (i : Nat) (v : Value), items[i]? = some v → ∃ k t, ns[i]? = some k ∧ v = .int k t := by
  have hz : items.size = ns.length := by
    have := IntsAre.length h
    rwa [Array.length_toList] at this
  refine ⟨hz, fun i v hv => ?_⟩
  have hi : i < ns.length := by
    have := (Array.getElem?_eq_some_iff.mp hv).1
    omega
  obtain ⟨t, e⟩ := PyProof.Rows.IntsAre.int_at h i v (by rw [Array.getElem?_toList]; exact hv)
  have e2 : ns.getD i 0 = ns[i] := by simp [List.getD_eq_getElem?_getD, hi]
  exact ⟨ns[i], t, List.getElem?_eq_getElem hi, by rw [e, e2]⟩
/-- what the new set's filling leaves -/
def Filled (w : World) (s : Shared) (ns : List Int) (s' : Shared) : Prop := ∃ h' tk c, s' = { s with heap := h', toks := tk } ∧ SetR w h' s.heap.objs.size (fun j => decide (j ∈ ns)) c ∧ c ≤ ns.length ∧ ∀ b o, s.heap.get? b = some o → h'.get? b = some o
theorem set_of_list {l : Addr} {items : Array Value} (ns : List Int) {Q : Value → Shared → Prop} (hh : A.handled = none) (hl : s.heap.IsList l items) (hit : IntsAre items.toList ns) (hb : ns.length + 1 < scanBound)
    (h : ∀ s', Filled w s ns s' → Q (.ref s.heap.objs.size) s') : wpAny (model P w) A (call (.type "set") [.ref l]) Q E s := by
  obtain ⟨hz, hval⟩ := ints_at hit
  have lt : l < s.heap.objs.size := by
    obtain ⟨ol, hol, _⟩ := hl
    exact Heap.lt_size hol
  obtain ⟨_, _, hmro⟩ := F.called_set.mro
  have hmade := F.called_set.made
  have hsub := F.called_set.sub
  have h1 := F.called_set.notType
  have h2 := F.called_set.canCreate
  have hct := F.typeCall_set_1 (.ref l)
  refine wpAny_call (codeAny_of_tree ?_)
  show wpAny _ _ (callAny (.type "set") _) _ _ _
  refine wpAny_pure ⟨Code.quiet_builtin _ (by decide +kernel), codeAny_builtin F.entry_type_call ?_⟩
  rw [Around.under_plain (weight_type_call_type "set" [.ref l] []) rfl]
  repeat (any_goals (first | assumption | wp_step))
  refine codeAny_mono (code_set_led1 (.ref l) (E := E) (Q₁ := fun obj s₁ => obj = .ref s.heap.objs.size ∧ s₁ = { s with heap := s.heap.push (eSet w) }) ⟨rfl, rfl⟩) fun r s₁ hr => ?_
  rcases r with e | fl
  · exact hr
  cases fl with
  | ret obj =>
    obtain ⟨rfl, rfl⟩ := hr
    have hS : (s.heap.push (eSet w)).get? s.heap.objs.size = some (eSet w) := Heap.get?_push_size _ rfl
    have hT : Shared.TypeIs { s with heap := s.heap.push (eSet w) } (.ref s.heap.objs.size) "set" := ⟨_, hS, rfl⟩
    have hli := F.called_set.init.lookup
    have hbi := F.called_set.init.bind (.ref s.heap.objs.size)
    repeat (any_goals (first | assumption | wp_step))
    refine codeAny_mono (codeAny_call_builtin (R := wants (fun r s₂ => r = .none ∧ Filled w s ns s₂) E) F.called_set.init.plain F.entry_set_init (check_set_init_1 hT ?_)) fun r₂ s₂ hr₂ => ?_
    · obtain ⟨⟨ocls, odict, odata, oslots⟩, hol, hcl, nl, hdl⟩ := hl
      simp only at hcl hdl
      subst hcl; subst hdl
      have hol' : (s.heap.push (eSet w)).get? l = some { cls := .type "list", dict := odict, data := .seq items nl, slots := oslots } := Heap.get?_push_of_some _ hol
      have hl1 : (s.heap.push (eSet w)).IsList l items := ⟨_, hol', rfl, nl, rfl⟩
      have f1 := F.sub_list_set
      have f2 := F.sub_list_frozenset
      have f3 : (Value.type "list" == Value.type "dict") = false := by decide
      have hh3 : A.in1.in1.in1.handled = none := by simp [hh]
      have sz : (s.heap.push (eSet w)).objs.size = s.heap.objs.size + 1 := Heap.size_push ..
      have hne : l ≠ (s.heap.push (eSet w)).objs.size := by rw [sz]; exact Nat.ne_of_lt (Nat.lt_succ_of_lt lt)
      have hout : s.heap.objs.size ∉ [(s.heap.push (eSet w)).objs.size, l] := by
        rw [sz]
        intro z
        rcases List.mem_cons.mp z with z | z
        · exact Nat.ne_of_lt (Nat.lt_succ_self _) z
        · exact Nat.ne_of_gt lt (List.mem_singleton.mp z)
      unfold Builtin.«set.__init__» noKeywords Builtin.Frozenset.updateFrom
      generalize hPI : pyIter = PI
      wp_walk
      subst hPI
      refine wpAny_pyIter_list hl1 (wpAny_bind (wpAny_runValue ?_))
      refine set_update_ints ((Walks.list hh3 _ l hne items).toS) s.heap.objs.size hout ns hz hb hval (items.size - 0) 0 _ (by omega) (Nat.zero_le _) ⟨⟨_, Heap.get?_push_size _ rfl, rfl, rfl⟩, hl1.push _⟩ ⟨0, Nat.le_refl 0, setR_new_at (Heap.get?_push_of_some _ hS)⟩ ?_
      intro s' c' hm hc' hS'
      obtain ⟨h', g2, d', tk', os'⟩ := s'
      obtain rfl : g2 = s.gens := hm.gens
      obtain rfl : d' = s.drawn := hm.drawn
      obtain rfl : os' = s.os := hm.os
      refine wpAny_pure ?_
      show wpAny _ _ (ret Value.none) _ _ _
      rw [hz] at hc'
      refine wpAny_pure ⟨rfl, h', tk', c', rfl, hS', hc', fun b o e => ?_⟩
      have hb0 : b < s.heap.objs.size := Heap.lt_size e
      refine hm.heap b o (fun z => ?_) (Heap.get?_push_of_some _ (Heap.get?_push_of_some _ e))
      rcases List.mem_cons.mp z with z | z
      · exact Nat.ne_of_lt hb0 z
      · have z := List.mem_singleton.mp z
        rw [sz] at z
        exact Nat.ne_of_lt (Nat.lt_succ_of_lt hb0) z
    · rcases r₂ with e | fl₂
      · exact hr₂
      cases fl₂ with
      | ret r =>
        obtain ⟨rfl, hF⟩ := hr₂
        repeat (any_goals (first | assumption | wp_step))
        exact h _ hF
      | _ => exact hr₂.elim
  | _ => exact hr.elim
end
end Pv

/-! PvS12: sorted(set(xs)). -/
namespace Pv
open PySem PySem.Spec PyProof.Rows L2
/-! ### ascending, each once -/
theorem mem_insU (x k : Int) : ∀ l, k ∈ insU x l ↔ k = x ∨ k ∈ l
  | [] => by simp [insU]
  | y :: r => by
    unfold insU
    split
    · simp
    · split
      · rename_i h
        subst h
        simp
      · rw [List.mem_cons, mem_insU x k r, List.mem_cons]
        constructor <;> (intro h; rcases h with h | h | h <;> simp [h])
theorem mem_sortU (k : Int) : ∀ l, k ∈ sortU l ↔ k ∈ l
  | [] => by simp [sortU]
  | x :: r => by rw [sortU, mem_insU, mem_sortU k r, List.mem_cons]
theorem insU_asc (x : Int) : ∀ l : List Int, l.Pairwise (· < ·) → (insU x l).Pairwise (· < ·)
  | [], _ => by simp [insU]
  | y :: r, h => by
    have h' := List.pairwise_cons.mp h
    unfold insU
    split
    · rename_i hxy
      refine List.pairwise_cons.mpr ⟨fun z hz => ?_, h⟩
      rcases List.mem_cons.mp hz with e | e
      · omega
      · have := h'.1 z e; omega
    · split
      · exact h
      · refine List.pairwise_cons.mpr ⟨fun z hz => ?_, insU_asc x r h'.2⟩
        rcases (mem_insU x z r).mp hz with e | e
        · omega
        · exact h'.1 z e
theorem sortU_asc : ∀ l, (sortU l).Pairwise (· < ·)
  | [] => by simp [sortU]
  | x :: r => insU_asc x _ (sortU_asc r)
theorem ascI_ext : ∀ {a b : List Int}, a.Pairwise (· < ·) → b.Pairwise (· < ·) → (∀ x, x ∈ a ↔ x ∈ b) → a = b
  | [], [], _, _, _ => rfl
  | [], y :: _, _, _, h => by have := (h y).mpr List.mem_cons_self; cases this
  | x :: _, [], _, _, h => by have := (h x).mp List.mem_cons_self; cases this
  | x :: xs, y :: ys, ha, hb, h => by
    have ha' := List.pairwise_cons.mp ha
    have hb' := List.pairwise_cons.mp hb
    have e : x = y := by
      rcases List.mem_cons.mp ((h x).mp List.mem_cons_self) with r | r
      · exact r
      · rcases List.mem_cons.mp ((h y).mpr List.mem_cons_self) with r' | r'
        · exact r'.symm
        · have := ha'.1 y r'
          have := hb'.1 x r
          omega
    subst e
    congr 1
    refine ascI_ext ha'.2 hb'.2 fun z => ?_
    have hz := h z
    constructor
    · intro hm
      have : x < z := ha'.1 z hm
      rcases List.mem_cons.mp (hz.mp (List.mem_cons_of_mem _ hm)) with r | r
      · omega
      · exact r
    · intro hm
      have : x < z := hb'.1 z hm
      rcases List.mem_cons.mp (hz.mpr (List.mem_cons_of_mem _ hm)) with r | r
      · omega
      · exact r
/-- a set's number of members -/
theorem setR_len {w : World} {h : Heap} {a : Addr} {ns : List Int} {c : Nat} (R : SetR w h a (fun j => decide (j ∈ ns)) c) : c = (sortU ns).length := by
  obtain ⟨o, es, ep, t, ho, hx, hd, g, nd, hm, hb, hf, hn, _⟩ := R
  have h1 : ∀ k, k ∈ es.toList.map keyOf ↔ k ∈ sortU ns := fun k => by
    rw [← hm k, mem_sortU, decide_eq_true_eq]
  have h2 : (sortU ns).Nodup := (sortU_asc ns).imp fun h => by omega
  have h3 : c = (es.toList.map keyOf).length := by
    rw [List.length_map, Array.length_toList]; exact hn.symm
  have h4 := nd.length_le_of_subset fun k hk => (h1 k).mp hk
  have h5 := h2.length_le_of_subset fun k hk => (h1 k).mpr hk
  omega
section
variable {P : Program} {w : World} {A : Around} {E : Value → Shared → Prop} {s : Shared}
theorem set_of_any {l : Addr} (ns : List Int) {Q : Value → Shared → Prop} (hh : A.handled = none) (hl : (∃ items : Array Value, s.heap.IsList l items ∧ IntsAre items.toList ns) ∨ ∃ items : Array Value, s.heap.IsTuple l items ∧ IntsAre items.toList ns) (hb : ns.length + 1 < scanBound)
    (h : ∀ (h' : Heap) (tk c : Nat), SetR w h' s.heap.objs.size (fun j => decide (j ∈ ns)) c → (∀ b o, s.heap.get? b = some o → h'.get? b = some o) → Q (.ref s.heap.objs.size) { s with heap := h', toks := tk }) : wpAny (model P w) A (call (.type "set") [.ref l]) Q E s := by
  rcases hl with ⟨items, h1, h2⟩ | ⟨items, h1, h2⟩
  · exact set_of_list ns hh h1 h2 hb fun s2 ⟨h', tk, c, e2, hS, _, hk⟩ => by subst e2; exact h h' tk c hS hk
  · exact call_set_tupI ns hh h1 h2 hb fun h' tk c hS _ hk => h h' tk c hS hk
end
section
variable {X : Cx}
/-- sorted(set(xs)), xs a list of fewer than 64 ints -/
def tSortSet (K : PySem.W.Frag) (ta : TE) : TE := fun σ H Q => ta σ H fun x H1 => ∃ (l : Addr) (ns : List Int), x = .ref l ∧ (SqL K H1 l (ns.map V.int) ∨ SqT K H1 l (ns.map V.int)) ∧ (ns.length ≤ 4000 ∧ (sortU ns).length < 64) ∧
  ∀ (os : List Int) (p : Addr), os.Pairwise (· < ·) → (∀ k, k ∈ os ↔ k ∈ ns) → H1 p = none → Q (.ref p) (upd H1 p (.lst (os.map V.int)))
theorem pe_sortSet {a : Expr} {ta : TE} {p p2 q pos : Pos} (hc : X.calm = true) (hg : Gl X "sorted") (hm : X.mg "sorted" = none) (hg2 : Gl X "set") (hm2 : X.mg "set" = none) (ha : PE X a ta)
    (na : starEach [a] X.env = (false, eval a X.env) :: starEach [] X.env := by rfl) : PE X (.Call (.Name "sorted" p) [.Call (.Name "set" p2) [a] [] q] [] pos) (tSortSet X.K ta) := by
  refine ⟨fun pins s σ H Q I h => ?_⟩
  refine Call_ (ld_blt I hg hm PyProof.Rows.boot_sorted ?_)
  refine PyProof.Rows.callWith_builtin1 (PyProof.Rows.args_cons ?_ rfl) rfl rfl
  refine Call_ (ld_blt I hg2 hm2 PyProof.Rows.boot_set ?_)
  refine PyProof.Rows.callWith_type1 (PyProof.Rows.args_cons (thn (ha.run pins s σ H _ I h) fun v s1 ⟨x, H1, I1, r1, q1⟩ => PyProof.Rows.args_nil ?_) na) na rfl
  obtain ⟨l, ns, rfl, hq, hl, q1⟩ := q1
  cases r1
  have hseq : (∃ items : Array Value, s1.heap.IsList l items ∧ IntsAre items.toList ns) ∨ ∃ items : Array Value, s1.heap.IsTuple l items ∧ IntsAre items.toList ns := by
    rcases hq with hq | hq
    · obtain ⟨its, r, pl, hz⟩ := I1.list hq
      exact .inl ⟨its.toArray, pl.isList, ints_of_vals r⟩
    · obtain ⟨its, r, pl, hz⟩ := I1.tuple hq
      exact .inr ⟨its.toArray, pl, ints_of_vals r⟩
  refine set_of_any ns (I1.ok.hd hc) hseq (by unfold scanBound; omega) fun h' tk c hS hk => ?_
  refine PyProof.Rows.args_nil ?_
  have I2 : Inv X pins σ H1 { s1 with heap := h', toks := tk } := I1.kept hk
  have hlc := setR_len hS
  refine sorted_set (s := { s1 with heap := h', toks := tk }) hS (I2.ok.hd hc) (by omega) fun s' p out c2 os k g o hp hg' hi' hs' hm' hl' => ?_
  have hlen : (os.map V.int).length ≤ sizeLine := by rw [List.length_map, hl', sizeLine_eq]; omega
  have hn : H1 p = none := I2.hok.fresh hp
  have J := I2.call' (s' := s') (H' := upd H1 p (.lst (os.map V.int))) (ch := []) o (Un.laid k hp hn) (I2.hok.laid k hp ⟨hlen, out.toList, c2, vals_of_ints hi', hg'⟩) (by rw [g]; exact I2.bare) (fun _ z => nomatch z)
  exact ⟨.ref p, _, J, rfl, q1 os p hs' (fun j => by rw [hm' j, decide_eq_true_eq]) hn⟩
end
section
variable {c : Cn} {sa : Sm} {a : Expr} {pn pp p2 pos : Pos}
theorem snd_sset (hc : c.X.calm = true) (hg : Gl c.X "sorted") (hm : c.X.mg "sorted" = none) (hg2 : Gl c.X "set") (hm2 : c.X.mg "set" = none) (ha : Snd c sa a) : Snd c (.mk' (one1 ssetD sa)) (.Call (.Name "sorted" pn) [.Call (.Name "set" pp) [a] [] p2] [] pos) := by
  refine snd_mk (fun σ p e m Q s hp => pe.we (pe_sortSet hc hg hm hg2 hm2 pe_we (ha.sy.ns [] c.X.env)) ?_) rfl rfl
  have hp : Post c σ p e (RV c σ false p) (one1 ssetD sa e m) Q := hp
  refine one ha s hp fun v e2 m2 x q s2 x2 lx hk => ?_
  cases h1 : dat m2 v with
  | none => simp only [h1] at hk; exact hk.elim
  | some d1 =>
    simp only [h1] at hk
    cases hsq : seqOf d1 with
    | none => simp only [ssetD, hsq] at hk; exact hk.elim
    | some xs =>
      obtain ⟨a', vs, rfl, h3, h2⟩ := (lk_of s2 lx h1).seq hsq
      cases hn : intsOf xs with
      | none => simp only [ssetD, hsq, hn] at hk; exact hk.elim
      | some ns =>
        by_cases hl : ns.length ≤ 4000 ∧ (sortU ns).length < 64
        · simp only [ssetD, hsq, hn, hl, if_true, and_self] at hk
          have hk : Post c σ q e2 (RV c σ false p) (.ok (.own ((sortU ns).map PyData.int)) e2 m2) Q := hk
          obtain ⟨e1, e3⟩ := h3.ints hn
          subst e1
          refine ⟨a', ns, rfl, h2.imp .inl id, hl, fun os z ho hmo hz => ?_⟩
          have : os = sortU ns := ascI_ext ho (sortU_asc ns) fun k => by rw [hmo, mem_sortU]
          subst this
          exact (ret_of s2 (Post.reV x2 hk)).lst s2.st.wok (DqAll.of_ints _) z hz
        · simp only [ssetD, hsq, hn, hl, if_false] at hk; exact hk.elim
end
end Pv

/-! PvS13: list comprehensions with two fors. -/
namespace Pv
open PySem PySem.Spec PyProof.Rows L2
theorem wipe_ext {σ τ : L2.St} {vs us : List Nat} (hl : σ.length = τ.length) (h : ∀ i, i < σ.length → (if i ∈ vs then some none else σ[i]?) = if i ∈ us then some none else τ[i]?) : wipe σ vs = wipe τ us := by
  apply List.ext_getElem?
  intro i
  rw [wipe_at, wipe_at]
  by_cases hi : i < σ.length
  · have := h i hi
    simp only [hi, hl ▸ hi, and_true]
    exact this
  · rw [if_neg (fun z => hi z.2), if_neg (fun z => hi (hl ▸ z.2)), List.getElem?_eq_none (by omega), List.getElem?_eq_none (by omega)]
theorem wipe_in {σ : L2.St} {vs us : List Nat} (h : ∀ i ∈ us, i ∈ vs) : wipe (wipe σ us) vs = wipe σ vs := by
  refine wipe_ext (wipe_length ..) fun i hi => ?_
  rw [wipe_length] at hi
  by_cases h1 : i ∈ vs
  · rw [if_pos h1, if_pos h1]
  · rw [if_neg h1, if_neg h1, wipe_at, if_neg fun z => h1 (h i z.1)]
section
variable {M : Mo} {K : PySem.W.Frag} {σ : L2.St} {H H1 : Hp} {W W1 : Addr → Prop} {μ μ1 : List Addr} {e e1 : Slots}
theorem Ext.transG {τ : L2.St} {H2 : Hp} {W2 : Addr → Prop} {μ2 : List Addr} {e2 : Slots} (wm : ∀ a ∈ μ, H a ≠ none) (x : Ext σ H W μ e H1 W1 μ1 e1) (y : Ext τ H1 W1 μ1 e1 H2 W2 μ2 e2) (ho : ∀ a, OwnS e1 τ a → OwnS e σ a) : Ext σ H W μ e H2 W2 μ2 e2 where
  keep := fun a o h n => y.keep a o (x.keep a o h n) fun z => (x.new a z).elim (fun z => n z) fun z => by rw [h] at z; cases z
  there := fun a h => y.there a (x.there a h)
  wk := fun a h z => x.wk a h (y.wk a (x.there a h) z)
  pre := by
    obtain ⟨r, h⟩ := x.pre
    obtain ⟨r', h'⟩ := y.pre
    exact ⟨r ++ r', by rw [h', h, List.append_assoc]⟩
  new := fun a z => (y.new a z).elim (fun z => x.new a z) fun z => by
    by_cases h : H a = none
    · exact .inr h
    · exact absurd z (x.there a h)
  wd := fun a z => (x.wd a z).elim (fun z => (y.wd a z).imp id fun z => ho a z) .inr
  el := fun i xs h => x.el i xs (y.el i xs h)
theorem Later.wr {a : Addr} {o : HO} (h : W a) : Later H W (upd H a o) W :=
  ⟨fun b u q n => by rw [upd_ne (fun z => n (by rw [z]; exact h))]; exact q, fun b q z => by
    by_cases hb : b = a
    · rw [hb, upd_same] at z; cases z
    · rw [upd_ne hb] at z; exact q z, fun _ _ z => z⟩
/-- an own list of the inner slots is one of the outer -/
theorem own_cross {σ2 : L2.St} {vs vs1 : List Nat} {ej : Slots} (hl : e.length = σ.length) (hwp : wipe σ2 vs = wipe σ vs) (hv1 : ∀ i ∈ vs1, i ∈ vs) (x : Ext (wipe σ vs) H W μ (wipeE e vs) H1 W1 μ1 ej) (hlj : ej.length = (wipe σ2 vs1).length) :
    ∀ a, OwnS ej (wipe σ2 vs1) a → OwnS (wipeE e vs) (wipe σ vs) a := by
  rintro a ⟨i, xs, h1, h2⟩
  have h3 := x.el i xs h1
  refine ⟨i, xs, h3, ?_⟩
  obtain ⟨h4, h5⟩ := wipeE_some h3
  have hi : i < e.length := (List.getElem?_eq_some_iff.mp h4).1
  have hiv : i ∉ vs := fun z => h5 ⟨z, hi⟩
  rw [← hwp, wipe_at, if_neg (fun z => hiv z.1)]
  rw [wipe_at, if_neg (fun z => hiv (hv1 i z.1))] at h2
  exact h2
end
section
variable {c : Cn} {scope : Scope}
theorem comp2L_cons {α : Type} {tg : Tg} {own own1 : List Nat} {it1 : Slots → Cels → Res (List D)} {turn1 : D → Slots → Cels → Res (Option D)} {d : D} {ds acc : List D} {e : Slots} {m : Cels} {k : List D → Slots → Cels → Res α} {P : Res α → Prop} (hp : P ((comp2L tg own own1 it1 turn1 (d :: ds) acc e m).bind k)) (hno : ¬ P .stuck) :
    ∃ e1 items e2 m2 acc' e3 m3, bindT tg (.d d) e = some e1 ∧ it1 e1 m = .ok items e2 m2 ∧ compL turn1 items acc (wipeE e2 own1) m2 = .ok acc' e3 m3 ∧ P ((comp2L tg own own1 it1 turn1 ds acc' (wipeE (wipeE e3 own1) own) m3).bind k) := by
  unfold comp2L at hp
  split at hp
  · rename_i e1 h1
    split at hp
    · rename_i items e2 m2 h2
      split at hp
      · rename_i acc' e3 m3 h3
        exact ⟨e1, items, e2, m2, acc', e3, m3, h1, h2, h3, hp⟩
      · exact (hno hp).elim
    · exact (hno hp).elim
  · exact (hno hp).elim
theorem lc_ok {turn : D → Slots → Cels → Res (Option D)} {d : D} {ds acc acc' : List D} {e e' : Slots} {m m' : Cels} (h : compL turn (d :: ds) acc e m = .ok acc' e' m') :
    (∃ y e1 m1, turn d e m = .ok (some y) e1 m1 ∧ acc.length < lim ∧ compL turn ds (acc ++ [y]) e1 m1 = .ok acc' e' m') ∨ (∃ e1 m1, turn d e m = .ok none e1 m1 ∧ compL turn ds acc e1 m1 = .ok acc' e' m') := by
  unfold compL at h
  split at h
  · rename_i y e1 m1 h1
    split at h
    · rename_i hl
      exact .inl ⟨y, e1, m1, h1, hl, h⟩
    · cases h
  · rename_i e1 m1 h1
    exact .inr ⟨e1, m1, h1, h⟩
  · cases h
/-- what stays true through the inner turns -/
structure Turn2 (c : Cn) (σ : L2.St) (vs : List Nat) (q : Po) (e1 : Slots) (σ2 : L2.St) (vs1 : List Nat) (q3 : Po) (Dd : Addr) (acc : List D) (H : Hp) (W : Addr → Prop) (μ : List Addr) (e : Slots) (m : Cels) : Prop where
  s : SR c.M c.X.K c.B (wipe σ2 vs1) H W μ e m
  x : Ext (wipe σ vs) q.H q.W q.μ (wipeE e1 vs) H W μ e
  l : Later q3.H q3.W H W
  w : W Dd
  μn : Dd ∉ μ
  no : ¬ OwnS e (wipe σ2 vs1) Dd
  at_ : ∃ accV, H Dd = some (.lst accV) ∧ DqAll c.X.K H W accV acc
theorem comp2_run {k k1 : IK} {ss ss1 : List Sm} {tgE iter tgE1 iter1 elt : Expr} {own : List (Str × Nat)} {vs1 : List Nat} {tg tg1 : Tg} {scond se : Sm} {ifs : List Expr} (hi : SndI c k ss tgE iter) (hi1 : AllB c scope fun c' => SndI c' k1 ss1 tgE1 iter1)
    (hS : ∀ i ∈ tgSlots tg, i ∈ own.map (·.2)) (hS1 : ∀ i ∈ tgSlots tg1, i ∈ vs1) (hv1 : ∀ i ∈ vs1, i ∈ own.map (·.2)) (hcond : CondOk c scope scond ifs) (helt : AllB c scope fun c' => Snd c' se elt) :
    ∃ (wi wi1 : TI) (tt : TT) (te : TE), PI c.X tgE iter wi ∧ (∀ (s : Shared) (H : Hp) (C : Addr) (cl : List (Str × Addr)) (fp : List Addr), PI (c.X.blk s H scope (compEnvC scope cl C c.X.env) fp) tgE1 iter1 wi1) ∧
      (∀ (s : Shared) (H : Hp) (C : Addr) (cl : List (Str × Addr)) (fp : List Addr), PTs (c.X.blk s H scope (compEnvC scope cl C c.X.env) fp) ifs tt) ∧
      (∀ (s : Shared) (H : Hp) (C : Addr) (cl : List (Str × Addr)) (fp : List Addr), PE (c.X.blk s H scope (compEnvC scope cl C c.X.env) fp) elt te) ∧
      ∀ (σ : L2.St) (p : Po) (e : Slots) (m : Cels) (Q : VK), Sr c σ p e m → Post c σ p e (RV c σ false p) (comp2V tg (own.map (·.2)) k ss tg1 vs1 k1 ss1 scond se e m) Q → tLc2 wi (tgG c.X.K tg) tYes wi1 (tgG c.X.K tg1) tt te (own.map (·.2)) vs1 σ p.H Q := by
  obtain ⟨wi, hpi, hv, _⟩ := hi
  obtain ⟨tt, htt, rtt⟩ := cond_run hcond
  obtain ⟨te, hte, rte⟩ := elt_run helt
  let wi1 : TI := fun σ H R => ∀ (s : Shared) (H0 : Hp) (C : Addr) (cl : List (Str × Addr)) (fp : List Addr), Classical.choose (hi1 s H0 C cl fp) σ H R
  refine ⟨wi, wi1, tt, te, hpi, fun s H C cl fp => ⟨fun pins st σ H0 R I h => (Classical.choose_spec (hi1 s H C cl fp)).1.run pins st σ H0 R I (h s H C cl fp)⟩, htt, hte, fun σ p e m Q s0 hp => ?_⟩
  generalize hvs : own.map (·.2) = vs at hp hS hv1 ⊢
  refine hv σ p e m _ s0 (Post.bind hp fun items e1 m1 hp J q s1 x1 r1 => ?_)
  obtain ⟨F, wlk, _, hF⟩ := r1
  intro Dd hD
  let P : Res Vl → Prop := fun r => Post c σ p e (RV c σ false p) r Q
  let rest : List D → List D → Slots → Cels → Res Vl := fun ds acc e m => (comp2L tg vs vs1 (fun e m => itW (smG ss1 e m) k1) (turnC tg1 vs1 scond se) ds acc e m).bind fun xs e' m => .ok (.own xs) (restoreE e' e1 vs) m
  let Pv : Nat → Hp → Prop := fun i H => ∃ acc W μ e m, Turning c σ vs q e1 Dd acc H W μ e m ∧ P (rest (items.drop i) acc e m)
  have sw : SR c.M c.X.K c.B (wipe σ vs) q.H q.W q.μ (wipeE e1 vs) m1 := s1.wiped
  have g0 := same_new (o := HO.lst []) hD
  refine ⟨fun i n H => n = items.length - i ∧ i ≤ items.length ∧ Pv i H, ⟨items.length, by simp, Nat.zero_le _, [], _, q.μ, wipeE e1 vs, m1, ⟨sw.alloc g0 hD upd_same, Ext.alloc g0 hD, .inr rfl, fun z => sw.μt _ z hD, fun z => sw.ownT z hD, [], upd_same, .nil⟩, ?_⟩, ?_⟩
  · rw [List.drop_zero]
    exact hp
  · rintro i n H ⟨rfl, hi, acc, W, μ, ec, mc, T, hP⟩
    have hFc : F H W μ := wlk.keep sw.st T.x hF
    by_cases hlt : i < items.length
    · refine .inr ⟨wlk.go hFc hlt, Pv (i + 1), fun H' p' => ⟨items.length - (i + 1), by omega, rfl, hlt, p'⟩, fun u H' hy => ?_⟩
      have hd : items[i]? = some items[i] := List.getElem?_eq_getElem hlt
      obtain ⟨gg, dq⟩ := wlk.yld T.s.st.wok hFc hd hy
      have hP : P ((comp2L tg vs vs1 (fun e m => itW (smG ss1 e m) k1) (turnC tg1 vs1 scond se) (items[i] :: items.drop (i + 1)) acc ec mc).bind fun xs e' m => .ok (.own xs) (restoreE e' e1 vs) m) := by
        have : items.drop i = items[i] :: items.drop (i + 1) := List.drop_eq_getElem_cons hlt
        rw [← this]; exact hP
      obtain ⟨accV, hDl, hacc⟩ := T.at_
      have s2 := T.s.grow gg
      have x2 : Ext (wipe σ vs) q.H q.W q.μ (wipeE e1 vs) H' W μ ec := T.x.trans sw.μt (Ext.grow gg)
      obtain ⟨eb, its, e3, m3, acc', e4, m4, hb, hit, hin, hP'⟩ := comp2L_cons (P := P) hP (fun z => z)
      refine tg_run (W := W) s2.len dq hb fun σ2 tr => ?_
      have hwp : wipe σ2 vs = wipe σ vs := by
        have := wipe_tg tr hS
        exact this
      refine ⟨hwp, ?_⟩
      unfold tYes
      dsimp only
      rw [if_pos rfl]
      have s3 := s2.tg tr
      intro sB HB CB clB fpB
      refine (Classical.choose_spec (hi1 sB HB CB clB fpB)).2.2 σ2 ⟨H', W, μ⟩ eb mc _ s3 ?_
      have hit : itW (smG ss1 eb mc) k1 = .ok its e3 m3 := hit
      rw [hit]
      intro J1 q3 s4 x4 r4
      obtain ⟨F1, wlk1, hL1, hF1⟩ := r4
      have s4 : Sr c σ2 q3 e3 m3 := s4
      have x4' : Ext (wipe σ vs) H' W μ ec q3.H q3.W q3.μ e3 := Ext.tg tr x4
      have noD3 : ¬ OwnS e3 σ2 Dd := fun z => T.no (tr.ownS (x4.own z))
      have hD3 : q3.H Dd = some (.lst accV) := x4.keep Dd _ (gg _ _ hDl) T.μn
      have w3 : q3.W Dd := (x4'.wd Dd T.w).resolve_right T.no
      have μ3 : Dd ∉ q3.μ := fun z => by
        rcases x4.new Dd z with z | z
        · exact T.μn z
        · have z : H' Dd = none := z
          rw [gg _ _ hDl] at z; cases z
      have acc3 : DqAll c.X.K q3.H q3.W accV acc := x4.dqs s3.st (hacc.same T.s.st.wok gg)
      have sw1 : SR c.M c.X.K c.B (wipe σ2 vs1) q3.H q3.W q3.μ (wipeE e3 vs1) m3 := s4.wiped
      have X03 : Ext (wipe σ vs) q.H q.W q.μ (wipeE e1 vs) q3.H q3.W q3.μ e3 := x2.trans sw.μt x4'
      have hBn : c.B.H Dd = none := s1.base hD
      have T0 : Turn2 c σ vs q e1 σ2 vs1 q3 Dd acc q3.H q3.W q3.μ (wipeE e3 vs1) m3 := ⟨sw1, X03.wiped, .refl, w3, μ3, fun z => noD3 (ownS_wipe s4.len z), accV, hD3, acc3⟩
      let Pw : Nat → Hp → Prop := fun j H => ∃ acc W μ e m, Turn2 c σ vs q e1 σ2 vs1 q3 Dd acc H W μ e m ∧ compL (turnC tg1 vs1 scond se) (its.drop j) acc e m = .ok acc' e4 m4
      refine ⟨fun j n H => n = its.length - j ∧ j ≤ its.length ∧ Pw j H, ⟨its.length, by simp, Nat.zero_le _, acc, _, _, _, _, T0, by rw [List.drop_zero]; exact hin⟩, ?_⟩
      rintro j n H5 ⟨rfl, hj, accj, Wj, μj, ej, mj, Tj, hPj⟩
      have hFj : F1 H5 Wj μj := hL1 rfl s4.st Tj.s.st Tj.l hF1
      by_cases hjl : j < its.length
      · refine .inr ⟨wlk1.go hFj hjl, Pw (j + 1), fun H' p' => ⟨its.length - (j + 1), by omega, rfl, hjl, p'⟩, fun u1 H6 hy1 => ?_⟩
        have hdj : its[j]? = some its[j] := List.getElem?_eq_getElem hjl
        obtain ⟨gj, dqj⟩ := wlk1.yld Tj.s.st.wok hFj hdj hy1
        have hPj : compL (turnC tg1 vs1 scond se) (its[j] :: its.drop (j + 1)) accj ej mj = .ok acc' e4 m4 := by
          have : its.drop j = its[j] :: its.drop (j + 1) := List.drop_eq_getElem_cons hjl
          rw [← this]; exact hPj
        obtain ⟨accJ, hDj, hacj⟩ := Tj.at_
        have sj := Tj.s.grow gj
        have xj : Ext (wipe σ vs) q.H q.W q.μ (wipeE e1 vs) H6 Wj μj ej := Tj.x.trans sw.μt (Ext.grow gj)
        have lj : Later q3.H q3.W H6 Wj := Tj.l.trans ((Ext.grow (σ := wipe σ vs) (μ := μj) (e := ej) gj).later Tj.s.st)
        have hoj := own_cross s1.len hwp hv1 xj sj.len
        have turn : ∀ {r : Option D} {e' : Slots} {m' : Cels}, turnC tg1 vs1 scond se its[j] ej mj = .ok r e' m' →
            (∀ accV' Hn Wn μn, Turn2 c σ vs q e1 σ2 vs1 q3 Dd (match r with
              | some y => accj ++ [y]
              | none => accj) Hn Wn μn e' m' → Hn Dd = some (.lst accV') → Pw (j + 1) Hn) → (∀ y, r = some y → accj.length < lim) →
            tgG c.X.K tg1 u1 (wipe σ2 vs1) H6 fun σ5 H7 => wipe σ5 vs1 = wipe σ2 vs1 ∧ tt σ5 H7 fun b H8 =>
              if b = true then te σ5 H8 fun y H9 => ∃ acc, H9 Dd = some (.lst acc) ∧ acc.length < sizeLine ∧ Pw (j + 1) (upd H9 Dd (.lst (acc ++ [y]))) else Pw (j + 1) H8 := by
          intro r e' m' ht hfin hlim
          obtain ⟨ebj, b, e6, m6, hbj, hcn, hrest⟩ := turn_ok ht
          refine tg_run (W := Wj) sj.len dqj hbj fun σ5 trj => ?_
          have hwj : wipe σ5 vs1 = wipe σ2 vs1 := wipe_tg trj hS1
          refine ⟨hwj, ?_⟩
          have s5 := sj.tg trj
          refine rtt σ5 ⟨H6, Wj, μj⟩ ebj mj b e6 m6 _ s5 hcn fun q6 s6 x6 => ?_
          have x6' : Ext (wipe σ2 vs1) H6 Wj μj ej q6.H q6.W q6.μ e6 := Ext.tg trj x6
          have noD6 : ¬ OwnS e6 σ5 Dd := fun z => Tj.no (trj.ownS (x6.own z))
          have hD6 : q6.H Dd = some (.lst accJ) := x6.keep Dd _ (gj _ _ hDj) Tj.μn
          have w6 : q6.W Dd := (x6'.wd Dd Tj.w).resolve_right Tj.no
          have μ6 : Dd ∉ q6.μ := fun z => by
            rcases x6.new Dd z with z | z
            · exact Tj.μn z
            · have z : H6 Dd = none := z
              rw [gj _ _ hDj] at z; cases z
          have acc6 : DqAll c.X.K q6.H q6.W accJ accj := x6.dqs s5.st (hacj.same Tj.s.st.wok gj)
          rcases hrest with ⟨rfl, rfl, rfl, rfl⟩ | ⟨rfl, v, e7, y, hel, hfz, rfl, rfl⟩
          · rw [if_neg Bool.false_ne_true]
            have s7 := s6.wiped (vs := vs1)
            rw [hwj] at s7
            exact hfin accJ q6.H q6.W q6.μ ⟨s7, (Ext.transG sw.μt xj x6' hoj).wiped, lj.trans (x6'.later sj.st), w6, μ6, fun z => noD6 (ownS_wipe s6.len (by rw [hwj]; exact z)), accJ, hD6, acc6⟩ hD6
          · rw [if_pos rfl]
            refine rte σ5 q6 e6 m6 v e7 m' _ s6 hel fun uv q7 s7 x7 rv => ?_
            have rl : RL c σ5 q6 [v] [uv] q7 e7 := rl_cons s6 s7 x7 Ext.refl rv rl_nil
            obtain ⟨s8, x8, d8⟩ := rl.give s6 s7 x7 (xs := [y]) (by unfold frzAll; rw [hfz]; rfl)
            have x68 : Ext σ5 H6 Wj μj ebj q7.H (fun a => q7.W a ∧ ¬ givenP [uv] [v] a) q7.μ e7 := x6.trans s5.μt x8
            have x9 : Ext (wipe σ vs) q.H q.W q.μ (wipeE e1 vs) q7.H (fun a => q7.W a ∧ ¬ givenP [uv] [v] a) q7.μ e7 := Ext.transG sw.μt xj (Ext.tg trj x68) hoj
            have l9 : Later q3.H q3.W q7.H (fun a => q7.W a ∧ ¬ givenP [uv] [v] a) := lj.trans ((Ext.tg trj x68).later sj.st)
            have noD7 : ¬ OwnS e7 σ5 Dd := fun z => noD6 (x8.own z)
            have hD7 : q7.H Dd = some (.lst accJ) := x8.keep Dd _ hD6 μ6
            have w7 : q7.W Dd ∧ ¬ givenP [uv] [v] Dd := (x8.wd Dd w6).resolve_right noD6
            have μ7 : Dd ∉ q7.μ := fun z => by
              rcases x8.new Dd z with z | z
              · exact μ6 z
              · rw [hD6] at z; cases z
            have acc7 : DqAll c.X.K q7.H (fun a => q7.W a ∧ ¬ givenP [uv] [v] a) accJ accj := x8.dqs s6.st acc6
            refine ⟨accJ, hD7, Nat.lt_of_le_of_lt (Nat.le_of_eq acc7.length) (lim_lt (hlim y rfl)), ?_⟩
            have s9 := s8.wr (vs' := accJ ++ [uv]) w7 hBn μ7 noD7 hD7
            have s10 := s9.wiped (vs := vs1)
            rw [hwj] at s10
            have kk : ∀ a o, q7.H a = some o → ¬ (q7.W a ∧ ¬ givenP [uv] [v] a) → upd q7.H Dd (.lst (accJ ++ [uv])) a = some o := fun a o h n => by
              rw [upd_ne (fun z => n (by rw [z]; exact w7))]; exact h
            exact hfin (accJ ++ [uv]) _ _ _ ⟨s10, (x9.wr hD).wiped, l9.trans (.wr w7), w7, μ7, fun z => noD7 (ownS_wipe s8.len (by rw [hwj]; exact z)), accJ ++ [uv], upd_same, (acc7.append d8).keep s8.st.wok kk (fun _ _ z => z)⟩ upd_same
        rcases lc_ok hPj with ⟨y, e', m', ht, hlim, hP'⟩ | ⟨e', m', ht, hP'⟩
        · exact turn ht (fun accV' Hn Wn μn T' _ => ⟨_, Wn, μn, e', m', T', hP'⟩) fun _ _ => hlim
        · exact turn ht (fun accV' Hn Wn μn T' _ => ⟨_, Wn, μn, e', m', T', hP'⟩) fun y z => nomatch z
      · have e0 : j = its.length := by omega
        subst e0
        rw [List.drop_length] at hPj
        cases hPj
        refine .inl ⟨wlk1.stop hFj rfl, ?_⟩
        obtain ⟨accJ, hDj, hacj⟩ := Tj.at_
        have s7 := (Tj.s.wiped (vs := vs1)).wiped (vs := vs)
        have hw2 : wipe (wipe (wipe σ2 vs1) vs1) vs = wipe σ vs := by
          rw [wipe_in hv1, wipe_in hv1, hwp]
        rw [hw2] at s7
        refine ⟨_, Wj, μj, _, _, ⟨s7, Tj.x.wiped.wiped, Tj.w, Tj.μn, fun z => ?_, accJ, hDj, hacj⟩, hP'⟩
        have z1 : OwnS (wipeE (wipeE e4 vs1) vs) (wipe (wipe (wipe σ2 vs1) vs1) vs) Dd := by rw [hw2]; exact z
        have l1 : e4.length = (wipe σ2 vs1).length := Tj.s.len
        have z2 := ownS_wipe (by rw [wipeE_length, wipe_length]; exact l1) z1
        exact Tj.no (ownS_wipe l1 z2)
    · have e0 : i = items.length := by omega
      subst e0
      refine .inl ⟨wlk.stop hFc rfl, ?_⟩
      rw [List.drop_length] at hP
      have hP : Post c σ p e (RV c σ false p) (.ok (.own acc) (restoreE ec e1 vs) mc) Q := hP
      obtain ⟨accV, hDl, hacc⟩ := T.at_
      obtain ⟨s9, x9⟩ := s1.restore T.s T.x
      have xx : Ex σ p e ⟨H, W, μ⟩ (restoreE ec e1 vs) := x1.trans s0.μt x9
      have hpn : p.H Dd = none := Classical.byContradiction fun z => (x1.there Dd z) hD
      refine hP (.ref Dd) ⟨H, W, μ⟩ s9 xx ⟨⟨Dd, accV, rfl, hDl, hacc, T.μn⟩, fun _ => ⟨tmp_of s0 xx (v := .own acc) (fun a h => by cases h; exact hpn) fun xs a _ h => by cases h; exact T.w, fun a h => by cases h; exact hpn⟩⟩
end
end Pv

/-! PvS14: comprehensions with two fors, as expressions; x.index(b). -/
namespace Pv
open PySem PySem.Spec PyProof.Rows L2
section
variable {c : Cn} {scope : Scope}
theorem snd_comp2 (hc : c.X.calm = true) (hN : c.X.N.Nodup) {k k1 : IK} {ss ss1 : List Sm} {tgE iter tgE1 iter1 elt : Expr} {own : List (Str × Nat)} {own1 : List Nat} {tg tg1 : Tg} {scond se : Sm} {ifs : List Expr} {pos : Pos} (hi : SndI c k ss tgE iter) (hi1 : AllB c scope fun c' => SndI c' k1 ss1 tgE1 iter1)
    (hfs : ∀ x, foldedSetIterable iter c.X.env x = pure x) (hfs1 : ∀ env x, foldedSetIterable iter1 env x = pure x)
    (ok : BlkOk c.X.N c.X.env.scope scope own) (ht : AllB c scope fun c' => TgOk c'.X tg tgE) (ht1 : AllB c scope fun c' => TgOk c'.X tg1 tgE1)
    (hS : ∀ i ∈ tgSlots tg, i ∈ own.map (·.2)) (hS1 : ∀ i ∈ tgSlots tg1, i ∈ own1) (hv1 : ∀ i ∈ own1, i ∈ own.map (·.2)) (hcond : CondOk c scope scond ifs) (helt : AllB c scope fun c' => Snd c' se elt) :
    Snd c (.mk' (comp2V tg (own.map (·.2)) k ss tg1 own1 k1 ss1 scond se)) (.ListComp elt [⟨tgE, iter, [], 0⟩, ⟨tgE1, iter1, ifs, 0⟩] scope pos) := by
  obtain ⟨wi, wi1, tt, te, h1, h2, h3, h4, h5⟩ := comp2_run hi hi1 hS hS1 hv1 hcond helt
  exact snd_mk (fun σ p e m Q s hp => pe.we (pe_lc2 (g := tgG c.X.K tg) (g1 := tgG c.X.K tg1) (tt := tYes) hc hN h1 ok hv1 (fun s H C cl fp => tg_pg (X := (c.blk scope s H C cl fp).X) hc hN (ht s H C cl fp)) (fun _ _ _ _ _ => pts_nil) h2
    (fun s H C cl fp => tg_pg (X := (c.blk scope s H C cl fp).X) hc hN (ht1 s H C cl fp)) h3 h4 hfs hfs1) (h5 σ p e m Q s hp)) rfl rfl
end
/-! ### x.index(b) -/
theorem idxB_at {b : Bool} : ∀ {bs : List Bool} {i j : Nat}, idxB b bs i = some j → ∃ k, j = i + k ∧ bs[k]? = some b ∧ ∀ (m : Nat) (z : Bool), m < k → bs[m]? = some z → (z == b) = false
  | [], _, _, h => by cases h
  | x :: r, i, j, h => by
    unfold idxB at h
    split at h
    · rename_i e
      cases h
      exact ⟨0, rfl, by rw [List.getElem?_cons_zero, beq_iff_eq.mp e], fun m z hm => absurd hm (Nat.not_lt_zero m)⟩
    · rename_i e
      obtain ⟨k, e1, e2, e3⟩ := idxB_at h
      refine ⟨k + 1, by omega, by rw [List.getElem?_cons_succ]; exact e2, fun m z hm hz => ?_⟩
      cases m with
      | zero =>
        rw [List.getElem?_cons_zero] at hz
        cases hz
        cases q : (x == b) with
        | false => rfl
        | true => exact absurd q e
      | succ m => exact e3 m z (by omega) (by rw [List.getElem?_cons_succ] at hz; exact hz)
section
variable {c : Cn} {sa sb : Sm} {b : Expr} {x : Str} {px apos cpos : Pos}
theorem snd_cidx (ha : Snd c sa (.Name x px)) (hb : Snd c sb b) (hline : (apos.endLine == cpos.line) = true) : Snd c (.mk' (cidxV sa sb)) (.Call (.Attribute (.Name x px) "index" apos) [b] [] cpos) := by
  refine snd_mk (fun σ p e m Q s hp => ?_) rfl rfl
  refine pe.we (pe_bm PySem.F.plainAttrs_list PySem.F.slot_list_index PySem.F.type_list_index mt_index pe_we (pa_wa (es := [b])) name_base (few1 hb.sy _ _) hline (hb.sy.ns _ _) (plain1 _ _)) ?_
  have hp : Post c σ p e (RV c σ false p) ((sa.v e m).bind fun v e m => match dat m v with
    | some (.list _) => (sb.v e m).bind fun u e m => match dat m v, dat m u with
      | some x, some y => Res.of (idxD x y) e m
      | _, _ => .stuck
    | _ => .stuck) Q := hp
  refine ha.v σ p e m _ s (Post.bind hp fun v e1 m1 hp u q1 s1 x1 r1 => ?_)
  cases h1 : dat m1 v with
  | none => simp only [h1] at hp; exact hp.elim
  | some d1 =>
    simp only [h1] at hp
    cases d1 with
    | list xs =>
      dsimp only at hp
      obtain ⟨a', vs, rfl, h2, h3⟩ := (lk_of s1 r1.1 h1).list
      refine ⟨.inl ⟨rfl, vs, .inl h2⟩, wa_cons hb.sy (hb.v σ q1 e1 m1 _ s1 (Post.bind (hp.shift s x1 fun _ _ _ _ _ r => r) fun w e2 m2 hp z q2 s2 x2 r2 => ?_))⟩
      cases h4 : dat m2 v with
      | none => simp only [h4] at hp; exact hp.elim
      | some d2 =>
        cases h5 : dat m2 w with
        | none => simp only [h4, h5] at hp; exact hp.elim
        | some d3 =>
          simp only [h4, h5] at hp
          have lk1 := lk_of s2 (x2.lr s1.st r1.1) h4
          have lk2 := lk_of s2 r2.1 h5
          cases h6 : idxD d2 d3 with
          | none => rw [h6] at hp; exact hp.elim
          | some vr =>
            rw [h6] at hp
            unfold idxD at h6
            split at h6
            · rename_i xs2 b2
              split at h6
              · rename_i bs hbs
                obtain ⟨j, hj, ej⟩ := Option.map_eq_some_iff.mp h6
                subst ej
                obtain ⟨a2, vs2, e2', k1, k2⟩ := lk1.list
                obtain ⟨kk, rfl, g1, g2⟩ := idxB_at hj
                rw [Nat.zero_add] at hp
                obtain ⟨e5, e6⟩ := k2.bools hbs
                subst e5
                have hz := lk2.bl
                subst hz
                have hp : Post c σ q2 e2 (RV c σ false p) (.ok (.d (.int (kk : Nat))) e2 m2) Q := hp.shift s1 x2 fun _ _ _ _ _ r => r
                refine wa_of pa_nil ⟨a2, bs.map V.bl, V.bl b2, kk, V.bl b2, e2', rfl, .inl k1, rfl, ?_, ?_, ?_, fun m z hm hz => ?_, ?_⟩
                · rw [List.all_map]
                  exact List.all_eq_true.mpr fun _ _ => rfl
                · rw [List.getElem?_map, g1]
                  rfl
                · show (b2 == b2) = true
                  exact beq_self_eq_true b2
                · rw [List.getElem?_map] at hz
                  cases q : bs[m]? with
                  | none => rw [q] at hz; cases hz
                  | some z1 =>
                    rw [q] at hz
                    cases hz
                    exact g2 m z1 hm q
                · exact (ret_of s2 (Post.reV (x1.trans s.μt x2) hp)).scal (.int _)
              · cases h6
            · cases h6
    | _ => exact hp.elim
end
end Pv

/-! PvS15: list(enumerate(x)). -/
namespace Pv
open PySem PySem.Spec PyProof.Rows L2
section
variable {prog : Program} {w : World} {A : Around} {E : Value → Shared → Prop} {s : Shared}
/-- the next pair, the last one being still out -/
theorem enum_heldD {e it T : Addr} {fp : List Addr} {n i : Nat} {P : Nat → Value → Prop} {St : Nat → Heap → Prop} {old : Value} {f : Bool} {oT : Obj} {Q : Value → Shared → Prop}
    (D : Draws prog w A it fp n P St) (he : IsEnumHeld s.heap e it i old T f) (hT : s.heap.get? T = some oT) (hTe : T ≠ e) (hTi : T ≠ it) (hst : St i s.heap) (hlt : i < n) (hne : e ≠ it) (hef : e ∉ fp)
    (hQ : ∀ x h' tk, P i x → IsEnumHeld h' e it ((i : Int) + 1) old T true → St (i + 1) h' → h'.get? s.heap.objs.size = some { cls := .type "tuple", data := .seq #[.int i tk, x] } → h'.objs.size = s.heap.objs.size + 1 →
      (∀ b o, b ≠ e → b ≠ it → s.heap.get? b = some o → h'.get? b = some o) → Q (.ref s.heap.objs.size) { s with heap := h', toks := tk + 1 }) :
    wpAny (model prog w) A (Builtin.«enumerate.__next__» ⟨[.ref e], []⟩) (fun fin s' => ∃ v, fin = .done (.ret v) ∧ Q v s') E s := by
  obtain ⟨hp, gg, dd, tk0, os⟩ := s
  show wpAny _ _ (field (.ref e) 2 >>= _) _ _ (_ : Shared)
  refine wpAny_bind (wpAny_field he rfl (x := .ref it) rfl (?_ : wpAny _ _ _ _ _ _))
  refine wpAny_bind (D.item i _ _ _ hlt hst fun x h1 tk hPx hit1 hs1 => (?_ : wpAny _ _ _ _ _ _))
  have hs1 : Heap.SameBut it hp h1 := hs1
  have he1 : IsEnumHeld h1 e it i old T f := (hs1.2 e hne).trans he
  show wpAny _ _ (field (.ref e) 3 >>= _) _ _ (⟨h1, gg, dd, tk, os⟩ : Shared)
  refine wpAny_bind (wpAny_field he1 rfl (x := rawInt i) rfl (?_ : wpAny _ _ _ _ _ _))
  show wpAny _ _ (field (.ref e) 4 >>= _) _ _ (⟨h1, gg, dd, tk, os⟩ : Shared)
  refine wpAny_bind (wpAny_field he1 rfl (x := .none) rfl (?_ : wpAny _ _ _ _ _ _))
  show wpAny _ _ (mkInt i >>= _) _ _ (⟨h1, gg, dd, tk, os⟩ : Shared)
  refine wpAny_bind (wpAny_mkInt (?_ : wpAny _ _ _ _ _ _))
  show wpAny _ _ (setField (.ref e) 3 (rawInt ((i : Int) + 1)) >>= _) _ _ (⟨h1, gg, dd, tk + 1, os⟩ : Shared)
  refine wpAny_bind (wpAny_setField_rec he1 (by simp) fun h2 he2 hs2 => (?_ : wpAny _ _ _ _ _ _))
  have hs2 : Heap.SameBut e h1 h2 := hs2
  have he2 : IsEnumHeld h2 e it ((i : Int) + 1) old T f := he2
  show wpAny _ _ (setField (.ref e) 4 .none >>= _) _ _ (⟨h2, gg, dd, tk + 1, os⟩ : Shared)
  refine wpAny_bind (wpAny_setField_rec he2 (by simp) fun h3 he3 hs3 => (?_ : wpAny _ _ _ _ _ _))
  have hs3 : Heap.SameBut e h2 h3 := hs3
  have he3 : IsEnumHeld h3 e it ((i : Int) + 1) old T f := he3
  show wpAny _ _ (newTuple [.int i tk, x] >>= _) _ _ (⟨h3, gg, dd, tk + 1, os⟩ : Shared)
  refine wpAny_bind (wpAny_newTuple (?_ : wpAny _ _ _ _ _ _))
  have he4 : IsEnumHeld (h3.push { cls := .type "tuple", data := .seq #[.int i tk, x] }) e it ((i : Int) + 1) old T f := Heap.get?_push_of_some _ he3
  generalize hh4 : h3.push { cls := .type "tuple", data := .seq #[.int i tk, x] } = h4 at he4
  have hsz : h3.objs.size = hp.objs.size := by rw [hs3.1, hs2.1, hs1.1]
  have hel : e < hp.objs.size := Heap.lt_size he
  have ht4 : h4.get? hp.objs.size = some { cls := .type "tuple", data := .seq #[.int i tk, x] } := by rw [← hh4, ← hsz]; exact Heap.get?_push_size _ rfl
  have hz4 : h4.objs.size = hp.objs.size + 1 := by rw [← hh4, Heap.size_push, hsz]
  have hk4 : ∀ b o, b ≠ e → b ≠ it → hp.get? b = some o → h4.get? b = some o := fun b o hbe hbi hb => by
    rw [← hh4]
    exact Heap.get?_push_of_some _ (hs3.extBut b o hbe (hs2.extBut b o hbe (hs1.extBut b o hbi hb)))
  have hit4 : St (i + 1) h4 := D.frame _ _ _ hit1 fun b hb o y => by
    have hbe : b ≠ e := fun q => hef (q ▸ hb)
    rw [← hh4]
    exact Heap.get?_push_of_some _ (hs3.extBut b o hbe (hs2.extBut b o hbe y))
  show wpAny _ _ (Builtin.SmallTypes.ownedTupleIsFree (.ref e) >>= _) _ _ (⟨h4, gg, dd, tk + 1, os⟩ : Shared)
  rw [hsz]
  refine wpAny_bind (wpAny_tupleHeld_enum (s := ⟨h4, gg, dd, tk + 1, os⟩) he4 (hk4 T oT hTe hTi hT) fun h5 he5 hs5 => (?_ : wpAny _ _ _ _ _ _))
  have hs5 : Heap.SameBut e h4 h5 := hs5
  simp only [Bool.false_eq_true, if_false]
  refine wpAny_pure ⟨_, rfl, hQ x h5 tk hPx he5 (D.frame _ _ _ hit4 fun b hb o y => hs5.extBut b o (fun q => hef (q ▸ hb)) y) (hs5.extBut _ _ (Nat.ne_of_gt hel) ht4) (by rw [hs5.1]; exact hz4) fun b o hbe hbi hb => hs5.extBut b o hbe (hk4 b o hbe hbi hb)⟩
theorem next_enum_heldD {e it T : Addr} {fp : List Addr} {n i : Nat} {P : Nat → Value → Prop} {St : Nat → Heap → Prop} {old : Value} {f : Bool} {oT : Obj} {Q : Option Value → Shared → Prop}
    (D : Draws prog w A.in1 it fp n P St) (he : IsEnumHeld s.heap e it i old T f) (hT : s.heap.get? T = some oT) (hTe : T ≠ e) (hTi : T ≠ it) (hst : St i s.heap) (hlt : i < n) (hne : e ≠ it) (hef : e ∉ fp)
    (hQ : ∀ x h' tk, P i x → IsEnumHeld h' e it ((i : Int) + 1) old T true → St (i + 1) h' → h'.get? s.heap.objs.size = some { cls := .type "tuple", data := .seq #[.int i tk, x] } → h'.objs.size = s.heap.objs.size + 1 →
      (∀ b o, b ≠ e → b ≠ it → s.heap.get? b = some o → h'.get? b = some o) → Q (some (.ref s.heap.objs.size)) { s with heap := h', toks := tk + 1 }) :
    wpAny (model prog w) A (pyNext (.ref e)) Q E s := by
  have hTy : s.TypeIs (.ref e) "enumerate" := ⟨_, he, rfl⟩
  unfold pyNext
  exact wpAny_bind (wpAny_attempt (wpAny_callSpecial?_slot (name := Str.ofString "__next__") hTy F.slot_enumerate_next (wpAny_call_entry F.slot_enumerate_next hTy F.entry_enumerate_next
    (enum_heldD D he hT hTe hTi hst hlt hne hef fun x h' tk a b c d k q => wpAny_pure (hQ x h' tk a b c d k q)) (F.args_enumerate_next_1 _))))
theorem next_enum_endH {e it T : Addr} {fp : List Addr} {n : Nat} {P : Nat → Value → Prop} {St : Nat → Heap → Prop} {i : Int} {old : Value} {f : Bool} {Q : Option Value → Shared → Prop}
    (D : Draws prog w A.in1 it fp n P St) (he : IsEnumHeld s.heap e it i old T f) (hst : St n s.heap) (hQ : ∀ h', Heap.ExtBut it s.heap h' → Q none { s with heap := h' }) : wpAny (model prog w) A (pyNext (.ref e)) Q E s := by
  have hTy : s.TypeIs (.ref e) "enumerate" := ⟨_, he, rfl⟩
  unfold pyNext
  refine wpAny_bind (wpAny_attempt (wpAny_callSpecial?_slot (name := Str.ofString "__next__") hTy F.slot_enumerate_next (wpAny_call_entry F.slot_enumerate_next hTy F.entry_enumerate_next (?_ : wpAny _ _ _ _ _ _) (F.args_enumerate_next_1 _))))
  show wpAny _ _ (field (.ref e) 2 >>= _) _ _ (_ : Shared)
  refine wpAny_bind (wpAny_field he rfl (x := .ref it) rfl (?_ : wpAny _ _ _ _ _ _))
  refine wpAny_bind (D.done _ _ _ hst fun h' x he' hx' => (?_ : wpAny _ _ _ _ _ _))
  obtain ⟨o, ho, hc⟩ := hx'
  exact wpAny_bind (wpAny_isInstance (T := "StopIteration") (b := true) ⟨o, ho, hc⟩ isSubtype_stop (wpAny_pure (hQ _ he')))
end

/-! ### list(it), it an iterator that gives no hint of its length -/
abbrev lstO (acc : Array Value) (c : Nat) : Obj := { cls := .type "list", dict := none, data := .seq acc c, slots := #[] }
/-- how such an iterator goes: St i acc s, i items taken, acc: these -/
structure Goes1 (prog : Program) (w : World) (A : Around) (I S : Addr) (n : Nat) (St : Nat → Array Value → Shared → Prop) (Fin : Array Value → Shared → Prop) : Prop where
  item : ∀ (i : Nat) (acc : Array Value) (c : Nat) (s : Shared) (Q : Option Value → Shared → Prop) (E : Value → Shared → Prop), i < n → St i acc s → s.heap.get? S = some (lstO acc c) →
    (∀ v s', s'.heap.get? S = some (lstO acc c) → (∀ h', (∀ b o, b ≠ S → s'.heap.get? b = some o → h'.get? b = some o) → h'.objs.size = s'.heap.objs.size → St (i + 1) (acc.push v) { s' with heap := h' }) → Q (some v) s') → wpAny (model prog w) A (pyNext (.ref I)) Q E s
  done : ∀ (acc : Array Value) (c : Nat) (s : Shared) (Q : Option Value → Shared → Prop) (E : Value → Shared → Prop), St n acc s → s.heap.get? S = some (lstO acc c) →
    (∀ s', s'.heap.get? S = some (lstO acc c) → Fin acc s' → Q none s') → wpAny (model prog w) A (pyNext (.ref I)) Q E s
  self : ∀ (acc : Array Value) (s : Shared) (Q : Value → Shared → Prop) (E : Value → Shared → Prop), St 0 acc s → Q (.ref I) s → wpAny (model prog w) A (pyIter (.ref I)) Q E s
  size : ∀ (i : Nat) (acc : Array Value) (s : Shared), St i acc s → acc.size = i
  frame : ∀ (acc : Array Value) (s : Shared) (h' : Heap), St 0 acc s → (∀ b o, b ≠ S → s.heap.get? b = some o → h'.get? b = some o) → h'.objs.size = s.heap.objs.size → St 0 acc { s with heap := h' }
section
variable {prog : Program} {w : World} {A : Around} {R : Result → Shared → Prop} {I S : Addr} {n : Nat} {St : Nat → Array Value → Shared → Prop} {Fin : Array Value → Shared → Prop}
theorem go_loop (W : Goes1 prog w A.in1 I S n St Fin) (hn : n ≤ sizeLine) (res : Value) : ∀ (k i : Nat) (s : Shared) (acc : Array Value) (c : Nat), n - i = k → i ≤ n → St i acc s → s.heap.get? S = some (lstO acc c) →
    (∀ s' acc' c', s'.heap.get? S = some (lstO acc' c') → Fin acc' s' → R (.ok (.ret res)) s') → codeAny (model prog w) A (.builtin "list.extend.loop" ⟨[.ref S, .ref I, res], []⟩) R s := by
  intro k
  induction k with
  | zero =>
    intro i s acc c hk hi hst hS hR
    have hin : i = n := by omega
    subst hin
    refine codeAny_builtin F.entry_extend_loop ?_
    rw [Around.under_plainId F.plain_extend_loop _]
    show wpAny _ A.in1 (pyNext (.ref I) >>= _) _ _ (s : Shared)
    exact wpAny_bind (W.done acc c s _ _ hst hS fun s' hS' hF => wpAny_pure (hR s' acc c hS' hF))
  | succ k ih =>
    intro i s acc c hk hi hst hS hR
    have hlt : i < n := by omega
    have hz := W.size i acc s hst
    refine codeAny_builtin F.entry_extend_loop ?_
    rw [Around.under_plainId F.plain_extend_loop _]
    show wpAny _ A.in1 (pyNext (.ref I) >>= _) _ _ (s : Shared)
    refine wpAny_bind (W.item i acc c s _ _ hlt hst hS fun v s' hS' hst' => (?_ : wpAny _ _ _ _ _ _))
    show wpAny _ A.in1 (updateSeq S (·.push v) >>= _) _ _ (_ : Shared)
    refine wpAny_bind (?_ : wpAny _ _ _ _ _ _)
    refine wpAny_updateSeq hS' rfl (wpAny_pure ⟨plainId_quiet F.plain_extend_loop _, ih (i + 1) _ (acc.push v) _ (by omega) hlt (hst' _ (fun b o hb e => (Heap.get?_update_other _ _ (Ne.symm hb)).trans e) (by rw [Heap.size_update])) (Heap.get?_update_self _ hS' rfl) hR⟩)
      (by rw [hz]; omega) (by show (acc.push v).size ≤ sizeLine + 1; rw [Array.size_push, hz]; omega)
theorem go_extend {T : String} (h1 : typeLookup (.type T) "__len__" = pure none) (h2 : typeLookup (.type T) "__length_hint__" = pure none) (h3 : (Value.type T == Value.type "list") = false) (h4 : (Value.type T == Value.type "tuple") = false)
    (W : Goes1 prog w A.in1 I S n St Fin) (hn : n ≤ sizeLine) (hT : ∀ acc s, St 0 acc s → s.TypeIs (.ref I) T) (hIS : S ≠ I) (res : Value) {s : Shared} {c : Nat} (hst : St 0 #[] s) (hS : s.heap.get? S = some (lstO #[] c))
    (hR : ∀ s' acc' c', s'.heap.get? S = some (lstO acc' c') → Fin acc' s' → R (.ok (.ret res)) s') :
    wpAny (model prog w) A.in1 (Builtin.List.listExtendWith (.ref S) (.ref I) res) (fun fin s' => match fin with | .done f => R (.ok f) s' | .again c' => c'.quiet = true ∧ codeAny (model prog w) A c' R s') (fun e s' => R (.error e) s') s := by
  unfold Builtin.List.listExtendWith
  refine wpAny_bind (wpAny_typeOf (hT _ _ hst) (?_ : wpAny _ _ _ _ _ _))
  have h0 : Builtin.List.listSameRef (.ref S) (.ref I) = false := by simp [Builtin.List.listSameRef, hIS]
  simp only [h0, h3, h4, Bool.or_false, Bool.false_eq_true, if_false]
  refine wpAny_bind (W.self _ _ _ _ hst (?_ : wpAny _ _ _ _ _ _))
  refine wpAny_bind (wpAny_holding (?_ : wpAny _ _ _ _ _ _))
  unfold Builtin.List.listLengthHint
  refine wpAny_bind (wpAny_specialOf (hT _ _ hst) h1 (?_ : wpAny _ _ _ _ _ _))
  show wpAny _ A.in1 (specialOf (Value.ref I) (Str.ofString "__length_hint__") >>= _) _ _ (_ : Shared)
  refine wpAny_bind (wpAny_specialOf (hT _ _ hst) h2 (wpAny_pure (?_ : wpAny _ _ _ _ _ _)))
  show wpAny _ A.in1 (rule "list.extend.makes-room" >>= fun _ => Builtin.List.listTouch (.ref S) >>= fun _ => again (.builtin "list.extend.loop" ⟨[.ref S, .ref I, res], []⟩)) _ _ (_ : Shared)
  refine wpAny_bind (wpAny_rule (wpAny_bind (?_ : wpAny _ _ _ _ _ _)))
  show wpAny _ A.in1 (updateSeq S (·.push .none) >>= fun _ => updateSeq S (·.pop)) _ _ (_ : Shared)
  refine wpAny_bind (wpAny_updateSeq hS rfl (?_ : wpAny _ _ _ _ _ _))
  have hS2 := Heap.get?_update_self (Obj.mapSeq (·.push Value.none)) hS rfl
  refine wpAny_updateSeq (hz := by seq_fits) hS2 rfl (?_ : wpAny _ _ _ _ _ _)
  have hS3 := Heap.get?_update_self (Obj.mapSeq (·.pop)) hS2 rfl
  have oth : ∀ b o, b ≠ S → s.heap.get? b = some o → ((s.heap.update S (Obj.mapSeq (·.push Value.none))).update S (Obj.mapSeq (·.pop))).get? b = some o := fun b o hb e =>
    (Heap.get?_update_other _ _ (Ne.symm hb)).trans ((Heap.get?_update_other _ _ (Ne.symm hb)).trans e)
  exact wpAny_pure ⟨plainId_quiet F.plain_extend_loop _, go_loop W hn res n 0 _ #[] _ rfl (Nat.zero_le _) (W.frame #[] s _ hst oth (by rw [Heap.size_update, Heap.size_update])) hS3 hR⟩
end
section
variable {prog : Program} {w : World} {A : Around} {E : Value → Shared → Prop} {s : Shared} {I : Addr} {n : Nat} {St : Nat → Array Value → Shared → Prop} {Fin : Array Value → Shared → Prop}
theorem list_go {T : String} {Q : Value → Shared → Prop} (h1 : typeLookup (.type T) "__len__" = pure none) (h2 : typeLookup (.type T) "__length_hint__" = pure none) (h3 : (Value.type T == Value.type "list") = false) (h4 : (Value.type T == Value.type "tuple") = false)
    (W : Goes1 prog w A.in1.in1 I s.heap.objs.size n St Fin) (hn : n ≤ sizeLine) (hT : ∀ acc s, St 0 acc s → s.TypeIs (.ref I) T) (hI : I < s.heap.objs.size) (hst : St 0 #[] { s with heap := s.heap.push (lstO #[] 0) })
    (hQ : ∀ s' acc' c', s'.heap.get? s.heap.objs.size = some (lstO acc' c') → Fin acc' s' → Q (.ref s.heap.objs.size) s') :
    wpAny (model prog w) A (call (.type "list") [.ref I]) Q E s := by
  have hS : (s.heap.push (lstO #[] 0)).get? s.heap.objs.size = some (lstO #[] 0) := Heap.get?_push_size _ rfl
  refine callType_codes (Q₁ := fun obj s₁ => obj = .ref s.heap.objs.size ∧ s₁ = { s with heap := s.heap.push (lstO #[] 0) }) F.called_list (F.typeCall_list_1 _) F.entry_list_init (code_list_new _ ⟨rfl, rfl⟩) fun obj s₁ hh => (?_ : _ ∧ _)
  obtain ⟨rfl, rfl⟩ := hh
  refine ⟨⟨_, hS, rfl⟩, F.args_list_init_2 _ _, (?_ : wpAny _ _ _ _ _ _)⟩
  show wpAny _ A.in1.in1 (do let old ← Builtin.List.listItems (.ref s.heap.objs.size); Builtin.List.listUpdate (.ref s.heap.objs.size) (fun _ => #[]); letGo old.toList.reverse; Builtin.List.listExtendWith (.ref s.heap.objs.size) (.ref I) .none) _ _ (_ : Shared)
  refine wpAny_bind (?_ : wpAny _ _ _ _ _ _)
  unfold Builtin.List.listItems
  refine wpAny_bind (wpAny_seqItems hS rfl (wpAny_pure (?_ : wpAny _ _ _ _ _ _)))
  show wpAny _ A.in1.in1 (updateSeq s.heap.objs.size (fun _ => #[]) >>= fun _ => letGo (#[] : Array Value).toList.reverse >>= fun _ => Builtin.List.listExtendWith (.ref s.heap.objs.size) (.ref I) .none) _ _ (_ : Shared)
  refine wpAny_bind (wpAny_updateSeq hS rfl (?_ : wpAny _ _ _ _ _ _))
  have hS2 := Heap.get?_update_self (Obj.mapSeq (fun _ => (#[] : Array Value))) hS rfl
  refine wpAny_bind (wpAny_letGo (?_ : wpAny _ _ _ _ _ _))
  refine go_extend (A := A.in1) h1 h2 h3 h4 W hn hT (Nat.ne_of_gt hI) .none (W.frame #[] _ _ hst (fun b o hb e => (Heap.get?_update_other _ _ (Ne.symm hb)).trans e) (by rw [Heap.size_update])) hS2 fun s' acc' c' a b => (?_ : _)
  exact ⟨rfl, hQ s' acc' c' a b⟩
end
end Pv

/-! PvS16: list(enumerate(x)): a fresh list of fresh pairs. -/
namespace Pv
open PySem PySem.Spec PyProof.Rows L2
abbrev prO (j : Nat) (tk : Nat) (u : Value) : Obj := { cls := .type "tuple", data := .seq #[.int j tk, u] }
/-- how far list(enumerate(..)) has come -/
structure EnS (s0 : Shared) (e it S : Addr) (P : Nat → Value → Prop) (St0 : Nat → Heap → Prop) (i : Nat) (acc : Array Value) (s : Shared) : Prop where
  gens : s.gens = s0.gens
  drawn : s.drawn = s0.drawn
  os : s.os = s0.os
  sz : acc.size = i
  st : St0 i s.heap
  at_ : (i = 0 ∧ ∃ old, IsEnum s.heap e it ((0 : Nat) : Int) old) ∨ ∃ old T f oT, IsEnumHeld s.heap e it ((i : Nat) : Int) old T f ∧ s.heap.get? T = some oT ∧ T ≠ e ∧ T ≠ it ∧ T ≠ S
  kept : ∀ b o, b ≠ e → b ≠ it → b ≠ S → s0.heap.get? b = some o → s.heap.get? b = some o
  big : S < s.heap.objs.size
  prs : ∀ j, j < i → ∃ t tk u, acc[j]? = some (.ref t) ∧ s.heap.get? t = some (prO j tk u) ∧ P j u ∧ S < t
/-- what it has made -/
structure EnF (s0 : Shared) (e it S : Addr) (P : Nat → Value → Prop) (n : Nat) (acc : Array Value) (s : Shared) : Prop where
  gens : s.gens = s0.gens
  drawn : s.drawn = s0.drawn
  os : s.os = s0.os
  sz : acc.size = n
  kept : ∀ b o, b ≠ e → b ≠ it → b ≠ S → s0.heap.get? b = some o → s.heap.get? b = some o
  prs : ∀ j, j < n → ∃ t tk u, acc[j]? = some (.ref t) ∧ s.heap.get? t = some (prO j tk u) ∧ P j u ∧ S < t
section
variable {prog : Program} {w : World} {A : Around} {s0 : Shared} {e it S : Addr} {fp : List Addr} {n : Nat} {P : Nat → Value → Prop} {St0 : Nat → Heap → Prop}
theorem acc_old {acc : Array Value} {v : Value} {i j : Nat} (hs : acc.size = i) (h : j < i) : (acc.push v)[j]? = acc[j]? := by
  rw [Array.getElem?_push]
  split
  · omega
  · rfl
theorem acc_new {acc : Array Value} {v : Value} {i : Nat} (hs : acc.size = i) : (acc.push v)[i]? = some v := by
  rw [Array.getElem?_push, hs]; simp
theorem goes_enum (D : Draws prog w A.in1 it fp n P St0) (hne : e ≠ it) (hef : e ∉ fp) (hSf : S ∉ fp) (heS : e < S) (hiS : it < S) :
    Goes1 prog w A e S n (EnS s0 e it S P St0) (EnF s0 e it S P n) where
  item := fun i acc c s Q E hi H hS hQ => by
    have go : ∀ (x : Value) (h' : Heap) (tk : Nat) (T : Addr × Value) (f : Bool) (oT : Obj), P i x → IsEnumHeld h' e it ((i : Int) + 1) T.2 T.1 f → h'.get? T.1 = some oT → T.1 ≠ e → T.1 ≠ it → T.1 ≠ S → St0 (i + 1) h' → h'.get? s.heap.objs.size = some (prO i tk x) → h'.objs.size = s.heap.objs.size + 1 →
        (∀ b o, b ≠ e → b ≠ it → s.heap.get? b = some o → h'.get? b = some o) → Q (some (.ref s.heap.objs.size)) { s with heap := h', toks := tk + 1 } := fun x h' tk T f oT hP he hT t1 t2 t3 hst ht hz hk => by
      refine hQ _ _ (hk S _ (Nat.ne_of_gt heS) (Nat.ne_of_gt hiS) hS) fun h'' hk2 hz2 => ?_
      have e1 : ((i + 1 : Nat) : Int) = (i : Int) + 1 := by omega
      refine ⟨H.gens, H.drawn, H.os, by rw [Array.size_push, H.sz], D.frame _ _ _ hst fun b hb o y => hk2 b o (fun q => hSf (q ▸ hb)) y, .inr ⟨T.2, T.1, f, oT, ?_, hk2 _ _ t3 hT, t1, t2, t3⟩, fun b o b1 b2 b3 q => hk2 b o b3 (hk b o b1 b2 (H.kept b o b1 b2 b3 q)), ?_, fun j hj => ?_⟩
      · rw [e1]; exact hk2 _ _ (Nat.ne_of_lt heS) he
      · show S < h''.objs.size
        rw [hz2]
        show S < h'.objs.size
        rw [hz]
        exact Nat.lt_succ_of_lt H.big
      · rcases Nat.lt_succ_iff_lt_or_eq.mp hj with hj | hj
        · obtain ⟨t, tk', u, q1, q2, q3, q4⟩ := H.prs j hj
          refine ⟨t, tk', u, by rw [acc_old H.sz hj]; exact q1, hk2 t _ (Nat.ne_of_gt q4) (hk t _ (Nat.ne_of_gt (Nat.lt_trans heS q4)) (Nat.ne_of_gt (Nat.lt_trans hiS q4)) q2), q3, q4⟩
        · subst hj
          exact ⟨s.heap.objs.size, tk, x, acc_new H.sz, hk2 _ _ (Nat.ne_of_gt H.big) ht, hP, H.big⟩
    rcases H.at_ with ⟨rfl, old, he⟩ | ⟨old, T, f, oT, he, hT, t1, t2, t3⟩
    · refine wpAny_pyNext_enum_itemD D he H.st hi hne hef fun x h' tk a b c d z k => ?_
      exact go x h' tk (s.heap.objs.size, x) false _ a b d (Nat.ne_of_gt (Nat.lt_trans heS H.big)) (Nat.ne_of_gt (Nat.lt_trans hiS H.big)) (Nat.ne_of_gt H.big) c d z k
    · refine next_enum_heldD D he hT t1 t2 H.st hi hne hef fun x h' tk a b c d z k => ?_
      exact go x h' tk (T, old) true _ a b (k T oT t1 t2 hT) t1 t2 t3 c d z k
  done := fun acc c s Q E H hS hQ => by
    have go : ∀ h', Heap.ExtBut it s.heap h' → Q none { s with heap := h' } := fun h' x => by
      refine hQ _ (x S _ (Nat.ne_of_gt hiS) hS) ⟨H.gens, H.drawn, H.os, H.sz, fun b o b1 b2 b3 q => x b o b2 (H.kept b o b1 b2 b3 q), fun j hj => ?_⟩
      obtain ⟨t, tk', u, q1, q2, q3, q4⟩ := H.prs j hj
      exact ⟨t, tk', u, q1, x t _ (Nat.ne_of_gt (Nat.lt_trans hiS q4)) q2, q3, q4⟩
    rcases H.at_ with ⟨rfl, old, he⟩ | ⟨old, T, f, oT, he, hT, t1, t2, t3⟩
    · exact wpAny_pyNext_enum_endD D he H.st go
    · exact next_enum_endH D he H.st go
  self := fun acc s Q E H h => by
    rcases H.at_ with ⟨_, old, he⟩ | ⟨old, T, f, oT, he, hT, t1, t2, t3⟩
    · exact wpAny_pyIter_enum he h
    · have hTy : s.TypeIs (.ref e) "enumerate" := ⟨_, he, rfl⟩
      refine wpAny_pyIter_slot hTy F.slot_enumerate_iter (wpAny_call_entry F.slot_enumerate_iter hTy F.entry_enumerate_iter ?_ (F.args_enumerate_iter_1 _))
      show wpAny _ _ (ret (.ref e)) _ _ s
      exact wpAny_pure ⟨_, rfl, "enumerate", _, hTy, F.slot_enumerate_next.lookup, h⟩
  size := fun i acc s H => H.sz
  frame := fun acc s h' H hk hz => by
    refine ⟨H.gens, H.drawn, H.os, H.sz, D.frame _ _ _ H.st fun b hb o y => hk b o (fun q => hSf (q ▸ hb)) y, ?_, fun b o b1 b2 b3 q => hk b o b3 (H.kept b o b1 b2 b3 q), ?_, fun j hj => absurd hj (Nat.not_lt_zero _)⟩
    · rcases H.at_ with ⟨_, old, he⟩ | ⟨old, T, f, oT, he, hT, t1, t2, t3⟩
      · exact .inl ⟨rfl, old, hk _ _ (Nat.ne_of_lt heS) he⟩
      · exact .inr ⟨old, T, f, oT, hk _ _ (Nat.ne_of_lt heS) he, hk _ _ t3 hT, t1, t2, t3⟩
    · show S < h'.objs.size
      rw [hz]; exact H.big
end

/-! ### many objects come into the abstract heap at once -/
section
variable {X : Cx} {pins : List (Addr × Obj)} {σ : L2.St} {H H2 : Hp} {s : Shared}
theorem laidMany {h' : Heap} {t' : Nat} (I : Inv X pins σ H s) (k : ∀ b u, s.heap.get? b = some u → h'.get? b = some u) (up : ∀ b u, H b = some u → H2 b = some u)
    (nw : ∀ b u, H2 b = some u → H b = some u ∨ (s.heap.get? b = none ∧ ObjOk X.prog X.w H2 h' b u)) : Inv X pins σ H2 { s with heap := h', toks := t' } := by
  refine I.un (t' := t') (h' := h') ⟨fun b u q _ _ _ => k b u q, fun b u q _ _ _ => ⟨u.slots, k b u q⟩, fun b u q n _ => ?_, fun b u q _ => ⟨u, k b u q⟩, fun b xs q => up _ _ q, fun b u xs q => up _ _ q, fun b ps q => ⟨#[], by rw [up _ _ q]; simp⟩⟩ fun b u e => ?_
  · cases e : H2 b with
    | none => rfl
    | some v =>
      rcases nw b v e with z | ⟨z, _⟩
      · rw [n] at z; cases z
      · rw [q] at z; cases z
  · rcases nw b u e with z | ⟨_, z⟩
    · exact (I.hok b u z).stay (fun c v _ q => k c v q) (fun c q => up _ _ q) fun c xs q => up _ _ q
    · exact z
end
theorem refs_of : ∀ {l : List Value}, (∀ v ∈ l, ∃ t, v = Value.ref t) → ∃ ts : List Addr, l = ts.map Value.ref
  | [], _ => ⟨[], rfl⟩
  | v :: l, h => by
    obtain ⟨t, rfl⟩ := h v (by simp)
    obtain ⟨ts, rfl⟩ := refs_of (l := l) fun v hv => h v (by simp [hv])
    exact ⟨t :: ts, rfl⟩
theorem vals_refs : ∀ ts : List Addr, Vals (ts.map V.ref) (ts.map Value.ref)
  | [] => .nil
  | t :: ts => .cons rfl (vals_refs ts)
open Classical in
/-- the heap with the pairs at ts -/
noncomputable def prsH (H : Hp) (xs : List V) (ts : List Addr) : Hp := fun b => if h : ∃ j, ts[j]? = some b then some (.tup [.int ((h.choose : Nat) : Int), (xs[h.choose]?).getD .non]) else H b
section
variable {X : Cx}
/-- list(enumerate(x)) -/
def tListEnum (K : PySem.W.Frag) (ta : TE) : TE := fun σ H Q => ta σ H fun x H1 => ∃ (a : Addr) (xs : List V), x = .ref a ∧ (SqL K H1 a xs ∨ SqT K H1 a xs) ∧ xs.length ≤ sizeLine ∧
  ∀ (Hm : Hp) (p : Addr) (ts : List Addr), Same H1 Hm → Hm p = none → ts.length = xs.length → (∀ j t, ts[j]? = some t → ∃ x, xs[j]? = some x ∧ Hm t = some (.tup [.int (j : Nat), x])) → Q (.ref p) (upd Hm p (.lst (ts.map V.ref)))
theorem enum_len : typeLookup (.type "enumerate") "__len__" = pure none := am_miss_of_fast (by decide +kernel)
theorem enum_hint : typeLookup (.type "enumerate") "__length_hint__" = pure none := am_miss_of_fast (by decide +kernel)
theorem laid_enum {pins : List (Addr × Obj)} {σ : L2.St} {H : Hp} {s s' : Shared} {e it S : Addr} {its : List Value} {xs : List V} {acc : Array Value} {c : Nat} {Q : V → Hp → Prop} (I : Inv X pins σ H s) (hS : s.heap.objs.size ≤ S)
    (he : s.heap.objs.size ≤ e) (hi : s.heap.objs.size ≤ it) {s0 : Shared} (h0 : ∀ b o, s.heap.get? b = some o → s0.heap.get? b = some o) (g0 : s0.gens = s.gens) (d0 : s0.drawn = s.drawn) (o0 : s0.os = s.os)
    (rv : Vals xs its) (hz : xs.length ≤ sizeLine) (hL : s'.heap.get? S = some (lstO acc c)) (F : EnF s0 e it S (fun i v => its.toArray[i]? = some v) its.toArray.size acc s')
    (q : ∀ (Hm : Hp) (p : Addr) (ts : List Addr), Same H Hm → Hm p = none → ts.length = xs.length → (∀ j t, ts[j]? = some t → ∃ x, xs[j]? = some x ∧ Hm t = some (.tup [.int (j : Nat), x])) → Q (.ref p) (upd Hm p (.lst (ts.map V.ref)))) :
    ∃ H2, Inv X pins σ H2 s' ∧ Q (.ref S) H2 := by
  have hl := rv.length
  have hsz : acc.size = xs.length := by rw [F.sz, hl]; simp
  obtain ⟨ts, hts⟩ := refs_of (l := acc.toList) fun v hv => by
    obtain ⟨j, hj⟩ := List.mem_iff_getElem?.mp hv
    have hlt : j < acc.toList.length := (List.getElem?_eq_some_iff.mp hj).1
    obtain ⟨t, tk, u, e1, _⟩ := F.prs j (by rw [← F.sz]; simpa using hlt)
    refine ⟨t, ?_⟩
    have : acc[j]? = some v := by rw [← hj]; simp
    rw [this] at e1; exact Option.some.inj e1
  have htl : ts.length = xs.length := by
    have := congrArg List.length hts
    rw [List.length_map, Array.length_toList] at this
    omega
  have hp : ∀ j t, ts[j]? = some t → ∃ tk u, s'.heap.get? t = some (prO j tk u) ∧ its[j]? = some u ∧ S < t := fun j t h => by
    have hlt : j < ts.length := (List.getElem?_eq_some_iff.mp h).1
    obtain ⟨t', tk, u, e1, e2, e3, e4⟩ := F.prs j (by rw [← F.sz, hsz, ← htl]; exact hlt)
    have : acc[j]? = some (.ref t) := by
      have : acc.toList[j]? = some (.ref t) := by rw [hts, List.getElem?_map, h]; rfl
      rw [← this]; simp
    rw [this] at e1
    cases e1
    exact ⟨tk, u, e2, by simpa using e3, e4⟩
  have inj : ∀ j k t, ts[j]? = some t → ts[k]? = some t → j = k := fun j k t h1 h2 => by
    obtain ⟨tk, u, e1, _⟩ := hp j t h1
    obtain ⟨tk', u', e2, _⟩ := hp k t h2
    rw [e1] at e2
    have e2 := Option.some.inj e2
    injection e2 with _ _ z
    injection z with z
    have z := congrArg Array.toList z
    have z : [Value.int (j : Nat) tk, u] = [Value.int (k : Nat) tk', u'] := z
    injection z with z _
    injection z with z _
    omega
  have nb : ∀ b, s.heap.objs.size ≤ b → s.heap.get? b = none := fun b h => by
    cases z : s.heap.get? b with
    | none => rfl
    | some u => exact absurd (Heap.lt_size z) (Nat.not_lt.mpr h)
  have hm1 : ∀ j t, ts[j]? = some t → ∃ x, xs[j]? = some x ∧ prsH H xs ts t = some (.tup [.int (j : Nat), x]) := fun j t h => by
    have hlt : j < xs.length := by rw [← htl]; exact (List.getElem?_eq_some_iff.mp h).1
    refine ⟨xs[j], List.getElem?_eq_getElem hlt, ?_⟩
    have hh : ∃ j, ts[j]? = some t := ⟨j, h⟩
    have e := inj _ _ _ hh.choose_spec h
    unfold prsH
    rw [dif_pos hh, e, List.getElem?_eq_getElem hlt]
    rfl
  have hm2 : ∀ b, (¬ ∃ j, ts[j]? = some b) → prsH H xs ts b = H b := fun b h => by
    unfold prsH
    rw [dif_neg h]
  have tb : ∀ j t, ts[j]? = some t → s.heap.objs.size ≤ t := fun j t h => Nat.le_trans hS (Nat.le_of_lt (hp j t h).choose_spec.choose_spec.2.2)
  have same : Same H (prsH H xs ts) := fun b o h => by
    rw [hm2 b (by rintro ⟨j, hj⟩; rw [I.hok.fresh (tb j b hj)] at h; cases h)]
    exact h
  have hSm : prsH H xs ts S = none := by
    rw [hm2 S (by rintro ⟨j, hj⟩; exact Nat.lt_irrefl _ (hp j S hj).choose_spec.choose_spec.2.2)]
    exact I.hok.fresh hS
  have sm2 : Same (prsH H xs ts) (upd (prsH H xs ts) S (.lst (ts.map V.ref))) := same_new hSm
  refine ⟨_, ?_, q (prsH H xs ts) S ts same hSm htl hm1⟩
  obtain ⟨hp', gg, dd, tk', os'⟩ := s'
  obtain ⟨fg, fd, fo, fz, fk, fp⟩ := F
  dsimp only at fg fd fo fk fp hp hL
  subst fg fd fo
  rw [g0, d0, o0]
  refine laidMany I (fun b u h => fk b u (fun z => by rw [z, nb _ he] at h; cases h) (fun z => by rw [z, nb _ hi] at h; cases h) (fun z => by rw [z, nb _ hS] at h; cases h) (h0 b u h)) (fun b u h => sm2 _ _ (same _ _ h)) fun b u h => ?_
  by_cases hb : b = S
  · subst hb
    rw [upd_same] at h
    cases h
    refine .inr ⟨nb _ hS, ?_, acc.toList, c, ?_, hL⟩
    · rw [List.length_map, htl]; exact hz
    · rw [hts]; exact vals_refs ts
  · rw [upd_ne hb] at h
    by_cases hj : ∃ j : Nat, ts[j]? = some b
    · obtain ⟨j, hj⟩ := hj
      obtain ⟨x, hx, hm⟩ := hm1 j b hj
      rw [hm] at h
      cases h
      obtain ⟨tk, u, e1, e2, e3⟩ := hp j b hj
      obtain ⟨u', hu', ru⟩ := rv.get hx
      rw [e2] at hu'
      cases hu'
      refine .inr ⟨nb _ (tb j b hj), ?_, [.int (j : Nat) tk, u], .cons ⟨_, rfl⟩ (.cons ru .nil), ⟨_, e1, rfl, _, rfl⟩⟩
      show 2 ≤ sizeLine
      decide
    · rw [hm2 b hj] at h
      exact .inl h
theorem pe_listEnum {a : Expr} {ta : TE} {p p2 q pos : Pos} (hc : X.calm = true) (hg : Gl X "list") (hm : X.mg "list" = none) (hg2 : Gl X "enumerate") (hm2 : X.mg "enumerate" = none) (ha : PE X a ta)
    (na : starEach [a] X.env = (false, eval a X.env) :: starEach [] X.env := by rfl) : PE X (.Call (.Name "list" p) [.Call (.Name "enumerate" p2) [a] [] q] [] pos) (tListEnum X.K ta) := by
  refine ⟨fun pins s σ H Q I h => ?_⟩
  refine Call_ (ld_blt I hg hm PyProof.Rows.boot_list ?_)
  refine PyProof.Rows.callWith_type1 (PyProof.Rows.args_cons ?_ rfl) rfl rfl
  refine Call_ (ld_blt I hg2 hm2 PyProof.Rows.boot_enumerate ?_)
  refine PyProof.Rows.callWith_type1 (PyProof.Rows.args_cons (thn (ha.run pins s σ H _ I h) fun v s1 ⟨x, H1, I1, r1, q1⟩ => PyProof.Rows.args_nil ?_) na) na rfl
  obtain ⟨l, xs, rfl, hq, hl, q1⟩ := q1
  cases r1
  have key : ∀ {its : List Value} {o : Obj} {Hh : Heap → Prop} {St0 : Nat → Heap → Prop}, Vals xs its → Begins (.ref l) o Hh → Hh s1.heap → l < s1.heap.objs.size →
      (∀ h : Heap, (∀ b u, s1.heap.get? b = some u → h.get? b = some u) → h.get? s1.heap.objs.size = some o → St0 0 h) →
      Draws X.prog X.w X.A.in1.in1.in1 s1.heap.objs.size [s1.heap.objs.size, l] its.toArray.size (fun i v => its.toArray[i]? = some v) St0 →
      wpAny (model X.prog X.w) X.A (call (Value.type "enumerate") [Value.ref l]) (fun v s2 => wpAny (model X.prog X.w) X.A (spliced (backTo pos (starEach [] X.env))) (fun vs s3 => wpAny (model X.prog X.w) X.A (call (Value.type "list") (v :: vs)) (EP X pins σ Q) X.xe s3) X.xe s2) X.xe s1 := by
    intro its o Hh St0 rv B hH hll hst D
    refine enum1_begins B hH fun h' he hit hsz hk => PyProof.Rows.args_nil ?_
    have hS : h'.objs.size = s1.heap.objs.size + 2 := hsz
    have ne : s1.heap.objs.size + 1 ≠ s1.heap.objs.size := Nat.succ_ne_self _
    have hz : its.toArray.size ≤ sizeLine := by rw [List.size_toArray, ← rv.length]; exact hl
    have ef : s1.heap.objs.size + 1 ∉ [s1.heap.objs.size, l] := by
      simp only [List.mem_cons, List.not_mem_nil, or_false, not_or]
      exact ⟨ne, Nat.ne_of_gt (Nat.lt_succ_of_lt hll)⟩
    have Sf : h'.objs.size ∉ [s1.heap.objs.size, l] := by
      simp only [List.mem_cons, List.not_mem_nil, or_false, not_or]
      rw [hS]
      exact ⟨Nat.ne_of_gt (Nat.lt_add_of_pos_right (by decide)), Nat.ne_of_gt (Nat.lt_add_right 2 hll)⟩
    have eS : s1.heap.objs.size + 1 < h'.objs.size := by rw [hS]; exact Nat.lt_succ_self _
    have iS : s1.heap.objs.size < h'.objs.size := by rw [hS]; exact Nat.lt_add_of_pos_right (by decide)
    have G := goes_enum (s0 := { s1 with heap := h' }) D ne ef Sf eS iS
    refine list_go (s := { s1 with heap := h' }) enum_len enum_hint (by decide +kernel) (by decide +kernel) G hz (fun acc s H => ?_) eS ?_ fun s' acc' c' hL F => ?_
    · rcases H.at_ with ⟨_, old, z⟩ | ⟨old, T, f, oT, z, _⟩
      · exact ⟨_, z, rfl⟩
      · exact ⟨_, z, rfl⟩
    · refine ⟨rfl, rfl, rfl, rfl, hst _ (fun b u x => Heap.get?_push_of_some _ (hk b u x)) (Heap.get?_push_of_some _ hit), .inl ⟨rfl, .none, Heap.get?_push_of_some _ he⟩, fun b o _ _ _ x => Heap.get?_push_of_some _ x, ?_, fun j hj => absurd hj (Nat.not_lt_zero _)⟩
      show h'.objs.size < (h'.push (lstO #[] 0)).objs.size
      rw [Heap.size_push]
      exact Nat.lt_succ_self _
    · obtain ⟨H2, J, q⟩ := laid_enum (s := s1) (s0 := { s1 with heap := h' }) I1 (Nat.le_of_lt iS) (Nat.le_succ _) (Nat.le_refl _) hk rfl rfl rfl rv hl hL F q1
      exact ⟨.ref _, H2, J, rfl, q⟩
  rcases hq with hq | hq
  · obtain ⟨its, r, pl, hz⟩ := I1.list hq
    have hlt : l < s1.heap.objs.size := by obtain ⟨o, ho, _⟩ := id pl.isList; exact Heap.lt_size ho
    have Dr : Draws X.prog X.w X.A.in1.in1.in1 s1.heap.objs.size [s1.heap.objs.size, l] its.toArray.size (fun i v => its.toArray[i]? = some v) (fun i h => h.IsListIter s1.heap.objs.size l i ∧ h.IsList l its.toArray) := Draws.list (show X.A.in1.in1.in1.handled = none from I1.ok.hd hc) _ l (Nat.ne_of_lt hlt) its.toArray
    exact key r (begins_list l its.toArray) (show s1.heap.IsList l its.toArray from pl.isList) hlt (fun h k i => ⟨⟨_, i, rfl, rfl⟩, pl.isList.at fun o x => k _ o x⟩) Dr
  · obtain ⟨its, r, pl, hz⟩ := I1.tuple hq
    have hlt : l < s1.heap.objs.size := by obtain ⟨o, ho, _⟩ := id pl; exact Heap.lt_size ho
    have Dr : Draws X.prog X.w X.A.in1.in1.in1 s1.heap.objs.size [s1.heap.objs.size, l] its.toArray.size (fun i v => its.toArray[i]? = some v) (fun i h => h.IsTupleIter s1.heap.objs.size l i ∧ h.IsTuple l its.toArray) := Draws.tuple (show X.A.in1.in1.in1.handled = none from I1.ok.hd hc) _ l (Nat.ne_of_lt hlt) its.toArray
    exact key r (begins_tuple l its.toArray) (show s1.heap.IsTuple l its.toArray from pl) hlt (fun h k i => ⟨⟨_, i, rfl, rfl⟩, (show s1.heap.IsTuple l its.toArray from pl).at fun o x => k _ o x⟩) Dr
end
section
variable {c : Cn} {sa : Sm} {a : Expr} {pn pp p2 pos : Pos}
theorem prs_dq {K : PySem.W.Frag} {H Hm : Hp} {W : Addr → Prop} (w : Wok H W) (sm : Same H Hm) : ∀ (n : Nat) {xs : List V} {ds : List D} {ts : List Addr}, DqAll K H W xs ds → ts.length = xs.length → (∀ j t, ts[j]? = some t → ∃ x, xs[j]? = some x ∧ Hm t = some (.tup [.int ((n + j : Nat) : Int), x])) →
    DqAll K Hm W (ts.map V.ref) (enumD n ds)
  | n, _, [], ts, h, hl, hp => by
    cases h
    have : ts = [] := List.eq_nil_of_length_eq_zero hl
    subst this
    exact .nil
  | n, _, d :: ds, [], h, hl, hp => by cases h; simp at hl
  | n, _, d :: ds, t :: ts, h, hl, hp => by
    cases h with
    | cons h1 h2 =>
      obtain ⟨x, hx, ht⟩ := hp 0 t rfl
      have hx : _ = x := Option.some.inj hx
      subst hx
      refine .cons (.tup (.inl (.inl ht)) (.cons (.int _) (.cons (h1.same w sm) .nil))) (prs_dq w sm (n + 1) h2 (Nat.succ.inj hl) fun j t' hj => ?_)
      obtain ⟨x, e1, e2⟩ := hp (j + 1) t' hj
      exact ⟨x, e1, by rw [e2]; congr 4; omega⟩
theorem snd_matE (hc : c.X.calm = true) (hg : Gl c.X "list") (hm : c.X.mg "list" = none) (hg2 : Gl c.X "enumerate") (hm2 : c.X.mg "enumerate" = none) (ha : Snd c sa a) : Snd c (.mk' (matV false .enum [sa])) (.Call (.Name "list" pn) [.Call (.Name "enumerate" pp) [a] [] p2] [] pos) := by
  refine snd_mk (fun σ p e m Q s hp => pe.we (pe_listEnum hc hg hm hg2 hm2 pe_we (ha.sy.ns [] c.X.env)) ?_) rfl rfl
  have hp : Post c σ p e (RV c σ false p) (matV false .enum [sa] e m) Q := hp
  rw [mat1_eq] at hp
  refine one ha s hp fun v e2 m2 x q s2 x2 lx hk => ?_
  cases h1 : frzAll [v] with
  | none => simp only [h1] at hk; exact hk.elim
  | some ds =>
    simp only [h1] at hk
    cases h2 : itemsOf .enum ds with
    | none => rw [h2] at hk; exact hk.elim
    | some items =>
      rw [h2] at hk
      have hk : Post c σ q e2 (RV c σ false p) (if items.length ≤ lim then .ok (.own items) e2 m2 else .stuck) Q := hk
      split at hk
      · rename_i hl
        obtain ⟨d1, rfl, ys, hsq, rfl⟩ : ∃ d, ds = [d] ∧ ∃ ys, seqOf d = some ys ∧ items = enumD 0 ys := by
          match ds, h2 with
          | [], h2 => cases h2
          | [d], h2 =>
            have h2 : (seqOf d).map (enumD 0) = some items := h2
            cases z : seqOf d with
            | none => rw [z] at h2; cases h2
            | some ys => rw [z] at h2; cases h2; exact ⟨d, rfl, ys, z, rfl⟩
          | _ :: _ :: _, h2 => cases h2
        have hd : dat m2 v = some d1 := by
          have := frz1 h1
          cases v with
          | d y => exact this
          | own zs => exact this
          | cell k => cases this
        obtain ⟨a', vs, rfl, h3, h4⟩ := (lk_of s2 lx hd).seq hsq
        rw [enumD_len] at hl
        refine ⟨a', vs, rfl, h4.imp .inl id, by rw [h3.length]; exact lim_ok hl, fun Hm z ts sm hz htl hts => ?_⟩
        exact (ret_of s2 (Post.reV x2 hk)) z (ts.map V.ref) Hm _ sm (prs_dq s2.st.wok sm 0 h3 htl (by simpa using hts)) hz (same_new hz) upd_same
      · exact hk.elim
end
end Pv

/-! PvS17: repr; x.pop(k), x.insert(k, e) as statements. -/
namespace Pv
open PySem PySem.Spec PyProof.Rows L2
open PySem.SeqAt
open PySem.MeetsSeq PySem.MeetsSeq2 PySem.MeetsSeq3
/-! ### repr -/
theorem shp_nodict : ∀ (n : Nat) (x : D), shp n x = true → x.hasDict = false
  | _, .none, _ => rfl
  | _, .bool _, _ => rfl
  | _, .int _, _ => rfl
  | _, .str _, _ => rfl
  | 0, .list _, h => by simp [shp] at h
  | 0, .tuple _, h => by simp [shp] at h
  | n + 1, .list xs, h => by
    unfold shp at h
    unfold PyData.hasDict
    exact go n xs h
  | n + 1, .tuple xs, h => by
    unfold shp at h
    unfold PyData.hasDict
    exact go n xs h
  | _, .dict _, h => by unfold shp at h; cases h
where
  go : ∀ (n : Nat) (xs : List D), shpAll n xs = true → PyData.hasDictAll xs = false
    | _, [], _ => rfl
    | n, x :: xs, h => by
      unfold shpAll at h
      rw [Bool.and_eq_true] at h
      unfold PyData.hasDictAll
      rw [shp_nodict n x h.1, go n xs h.2]
      rfl
section
variable {X : Cx}
def rRepr (K : PySem.W.Frag) : List V → Hp → VK → Prop := fun vs H Q => ∃ x W d, vs = [x] ∧ Lk K H W x d ∧ reprD d ≠ none ∧ Q (.str d.shown) H
theorem cr_repr (gd : X.A.guards = some []) (hu : X.A.units + 64 < cLine) : CallR X (.builtin "repr") (rRepr X.K) := by
  intro pins s σ H xs us Q I r h
  obtain ⟨x, W, d, rfl, lk, ok, q⟩ := h
  cases r with
  | cons ru rr =>
    cases rr
    unfold reprD at ok
    split at ok
    · rename_i hk
      obtain ⟨h1, h2, h3⟩ := hk
      obtain ⟨as, rd⟩ := Dp.reads I d x _ lk.dp ru
      have hz : d.shown.length ≤ sizeLine := Nat.le_trans h3 (by decide)
      have nd := shp_nodict _ _ h1
      have dep := (shp_plain h1).2
      have fin : ∀ (h' : Heap) (u tk : Tok), (∀ b o, s.heap.get? b = some o → h'.get? b = some o) → EP X pins σ Q (.str d.shown u) { s with heap := h', toks := tk } := fun h' u tk k => ⟨.str d.shown, H, I.kept k, ⟨u, rfl⟩, q⟩
      cases rd with
      | none => exact PySem.P.repr_of_none (fin _ _ _ fun _ _ e => e)
      | bool b => exact PySem.P.repr_of_bool (fin _ _ _ fun _ _ e => e)
      | int i t => exact PySem.P.repr_of_int (of_decide_eq_true (by simpa [PyData.showable] using h2)) (fin _ _ _ fun _ _ e => e)
      | str z t => exact PySem.P.repr_of_str (fin _ _ _ fun _ _ e => e) hz
      | list a b c e => exact repr_of_reads' (.list a b c e) h2 (fun z => by rw [nd] at z; cases z) gd (by omega) (fun _ _ e => e) fin hz
      | tuple a b c e => exact repr_of_reads' (.tuple a b c e) h2 (fun z => by rw [nd] at z; cases z) gd (by omega) (fun _ _ e => e) fin hz
      | dict a b c e f => cases nd
    · exact absurd rfl ok
end
section
variable {c : Cn} {sa sb : Sm} {a b : Expr} {pn pos : Pos}
theorem snd_rep (gd : c.X.A.guards = some []) (hu : c.X.A.units + 64 < cLine) (hg : Gl c.X "repr") (hm : c.X.mg "repr" = none) (ha : Snd c sa a) : Snd c (.mk' (one1 reprD sa)) (.Call (.Name "repr" pn) [a] [] pos) := by
  have hst := ha.sy.ns [] c.X.env
  refine snd_mk (fun σ p e m Q s hp => pe.we (pe_callB (cr_repr gd hu) hg hm PyProof.Rows.bootS_repr (pa_cons pe_we pa_nil hst) (by decide) (by decide) hst rfl) ?_) rfl rfl
  have hp : Post c σ p e (RV c σ false p) (one1 reprD sa e m) Q := hp
  refine one ha s hp fun v e2 m2 x q s2 x2 lx hk => ?_
  cases h1 : dat m2 v with
  | none => simp only [h1] at hk; exact hk.elim
  | some d1 =>
    simp only [h1] at hk
    cases h2 : reprD d1 with
    | none => rw [h2] at hk; exact hk.elim
    | some r =>
      have hr : r = .d (.str d1.shown) := by
        unfold reprD at h2
        split at h2
        · exact (Option.some.inj h2).symm
        · cases h2
      rw [h2, hr] at hk
      refine ⟨x, q.W, d1, rfl, lk_of s2 lx h1, by rw [h2]; simp, ?_⟩
      exact (ret_of s2 (Post.reV x2 hk)) _ _ (Same.refl _) (.str _)
end

/-! ### x.pop(k), x.insert(k, e) -/
section
variable {c : Cn} {sa sb : Sm} {a b : Expr} {pos : Pos}
theorem few2 {ex ey : Expr} (h : Syn ex) (h2 : Syn ey) (cpos : Pos) (env : PySem.Env) : ((backTo cpos (starEach [ex, ey] env)).all (fun x => !x.1) && (backToKw cpos (keywordEach [] env)).all (fun x => x.1.isSome)
      && decide (([ex, ey] : List Expr).length + ([] : List Keyword).length + (if ([] : List Keyword).isEmpty then 0 else 1) < 30)) = true := by
  rw [h.ns, h2.ns]; rfl
theorem snds_popAt {i : Nat} {x : Str} {px apos cpos : Pos} (hi : c.X.N[i]? = some x) (hv : Vis c.X.env.scope x) (hd : (x == ("__debug__" : Str)) = false) (hcd : (x == ("__classdict__" : Str)) = false) (hline : (apos.endLine == cpos.line) = true) (ha : Snd c sa a) :
    SndS c (fun e m => match ownAt e i with
      | some _ => (sa.v e m).bind fun v e m => match v, ownAt e i with
        | .d (.int k), some xs => match ixOf xs.length k with
          | some p => if xs.length ≤ lim then .ok .nx (e.set i (some (.own (xs.eraseIdx p)))) m else .stuck
          | none => .stuck
        | _, _ => .stuck
      | none => .stuck) (.Expr (.Call (.Attribute (.Name x px) "pop" apos) [a] [] cpos) pos) := fun σ p e m D s hp => by
  cases h0 : ownAt e i with
  | none => simp only [h0] at hp; exact hp.elim
  | some xs0 =>
  simp only [h0] at hp
  obtain ⟨z, h5, b, vs, rfl, h7, h8, h9⟩ := s.env i _ (own_at h0)
  refine ws_of (ps_expr (pe_bm PySem.F.plainAttrs_list PySem.F.slot_list_pop PySem.F.type_list_pop mt_popAt (pe_var hi hv hd hcd) (pa_wa (es := [a])) name_base (few1 ha.sy _ _) hline (ha.sy.ns _ _) (plain1 _ _)) (by rfl)) ?_
  refine ⟨_, h5, .inl ⟨rfl, vs, .inl (.inl h7)⟩, wa_cons ha.sy (ha.v σ p e m _ s (PostS.bind s hp fun v e1 m1 hp u q s1 x1 r1 => ?_))⟩
  split at hp
  · rename_i k xs h2
    split at hp
    · rename_i pp h3
      split at hp
      · rename_i hl
        cases r1.1
        have he := own_at h2
        obtain ⟨z, j5, a2, ws, rfl, j7, j8, j9⟩ := s1.env i _ he
        rw [h5] at j5
        cases j5
        obtain ⟨g1, g2, g3⟩ := ix_seq h3 hl
        have hlt : pp < xs.length := by
          unfold ixOf at h3
          split at h3
          · split at h3
            · cases h3; omega
            · cases h3
          · split at h3
            · cases h3; omega
            · cases h3
        obtain ⟨w, hw, dw⟩ := j8.get (List.getElem?_eq_getElem hlt)
        obtain ⟨s2, l2⟩ := s1.wrOwn he h5 j7 j9 (j8.eraseIdx pp)
        exact wa_of pa_nil ⟨b, ws, k, pp, w, rfl, rfl, j7, g2, g3, by rw [j8.length]; exact g1, hw, hp σ _ s2 ((x1.lat s).trans l2)⟩
      · exact hp.elim
    · exact hp.elim
  · exact hp.elim
theorem snds_ins {i : Nat} {x : Str} {px apos cpos : Pos} (hi : c.X.N[i]? = some x) (hv : Vis c.X.env.scope x) (hd : (x == ("__debug__" : Str)) = false) (hcd : (x == ("__classdict__" : Str)) = false) (hline : (apos.endLine == cpos.line) = true) (ha : Snd c sa a) (hb : Snd c sb b) :
    SndS c (fun e m => match ownAt e i with
      | some _ => (smG [sa, sb] e m).bind fun vs e m => match frzAll vs, ownAt e i with
        | some [.int k, y], some xs => if 0 ≤ k ∧ k ≤ 1000000 ∧ xs.length < lim then .ok .nx (e.set i (some (.own (xs.take k.toNat ++ [y] ++ xs.drop k.toNat)))) m else .stuck
        | _, _ => .stuck
      | none => .stuck) (.Expr (.Call (.Attribute (.Name x px) "insert" apos) [a, b] [] cpos) pos) := fun σ p e m D s hp => by
  cases h0 : ownAt e i with
  | none => simp only [h0] at hp; exact hp.elim
  | some xs0 =>
  simp only [h0] at hp
  obtain ⟨z, h5, l, vs, rfl, h7, h8, h9⟩ := s.env i _ (own_at h0)
  have hpl : (backTo cpos (starEach [b] c.X.env)).any (·.1) = false := by rw [hb.sy.ns]; rfl
  refine ws_of (ps_expr (pe_bm PySem.F.plainAttrs_list PySem.F.slot_list_insert PySem.F.type_list_insert mt_insert (pe_var hi hv hd hcd) (pa_wa (es := [a, b])) name_base (few2 ha.sy hb.sy _ _) hline (ha.sy.ns _ _) hpl) (by rfl)) ?_
  refine ⟨_, h5, .inl ⟨rfl, vs, .inl (.inl h7)⟩, snds_g (.cons ha (.cons hb .nil)) s (PostS.bind s hp fun us e1 m1 hp ws q s1 x1 rl => ?_)⟩
  split at hp
  · rename_i k y xs h1 h2
    split at hp
    · rename_i hk
      obtain ⟨k0, k1, hl⟩ := hk
      have he := own_at h2
      obtain ⟨s2, x2, d2⟩ := rl.give s s1 x1 h1
      obtain ⟨z, k5, b', vs', rfl, k7, k8, k9⟩ := s2.env i _ he
      rw [h5] at k5
      cases k5
      cases d2 with
      | cons d21 d22 =>
        cases d21
        cases d22 with
        | cons d3 d4 =>
          cases d4
          obtain ⟨s3, l3⟩ := s2.wrOwn he h5 k7 k9 (((k8.take k.toNat).append (.cons d3 .nil)).append (k8.drop k.toNat))
          exact ⟨l, vs', k, _, rfl, rfl, k7, by rw [k8.length]; exact lim_lt hl, k0, by omega, hp σ _ s3 ((x2.later s.st).trans l3)⟩
    · exact hp.elim
  · exact hp.elim
end

/-! ### x[lo:hi] = a fresh list -/
theorem bounds_cut {a c n : Nat} (hac : a ≤ c) (ha : a ≤ n) : sliceBounds (some (a : Int)) (some (c : Int)) none n = ((a : Int), ((min c n : Nat) : Int), 1) := by
  simp only [sliceBounds, Option.getD_none]
  have h1 : ¬ ((a : Int) < 0) := by omega
  have h2 : ¬ ((c : Int) < 0) := by omega
  simp only [h1, h2, if_false, show (1 : Int) > 0 by decide, if_true]
  congr 1
  · omega
  · congr 1; omega
section
variable {prog : Program} {w : World} {A : Around} {E : Value → Shared → Prop} {s : Shared}
theorem setItem_sl {l b sl : Addr} {items new : Array Value} {n n2 : Nat} {vl vu : Value} {a c : Nat} {Q : Unit → Shared → Prop}
    (e : s.heap.get? l = some { cls := .type "list", data := .seq items n }) (e2 : s.heap.get? b = some { cls := .type "list", data := .seq new n2 }) (hne : l ≠ b)
    (hs : s.heap.IsSliceOf sl vl vu .none) (pl : IsPart vl (some (a : Int))) (pu : IsPart vu (some (c : Int))) (hac : a ≤ c) (ha : a ≤ items.size)
    (hsz : items.size + new.size ≤ sizeLine) (h : Q () { s with heap := s.heap.update l (Obj.mapSeq fun xs => xs.extract 0 a ++ new ++ xs.extract (min c items.size) xs.size) }) :
    wpAny (model prog w) A (setItem (.ref l) (.ref sl) (.ref b)) Q E s := by
  have hl : s.heap.IsList l items := PySem.IsL.isList e
  have hb : s.heap.IsList b new := PySem.IsL.isList e2
  obtain ⟨os, hos, hcs, hds⟩ := id hs
  have hTs : s.TypeIs (.ref sl) "slice" := ⟨os, hos, hcs⟩
  have hsame : Builtin.List.listSameRef (.ref l) (.ref b) = false := by
    unfold Builtin.List.listSameRef
    exact beq_eq_false_iff_ne.mpr hne
  have hmax : (max (a : Int) ((min c items.size : Nat) : Int)).toNat = min c items.size := by omega
  have hz' : ((fun xs : Array Value => xs.extract 0 a ++ new ++ xs.extract (min c items.size) xs.size) items).size ≤ sizeLine + 1 := by
    simp only [Array.size_append, Array.size_extract]
    omega
  have hpos : ¬ ((rawPart none == rawInt 0) = true) := Bool.false_ne_true
  have hslice : (Value.type "slice" != Value.type "slice") = false := by decide
  unfold setItem
  refine wpAny_holding ?_
  refine wpAny_bind (wpAny_sequenceKey hl.typeIs (by decide) ?_)
  refine wpAny_bind (wpAny_callSpecial?_slot (name := Str.ofString "__setitem__") hl.typeIs slot_list_setitem
    (wpAny_call_entry slot_list_setitem hl.typeIs entry_list_setitem (?_ : wpAny _ _ _ _ _ _) (args_list_setitem _ _ _)))
  show wpAny _ _ (Builtin.List.listSubscript? (.ref sl) >>= _) _ _ s
  refine wpAny_bind (?_ : wpAny _ _ _ _ _ _)
  unfold Builtin.List.listSubscript?
  refine wpAny_bind (wpAny_specialOf hTs slice_no_index (?_ : wpAny _ _ _ _ _ _))
  simp only [Option.isNone_none, if_true]
  refine wpAny_pure (?_ : wpAny _ _ _ _ _ _)
  show wpAny _ _ (typeOf (.ref sl) >>= _) _ _ s
  refine wpAny_bind (wpAny_typeOf hTs (?_ : wpAny _ _ _ _ _ _))
  refine PySem.W.KFB.if_not (by first | (rw [hslice]; done) | (rw [hslice]; exact Bool.false_ne_true)) ?_
  rw [listSliceParts_eq]
  refine wpAny_bind (wpAny_bind (wpAny_field hos hds (x := .none) rfl (wpAny_bind (wpAny_listPart .none (?_ : wpAny _ _ _ _ _ _)))))
  rw [if_neg hpos]
  refine wpAny_bind (wpAny_field hos hds (x := vl) rfl (wpAny_bind (wpAny_listPart pl (?_ : wpAny _ _ _ _ _ _))))
  refine wpAny_bind (wpAny_field hos hds (x := vu) rfl (wpAny_bind (wpAny_listPart pu (wpAny_pure (?_ : wpAny _ _ _ _ _ _)))))
  refine PySem.W.KFB.if_not (by first | (rw [hsame]; done) | (rw [hsame]; exact Bool.false_ne_true)) ?_
  refine wpAny_bind (m := Builtin.List.listAllItems (.ref b) "must assign iterable to extended slice") (?_ : wpAny _ _ _ _ _ _)
  unfold Builtin.List.listAllItems
  refine wpAny_bind (wpAny_typeOf hb.typeIs (?_ : wpAny _ _ _ _ _ _))
  refine PySem.W.KFB.if_so (by decide) ?_
  unfold Builtin.List.listItems
  refine wpAny_bind (wpAny_seqItems e2 rfl (wpAny_pure (?_ : wpAny _ _ _ _ _ _)))
  refine wpAny_bind (wpAny_bind (wpAny_seqItems e rfl (wpAny_pure (?_ : wpAny _ _ _ _ _ _))))
  refine wpAny_bind (wpAny_of_eq ((sliceIndices_raw (some (a : Int)) (some (c : Int)) none items.size (by simp)).trans (congrArg (pure : Int × Int × Int → Sem (Int × Int × Int)) (bounds_cut hac ha))) (?_ : wpAny _ _ _ _ _ _))
  show wpAny _ _ (if ((1 : Int) == 1) = true then _ else _) _ _ s
  rw [if_pos (by decide)]
  refine wpAny_bind (wpAny_rule (?_ : wpAny _ _ _ _ _ _))
  refine PySem.W.KFB.if_not (notLongL hsz) ?_
  show wpAny _ _ (updateSeq l (fun xs => xs.extract 0 ((a : Int)).toNat ++ new ++ xs.extract (max (a : Int) ((min c items.size : Nat) : Int)).toNat xs.size) >>= _) _ _ s
  rw [hmax, Int.toNat_natCast]
  refine wpAny_bind (wpAny_updateSeq (hz := Nat.le_trans (Nat.le_add_right _ _) hsz) (_hz' := hz') e rfl (?_ : wpAny _ _ _ _ _ _))
  refine wpAny_bind (wpAny_letGo (?_ : wpAny _ _ _ _ _ _))
  exact wpAny_pure ⟨.none, rfl, wpAny_pure h⟩
end
section
variable {X : Cx} {o lo hi : Expr} {to ta tb : TE} {p2 tpos : Pos}
def gSl (to ta tb : TE) : TG := fun v σ H Q => to σ H fun x H1 => tPart ta σ H1 fun i H2 => tPart tb σ H2 fun j H3 => ∃ (l m : Addr) (xs ys : List V) (a b : Int), x = .ref l ∧ v = .ref m ∧ i = some a ∧ j = some b ∧ H3 l = some (.lst xs) ∧ H3 m = some (.lst ys) ∧ l ≠ m ∧
  (0 ≤ a ∧ a ≤ b ∧ a ≤ xs.length) ∧ xs.length + ys.length ≤ sizeLine ∧ Q σ (upd H3 l (.lst (xs.take a.toNat ++ ys ++ xs.drop b.toNat)))
theorem pg_setSl (ho : PE X o to) (ha : PE X lo ta) (hb : PE X hi tb) : PG X (.Subscript o (.Slice (some lo) (some hi) none p2) tpos) (gSl to ta tb) := by
  refine ⟨fun pins s σ H v u Q I r h => ?_⟩
  rw [assign_Subscript]
  refine wpAny_bind (wpAny_holding (thn (ho.run pins s σ H _ I h) fun ov s1 ⟨x, H1, I1, r1, q1⟩ => (?_ : wpAny _ _ _ _ _ _)))
  refine wpAny_bind (wpAny_holding (wpAny_Slice (thn ((po_some ha).run pins s1 σ H1 _ I1 q1) fun vl s2 ⟨i, H2, I2, pl, q2⟩ => thn ((po_some hb).run pins s2 σ H2 _ I2 q2) fun vu s3 ⟨j, H3, I3, pu, q3⟩ => ?_)))
  rw [evalPart_none]
  refine wpAny_pure ?_
  obtain ⟨l, m, xs, ys, a, b, rfl, rfl, rfl, rfl, hl, hm, hne, ⟨a0, hab, hax⟩, hz, q⟩ := q3
  cases r1
  cases r
  generalize hs4 : ({ s3 with heap := s3.heap.push { cls := .type "slice", data := .fields #[vl, vu, .none] } } : Shared) = s4
  have I4 : Inv X pins σ H3 s4 := by rw [← hs4]; exact I3.kept (t' := s3.toks) fun b ob q => Heap.get?_push_of_some _ q
  have hsl : s4.heap.IsSliceOf s3.heap.objs.size vl vu .none := by rw [← hs4]; exact Heap.IsSliceOf.new ..
  obtain ⟨a', rfl⟩ := Int.eq_ofNat_of_zero_le a0
  obtain ⟨b', rfl⟩ := Int.eq_ofNat_of_zero_le (Int.le_trans a0 hab)
  obtain ⟨z, its, n, r1, hl1, e1⟩ := I4.lstM hl
  obtain ⟨z2, its2, n2, r2, hl2, e2⟩ := I4.lstM hm
  refine wpAny_bind (wpAny_standAt (wpAny_bind (wpAny_holding (setItem_sl (a := a') (c := b') e1 e2 hne hsl pl pu (by omega) (by rw [List.size_toArray]; omega) (by rw [List.size_toArray, List.size_toArray]; omega) ?_))))
  refine wpAny_release ⟨σ, _, I4.lset (its' := its.take a' ++ its2 ++ its.drop b') (ys := xs.take a' ++ ys ++ xs.drop b') (t' := s4.toks) hl e1 ?_ (((r1.take a').append r2).append (r1.drop b')) ?_, q⟩
  · rw [List.size_toArray]
    apply Array.toList_inj.mp
    by_cases hbn : b' ≤ its.length
    · rw [Nat.min_eq_left hbn]
      simp
      exact List.take_of_length_le (by simp)
    · rw [Nat.min_eq_right (by omega), List.drop_of_length_le (by omega)]
      simp
  · rw [List.length_append, List.length_append, List.length_take, List.length_drop]
    omega
end
section
variable {c : Cn} {sa sb sx : Sm} {ea eb ex : Expr} {pos : Pos}
theorem snds_setSl {i : Nat} {x : Str} {px tpos p2 : Pos} (hi : c.X.N[i]? = some x) (hv : Vis c.X.env.scope x) (hd : (x == ("__debug__" : Str)) = false) (hcd : (x == ("__classdict__" : Str)) = false) (hx : Snd c sx ex) (ha : Snd c sa ea) (hb : Snd c sb eb)
    (hs : swapsWithSole [.Subscript (.Name x px) (.Slice (some ea) (some eb) none p2) tpos] ex pos.line c.X.env = pure false) (hw : swappedStores [.Subscript (.Name x px) (.Slice (some ea) (some eb) none p2) tpos] ex c.X.env = pure none) :
    SndS c (fun e m => (sx.v e m).bind fun v e m => match sx.var, v with
      | none, .own ys => match ownAt e i with
        | some _ => (sa.v e m).bind fun a e m => match a with
          | .d (.int a) => (sb.v e m).bind fun b e m => match b, ownAt e i with
            | .d (.int b), some xs => if 0 ≤ a ∧ a ≤ b ∧ a ≤ xs.length ∧ xs.length + ys.length ≤ lim then .ok .nx (e.set i (some (.own (xs.take a.toNat ++ ys ++ xs.drop b.toNat)))) m else .stuck
            | _, _ => .stuck
          | _ => .stuck
        | none => .stuck
      | _, _ => .stuck) (.Assign [.Subscript (.Name x px) (.Slice (some ea) (some eb) none p2) tpos] ex pos) := fun σ p e m D s hp => by
  refine ws_of (ps_asg pe_we (pg_setSl (pe_var hi hv hd hcd) pe_we pe_we) hs hw rfl) (hx.v σ p e m _ s (PostS.bind s hp fun v e1 m1 hp u q s1 x1 r1 => ?_))
  cases hvar : sx.var with
  | some k => simp only [hvar] at hp; exact hp.elim
  | none =>
  cases v with
  | d y => simp only [hvar] at hp; exact hp.elim
  | cell k => simp only [hvar] at hp; exact hp.elim
  | own ys =>
    simp only [hvar] at hp
    cases h1 : ownAt e1 i with
    | none => simp only [h1] at hp; exact hp.elim
    | some xs1 =>
      simp only [h1] at hp
      have he1 := own_at h1
      obtain ⟨z, p5, l, vs0, rfl, p7, p8, p9⟩ := s.env i _ (x1.el i xs1 he1)
      obtain ⟨z, k5, l', vs1, rfl, k7, k8, k9⟩ := s1.env i _ he1
      rw [p5] at k5
      cases k5
      have fr := (r1.2 (by rw [hvar]; rfl)).2
      obtain ⟨b2, ws, rfl, z2, z3, z4⟩ := r1.1
      have hnew : p.H b2 = none := fr b2 rfl
      have hne : l ≠ b2 := fun z => by rw [z, hnew] at p7; cases p7
      have hp := hp.shift (x1.lat s)
      refine ⟨_, p5, ha.v σ q e1 m1 _ s1 (PostS.bind s1 hp fun va e2 m2 hp ua q2 s2 x2 r2 => ?_)⟩
      split at hp
      · rename_i ka
        cases r2.1
        have hp := hp.shift (x2.lat s1)
        refine ⟨ka, rfl, hb.v σ q2 e2 m2 _ s2 (PostS.bind s2 hp fun vb e3 m3 hp ub q3 s3 x3 r3 => ?_)⟩
        split at hp
        · rename_i kb xs h3
          cases r3.1
          split at hp
          · rename_i hk
            obtain ⟨a0, hab, hax, hz⟩ := hk
            have he3 := own_at h3
            obtain ⟨z, g5, l3, vs3, rfl, g7, g8, g9⟩ := s3.env i _ he3
            rw [p5] at g5
            cases g5
            obtain ⟨b3, ws3, hb3, y2, y3, y4⟩ : LR c.X.K q3.H q3.W q3.μ (.ref b2) (.own ys) := x3.lr s2.st (x2.lr s1.st ⟨b2, ws, rfl, z2, z3, z4⟩)
            cases hb3
            obtain ⟨s4, l4⟩ := s3.wrOwn he3 p5 g7 g9 (((g8.take ka.toNat).append y3).append (g8.drop kb.toNat))
            exact ⟨kb, rfl, l, b2, vs3, ws3, ka, kb, rfl, rfl, rfl, rfl, g7, y2, hne, ⟨a0, hab, by rw [g8.length]; exact hax⟩, by rw [g8.length, y3.length]; exact lim_ok hz, hp σ _ s4 ((x3.lat s2).trans l4)⟩
          · exact hp.elim
        · exact hp.elim
      · exact hp.elim
end
end Pv

/-! PvS18: a call that sees the store and is lent lists of the caller's. -/
namespace Pv
open PySem PySem.Spec PyProof.Rows L2
section
variable {M : Mo} {K : PySem.W.Frag} {H H' : Hp} {W W' : Addr → Prop}
mutual
/-- data that are told from some lists by length -/
theorem Dq.widen {P : Addr → Prop} : ∀ {d : D} {v : V}, (∀ a, P a → ∃ zs, H a = some (.lst zs) ∧ lenLt zs.length d = true) → Dq K H W v d → Dq K H (fun a => W a ∨ P a) v d
  | .none, _, _, h => by cases h; exact .non
  | .bool b, _, _, h => by cases h; exact .bl b
  | .int i, _, _, h => by cases h; exact .int i
  | .str x, _, _, h => by cases h; exact .str x
  | .list ds, _, n, h => by
    cases h with
    | @lst a xs _ r w c =>
      refine .lst r (fun z => ?_) (DqAll.widen (fun a ha => ?_) c)
      · rcases z with z | z
        · exact w z
        · obtain ⟨zs, e, l⟩ := n _ z
          unfold lenLt at l
          rw [Bool.and_eq_true, decide_eq_true_eq] at l
          have : zs = xs := by
            rcases r with r | ⟨o, r⟩
            · rw [e] at r; cases r; rfl
            · rw [e] at r; cases r
          subst this
          have := c.length
          omega
      · obtain ⟨zs, e, l⟩ := n a ha
        unfold lenLt at l
        rw [Bool.and_eq_true] at l
        exact ⟨zs, e, l.2⟩
  | .tuple ds, _, n, h => by
    cases h with
    | tup a c =>
      exact .tup a (DqAll.widen (fun a ha => by
        obtain ⟨zs, e, l⟩ := n a ha
        unfold lenLt at l
        exact ⟨zs, e, l⟩) c)
  | .dict _, _, _, h => by cases h
theorem DqAll.widen {P : Addr → Prop} : ∀ {ds : List D} {vs : List V}, (∀ a, P a → ∃ zs, H a = some (.lst zs) ∧ lenLtAll zs.length ds = true) → DqAll K H W vs ds → DqAll K H (fun a => W a ∨ P a) vs ds
  | [], _, _, h => by cases h; exact .nil
  | d :: ds, _, n, h => by
    cases h with
    | cons a b =>
      refine .cons (Dq.widen (fun a ha => ?_) a) (DqAll.widen (fun a ha => ?_) b)
      · obtain ⟨zs, e, l⟩ := n a ha
        unfold lenLtAll at l
        rw [Bool.and_eq_true] at l
        exact ⟨zs, e, l.1⟩
      · obtain ⟨zs, e, l⟩ := n a ha
        unfold lenLtAll at l
        rw [Bool.and_eq_true] at l
        exact ⟨zs, e, l.2⟩
end
theorem cels_wide (hWc : ∀ b q, H b = some (LamX.CodeO b q) → ¬ W b → ¬ W' b) {μ : List Addr} {m : Cels} (h : Paired (CelR M K H W) μ m) : noLstC m = true → Paired (CelR M K H W') μ m := by
  induction h with
  | nil => intro _; exact .nil
  | @cons a c μ1 m1 h t ih =>
    intro n
    unfold noLstC at n
    rw [List.all_cons, Bool.and_eq_true] at n
    refine .cons ?_ (ih n.2)
    cases c with
    | arr xs =>
      obtain ⟨vs, e, q⟩ := h
      exact ⟨vs, e, DqAll.wide n.1 q⟩
    | tbl q =>
      obtain ⟨t, ps, e, tr, am⟩ := h
      refine ⟨t, ps, e, tr, fun pos cv z => ?_⟩
      obtain ⟨b, e1, e2, e3⟩ := am pos cv z
      exact ⟨b, e1, e2, hWc b q e2 e3⟩
    | exn j f =>
      obtain ⟨C, fl, dx, u, e1, e2, e3, e4⟩ := h
      exact ⟨C, fl, dx, u, e1, e2, e3, Dq.wide n.1 e4⟩
theorem lend_all {μ : List Addr} (w : Wok H W) {P : Addr → Prop} {us : List V} {vs : List Vl} (h : Paired (fun u v => LR K H W μ u v) us vs) : (∀ (i : Nat) (ys : List D) (a : Addr), vs[i]? = some (.own ys) → us[i]? = some (V.ref a) → W a → P a) → Paired (fun u v => LR K H (fun a => W a ∧ ¬ P a) μ u v ∧ isOwn v = false) us (vs.map frzArg) := by
  induction h with
  | nil => intro _; exact .nil
  | @cons u v us1 vs1 hd tl ih =>
    intro hP
    refine .cons ?_ (ih (fun i ys a e1 e2 => hP (i + 1) ys a (by simpa using e1) (by simpa using e2)))
    cases v with
    | d z => exact ⟨Dq.keep w (fun _ _ h _ => h) (fun _ _ z => z.1) hd, rfl⟩
    | own zs =>
      obtain ⟨a, ws, rfl, z2, z3, z4⟩ := hd
      exact ⟨.lst (.inl z2) (fun z => z.2 (hP 0 zs a rfl rfl z.1)) (z3.keep w (fun _ _ h _ => h) (fun _ _ z => z.1)), rfl⟩
    | cell k => exact ⟨hd, rfl⟩
end
section
variable {c : Cn}
theorem snd_callL {call : Nat → List Vl → Cels → FRes} {f : Nat} {x : Str} {n : Nat} {ks : List Str} {ord : List (Nat ⊕ D)} (C : Callee c (call f) x n ks ord) {ss tt : List Sm} {es : List Expr} {kws : List Keyword} {pn pos : Pos} (hs : Paired (Snd c) ss es)
    (ht : Paired (fun sm (k : Keyword) => Snd c sm k.value) tt kws) (hn : es.length = n) (hk : kwOk kws ks = true) : Snd c (.mk' (callLV call f (ss ++ tt) ord)) (.Call (.Name x pn) es kws pos) := by
  refine snd_mk (fun σ p e m Q s hp => call_run C hs hn hk (snds_a hs ht s (Post.bind hp fun vs e1 m1 hp us q s1 x1 r1 => ?_))) rfl rfl
  obtain ⟨vs, lent⟩ := vs
  dsimp only at hp
  obtain ⟨G, hG⟩ : ∃ G : Addr → Prop, G = fun a => givenP us vs a ∧ q.W a := ⟨_, rfl⟩
  cases ha : arrange (vs.map frzArg) ord with
  | none => simp only [ha] at hp; exact hp.elim
  | some ws =>
    simp only [ha] at hp
    have w0 : Wok q.H (fun a => q.W a ∧ ¬ G a) := fun a h => s1.st.wok a h.1
    have at_ : ∀ {a : Addr}, G a → ∃ ys zs, Vl.own ys ∈ vs ∧ q.H a = some (.lst zs) ∧ zs.length = ys.length ∧ a ∉ q.μ := fun {a} hg => by
      rw [hG] at hg
      obtain ⟨⟨i, ys, h1, h2⟩, _⟩ := hg
      obtain ⟨u, hu, ⟨b, zs, hb, z2, z3, z4⟩⟩ := Paired.get1 r1.lr h1
      rw [h2] at hu
      cases hu
      cases hb
      exact ⟨ys, zs, List.mem_of_getElem? h1, z2, z3.length, z4⟩
    have st0 : StR c.M c.X.K q.H (fun a => q.W a ∧ ¬ G a) q.μ m1 := by
      refine ⟨w0, fun a h => ⟨s1.st.μw a h, fun z => ?_⟩, s1.st.nd, Paired.mapP s1.st.cel fun a cl h => ?_⟩
      · obtain ⟨_, _, _, _, _, z⟩ := at_ z
        exact z h
      · exact CelR.keep s1.st.wok (fun _ _ h _ => h) (fun _ _ z => z.1) (fun _ e => e) h
    refine ⟨_, ws, m1, _, q.μ, st0, lend_all s1.st.wok r1.lr (fun i ys a e1 e2 w => by rw [hG]; exact ⟨⟨i, ys, e1, e2⟩, w⟩), ha, ?_⟩
    have back : ∀ {H' : Hp} {W' : Addr → Prop} {μ' : List Addr} {m' : Cels}, noLstC m' = true → StR c.M c.X.K H' W' μ' m' → Ext [] q.H (fun a => q.W a ∧ ¬ G a) q.μ [] H' W' μ' [] → Sr c σ ⟨H', fun a => W' a ∨ G a, μ'⟩ e1 m' ∧ Ex σ p e ⟨H', fun a => W' a ∨ G a, μ'⟩ e1 ∧ ∀ a, G a → ∃ ys zs, Vl.own ys ∈ vs ∧ H' a = some (.lst zs) ∧ zs.length = ys.length := by
      intro H' W' μ' m' nl st xt
      have at' : ∀ a, G a → ∃ ys zs, Vl.own ys ∈ vs ∧ H' a = some (.lst zs) ∧ zs.length = ys.length := fun a h => by
        obtain ⟨ys, zs, z1, z2, z3, z4⟩ := at_ h
        exact ⟨ys, zs, z1, xt.keep a _ z2 z4, z3⟩
      have st' : StR c.M c.X.K H' (fun a => W' a ∨ G a) μ' m' := by
        refine ⟨fun a h => ?_, fun a h => .inl (st.μw a h), st.nd, cels_wide (fun b q hb hw z => z.elim hw fun z => ?_) st.cel nl⟩
        rcases h with h | h
        · exact st.wok a h
        · obtain ⟨ys, zs, _, z, _⟩ := at' a h
          exact ⟨_, z, True.intro⟩
        · obtain ⟨ys, zs, _, z, _⟩ := at' b z
          rw [z] at hb
          unfold LamX.CodeO at hb
          cases hb
      have xt' : Ext [] q.H q.W q.μ [] H' (fun a => W' a ∨ G a) μ' [] := by
        refine ⟨xt.keep, xt.there, fun a h z => ?_, xt.pre, xt.new, fun a h => ?_, fun _ _ h => h⟩
        · rcases z with z | z
          · exact (xt.wk a h z).1
          · rw [hG] at z; exact z.2
        · by_cases hg : G a
          · exact .inl (.inr hg)
          · rcases xt.wd a ⟨h, hg⟩ with z | ⟨i, xs, z, _⟩
            · exact .inl (.inl z)
            · simp at z
      obtain ⟨s3, x3⟩ := s1.called st' xt'
      exact ⟨s3, x1.trans s.μt x3, at'⟩
    cases hf : call f ws m1 with
    | stuck => rw [hf] at hp; exact hp
    | ok v m' =>
      rw [hf] at hp
      intro u H' W' μ' st xt lr fr
      cases v with
      | cell k => exact hp.elim
      | d y =>
        unfold lentRes at hp
        dsimp only at hp
        by_cases hb : (noLstC m' && offL vs y) = true
        · rw [if_pos hb] at hp
          rw [Bool.and_eq_true] at hb
          obtain ⟨s3, x3, at'⟩ := back hb.1 st xt
          refine hp u ⟨H', _, μ'⟩ s3 x3 ⟨Dq.widen (fun a h => ?_) lr, fun _ => ⟨True.intro, True.intro⟩⟩
          obtain ⟨ys, zs, z1, z2, z3⟩ := at' a h
          have := List.all_eq_true.mp hb.2 _ z1
          exact ⟨zs, z2, by rw [z3]; exact this⟩
        · rw [if_neg hb] at hp; exact hp.elim
      | own ys =>
        unfold lentRes at hp
        dsimp only at hp
        by_cases hb : (noLstC m' && noLstAll ys) = true
        · rw [if_pos hb] at hp
          rw [Bool.and_eq_true] at hb
          obtain ⟨s3, x3, at'⟩ := back hb.1 st xt
          obtain ⟨a, zs, rfl, z2, z3, z4⟩ := lr
          obtain ⟨f1, f2⟩ := fr ys a rfl rfl
          have fr' : Frs p.H (V.ref a) (Vl.own ys) := fun b hb => by
            cases hb
            exact (Classical.byContradiction fun z => (x1.there a z) f2)
          exact hp (.ref a) ⟨H', _, μ'⟩ s3 x3 ⟨⟨a, zs, rfl, z2, DqAll.wide hb.2 z3, z4⟩, fun _ => ⟨tmp_of s x3 fr' fun xs b h1 h2 => by cases h2; exact .inl f1, fr'⟩⟩
        · rw [if_neg hb] at hp; exact hp.elim
    | exc k g m' =>
      rw [hf] at hp
      intro cls dx H' W' μ' st xt er
      unfold lentRes at hp
      dsimp only at hp
      by_cases hb : (noLstC m' && noLst g) = true
      · rw [if_pos hb] at hp
        rw [Bool.and_eq_true] at hb
        obtain ⟨s3, x3, at'⟩ := back hb.1 st xt
        refine hp cls dx ⟨H', _, μ'⟩ s3 x3 ?_
        obtain ⟨C', fl, e1, e2, e3⟩ := er
        refine ⟨C', fl, e1, e2, ?_⟩
        cases fl with
        | none => exact True.intro
        | some x =>
          obtain ⟨a, v, z1, z2, z3⟩ := e3
          exact ⟨a, v, z1, z2, Dq.wide hb.2 z3⟩
      · rw [if_neg hb] at hp; exact hp.elim
end
end Pv

/-! PvX3: raise C(e); isinstance(e, C) and e.f of a caught exception; x.count(True). -/
namespace Pv
open PySem PySem.Spec PyProof.Rows L2

section
variable {c : Cn} {sa sb : Sm} {a b : Expr}
/-! ### raise C(e) -/
/-- C(e), C the class of the k-th exception, is made -/
def RaiseX (c : Cn) (k : Nat) (x : Str) : Prop := ∃ C f, c.M.excs[k]? = some (C, some f) ∧ ∀ (e : Expr) (te : TE) (p pos : Pos), PE c.X e te → starEach [e] c.X.env = (false, eval e c.X.env) :: starEach [] c.X.env →
  PMk c.X (.Call (.Name x p) [e] [] pos) (fun σ H Q => te σ H fun v H1 => ∀ dx, H1 dx = none → Q (.ref C) (some dx) (upd H1 dx (.xd [(f, v)])))
theorem snds_raise {k : Nat} {x : Str} {p1 p2 pos : Pos} (hc : c.X.calm = true) (tk : Takes c.X c.T) (R : RaiseX c k x) (ha : Snd c sa a) :
    SndS c (fun e m => (sa.g e m).bind fun v e m => match v with
      | .d y => .exc k y e m
      | _ => .stuck) (.Raise (some (.Call (.Name x p1) [a] [] p2)) none pos) := fun σ p e m D s hp => by
  obtain ⟨C, f, ek, mk⟩ := R
  refine ws_of (ps_raise hc tk (mk a _ p1 p2 pe_we (ha.sy.ns _ _))) ?_
  refine snd_g ha s (PostS.bind s hp fun v e1 m1 hp u q s1 x1 r1 => ?_)
  cases v with
  | own xs => exact hp.elim
  | cell j => exact hp.elim
  | d y =>
    intro dx hdx
    have g := same_new (o := HO.xd [(f, u)]) hdx
    exact hp (.ref C) (some dx) σ ⟨upd q.H dx (.xd [(f, u)]), q.W, q.μ⟩ (s1.grow g) ((x1.lat s).trans ((Ext.grow g : Ex σ q e1 ⟨upd q.H dx (.xd [(f, u)]), q.W, q.μ⟩ e1).lat s1)) ⟨C, some f, ek, rfl, dx, u, rfl, upd_same, Dq.same s1.st.wok g r1.1⟩

/-! ### isinstance(e, C) -/
section
open PySem.W PySem.Calls
variable {prog : Program} {w : World} {A : Around} {E : Value → Shared → Prop} {s : Shared} {K : Frag} {x C : Addr} {ox : Obj} {od : Option Obj}
/-- e.__class__, e an exception with a dict of its own -/
theorem exc_class {Q : Option Value → Shared → Prop} (T : ExcC K C) (inK : K.In s.heap) (at_ : InstAt s.heap x ox C od) (fin : Q (some (.ref C)) { s with toks := s.toks + 1 }) : wpAny (model prog w) A (getAttr? (.ref x) "__class__") Q E s := by
  obtain ⟨hga, hgt, hsub, hdct, ha, hn, htk, hm⟩ := T
  have isCls : (clsIn K C).isSome = true := by
    obtain ⟨cd, h, _⟩ := any_some hdct
    rw [h]
    rfl
  have found : findObj K C od "__class__" = some (.bind (.builtin "getset_descriptor.__get__") (.builtin "object.__class__")) := by
    obtain ⟨cd, h⟩ := Option.isSome_iff_exists.mp isCls
    simp only [findObj, h, ha, Option.bind_some]
    simp [hn, htk]
  obtain ⟨heap0, gens0, drawn0, toks0, os0⟩ := s
  have clsL := at_.type (M := model prog w)
  have gaL := looks_findIn (M := model prog w) inK hga
  have gtL := looks_findIn (M := model prog w) inK hgt
  have fndL := looks_find (M := model prog w) inK at_ found
  have isB : Looks (model prog w) heap0 (isInstance (.ref x) (.type "BaseException")) true := clsL.andThen (looks_subIn inK hsub)
  have own1 : (Value.builtin "BaseException.__getattribute__" == Value.builtin "object.__getattribute__") = false := by decide +kernel
  have own2 : (onTheHeap (Value.ref C) && Value.builtin "BaseException.__getattribute__" == Value.builtin "object.__getattribute__") = false := by rw [own1]; rfl
  have own3 : (false && onTheHeap (Value.builtin "BaseException.__getattribute__")) = false := rfl
  unfold getAttr? getAttrBy? getAttrBy
  refine wpAny_bind (wpAny_mkText ?_)
  refine wpAny_bind (wpAny_attempt (wpAny_holding (wpAny_bind (clsL.at ?_))))
  refine wpAny_bind (gaL.at ?_)
  show wpAny _ _ (if (onTheHeap (Value.ref C) && Value.builtin "BaseException.__getattribute__" == Value.builtin "object.__getattribute__") = true then _ else _) _ _ _
  rw [if_neg (by rw [own2]; exact Bool.false_ne_true)]
  unfold getAttrByItsOwn hookBefore
  refine wpAny_bind ?_
  rw [if_pos (show onTheHeap (Value.ref C) = true from rfl)]
  refine gtL.at (wpAny_bind (wpAny_attempt (wpAny_holding ?_)))
  unfold callGetattribute
  rw [if_neg (by rw [own3]; exact Bool.false_ne_true)]
  unfold boundAndCalled
  rw [PySem.F.excAttr_ValueError.ga.bind (.ref x)]
  refine wpAny_bind (wpAny_pure ?_)
  show wpAny _ _ (call (.builtin "BaseException.__getattribute__") [.ref x, .str "__class__" toks0]) _ _ _
  refine wpAny_call (codeAny_call_builtin PySem.F.excAttr_ValueError.ga.plain PySem.F.entry_bexc_ga ?_)
  refine @check_slot (model prog w) _ _ ⟨heap0, gens0, drawn0, toks0 + 1, os0⟩ "BaseException.__getattribute__" "BaseException" "__getattribute__" (.ref x) [.str "__class__" toks0] [] _ (by decide +kernel) (by decide +kernel) isB (PySem.F.args_bexc_ga (.ref x) (.str "__class__" toks0)) ?_
  unfold Builtin.«object.__getattribute__»
  refine wpAny_bind (wpAny_of_eq (a := ((Value.ref x : Value), [Value.str "__class__" toks0])) (by first | rfl | (simp only [slotArgs]; rfl)) ?_)
  refine wpAny_bind (wpAny_pure (wpAny_bind (clsL.at ?_)))
  refine wpAny_bind (fndL.at ?_)
  show wpAny _ _ (holding [Value.builtin "object.__class__"] (call (.builtin "getset_descriptor.__get__") [.builtin "object.__class__", .ref x, .ref C]) >>= ret) _ _ _
  refine wpAny_bind (wpAny_holding (wpAny_call (class_get (s := ⟨heap0, gens0, drawn0, toks0 + 1, os0⟩) (ox := ox) (od := od) inK at_ hm ?_)))
  refine wpAny_pure ?_
  show wpAny _ _ (handedOut (.ref C)) _ _ _
  rw [handedOut_of (v := .ref C) rfl]
  first
    | exact wpAny_pure (wpAny_pure fin)
    | exact wpAny_pure fin
    | exact wpAny_pure (wpAny_bind (wpAny_pure (wpAny_pure fin)))
theorem exc_kit (T : ExcC K C) : KitX K (.ref x) (.ref C) (fun h => InstAt h x ox C od) where
  ty := fun _ _ _ at_ => at_.type
  it := fun _ _ inK _ => by
    obtain ⟨cd, h, _⟩ := any_some T.hd
    unfold clsIn at h
    split at h
    · rename_i _ _ _ _ z
      intro A' Q' E' s' k q
      unfold isType loadHead
      exact wpAny_bind (wpAny_loadPart (k _ _ (inK _ _ z)) (wpAny_pure q))
    · cases h
  ne := fun h tp dd its n sl inK htp => by
    refine Bool.eq_false_iff.mpr fun q => ?_
    have e : C = tp := Value.ref.inj (beq_iff_eq.mp q)
    subst e
    obtain ⟨cd, z, _⟩ := any_some T.hd
    unfold clsIn at z
    split at z
    · rename_i _ _ _ _ z2
      have z3 := (inK _ _ z2).symm.trans htp
      cases z3
    · cases z
  ca := fun inK at_ fin => exc_class T inK at_ fin
end
/-- isinstance of a caught exception in the heap -/
def rIsX (K : PySem.W.Frag) : List V → Hp → VK → Prop := fun xs H Q => ∃ (a C dx : Addr) (fs : List (Str × V)) (v : V) (cv : Value) (b : Bool), xs = [.ref a, v] ∧ H a = some (excO C dx a) ∧ H dx = some (.xd fs) ∧ ExcC K C ∧ (∀ u, RelV v u → u = cv) ∧ PySem.W.kitOne K (.ref C) cv = some b ∧ Q (.bl b) H
/-- .. the object itself -/
theorem exc_at {X : Cx} {pins : List (Addr × Obj)} {σ : L2.St} {H : Hp} {s : Shared} {a C dx : Addr} {fs : List (Str × V)} (I : Inv X pins σ H s) (h1 : H a = some (excO C dx a)) (h2 : H dx = some (.xd fs)) :
    ∃ (oe od : Obj) (mA : Str → Option Value), PySem.W.InstAt s.heap a oe C (some od) ∧ s.heap.Ns1 dx mA ∧ s.heap.get? dx = some od ∧ ∀ f, RelO (fs.lookup f) (mA f) := by
  obtain ⟨⟨oe, hget, hz, vs, hd⟩, _, _⟩ := I.hok a _ h1
  obtain ⟨mA, hns, hr⟩ : ∃ mA, s.heap.Ns1 dx mA ∧ ∀ f, RelO (fs.lookup f) (mA f) := I.hok dx _ h2
  obtain ⟨od, ho, _⟩ := lookIn_ns hns
  exact ⟨oe, od, mA, ⟨hget, hz.1, by unfold PySem.W.notCls; rw [hd] <;> rfl, by rw [hz.2]; exact ho⟩, hns, ho, hr⟩
theorem call_isX {X : Cx} : CallR X (.builtin "isinstance") (rIsX X.K) := by
  intro pins s σ H xs us Q I r h
  obtain ⟨a, C, dx, fs, v, cv, b, rfl, h1, h2, T, hcv, e, q⟩ := h
  cases r with
  | cons rx rr =>
    cases rr with
    | cons rt rr =>
      cases rr
      cases rx
      have ec := hcv _ rt
      subst ec
      obtain ⟨oe, od, mA, J, _, _, _⟩ := exc_at I h1 h2
      exact PySem.W.kia_one (exc_kit T) I.kIn J e (fun z => nomatch z) fun tk => ⟨.bl b, H, I.kept (t' := tk) fun _ _ z => z, rfl, q⟩
/-- the name x as a class, and what isinstance says of the exceptions -/
def IsaX (c : Cn) (x : Str) (bs : List Bool) : Prop := ∃ (v : V) (cv : Value), (∀ u, RelV v u → u = cv) ∧ (∀ p, PE c.X (.Name x p) (tC v)) ∧ ∀ (k : Nat) (b : Bool), bs[k]? = some b → ∃ C fl, c.M.excs[k]? = some (C, fl) ∧ ExcC c.X.K C ∧ PySem.W.kitOne c.X.K (.ref C) cv = some b
theorem snd_isE {x : Str} {bs : List Bool} {pn pn2 pos : Pos} (hg : Gl c.X "isinstance") (hm : c.X.mg "isinstance" = none) (hx : IsaX c x bs) (ha : Snd c sa a) : Snd c (.mk' (isEV bs sa)) (.Call (.Name "isinstance" pn) [a, .Name x pn2] [] pos) := by
  obtain ⟨v, cv, hv, pv, hb⟩ := hx
  have hst := ha.sy.ns [.Name x pn2] c.X.env
  refine snd_mk (fun σ p e m Q s hp => pe.we (pe_callB call_isX hg hm (by decide +kernel) (pa_cons pe_we (pa_cons (pv pn2) pa_nil rfl) hst) (by decide) (by decide) hst rfl) ?_) rfl rfl
  refine ha.v σ p e m _ s (Post.bind hp fun z e1 m1 hp u q s1 x1 r1 => ?_)
  cases z with
  | d y => exact hp.elim
  | own xs => exact hp.elim
  | cell k =>
    dsimp only at hp
    cases hk : m1[k]? with
    | none => rw [hk] at hp; exact hp.elim
    | some cl =>
      rw [hk] at hp
      cases cl with
      | arr xs => exact hp.elim
      | tbl t => exact hp.elim
      | exn j f =>
        dsimp only at hp
        cases hj : bs[j]? with
        | none => rw [hj] at hp; exact hp.elim
        | some b =>
          rw [hj] at hp
          obtain ⟨a1, e1', rfl⟩ := r1.1
          obtain ⟨a2, e2', C, fl, dx, u2, z1, z2, z3, z4⟩ := Paired.get1 s1.st.cel hk
          rw [e1'] at e2'
          cases e2'
          obtain ⟨C', fl', w1, w2, w3⟩ := hb j b hj
          rw [z1] at w1
          cases w1
          exact ⟨a1, C, dx, _, v, cv, b, rfl, z2, z3, w2, hv, w3, hp (.bl b) q s1 x1 ⟨.bl b, fun _ => ⟨True.intro, True.intro⟩⟩⟩

/-! ### e.f -/
def FldX (c : Cn) (nm : Str) (ok : List Nat) : Prop := ∀ k ∈ ok, ∃ C, c.M.excs[k]? = some (C, some nm) ∧ XfC c.X.K C ∧ PySem.W.findIn c.X.K (.ref C) nm = some none
theorem pe_fldX {X : Cx} {e : Expr} {te : TE} {pos : Pos} {n : Str} (he : PE X e te) (hb : attributeBase e n X.env (eval e X.env) = eval e X.env := by rfl) :
    PE X (.Attribute e n pos) (fun σ H Q => te σ H fun x H1 => ∃ (a C dx : Addr) (fs : List (Str × V)) (v : V), x = .ref a ∧ H1 a = some (excO C dx a) ∧ H1 dx = some (.xd fs) ∧ XfC X.K C ∧ PySem.W.findIn X.K (.ref C) n = some none ∧ fs.lookup n = some v ∧ Q v H1) := by
  refine ⟨fun pins s σ H Q I h => attr_of hb (thn (he.run pins s σ H _ I h) fun u s1 back => ?_)⟩
  obtain ⟨x, H1, I1, rx, a, C, dx, fs, v, rfl, h1, h2, T, hno, l, q⟩ := back
  obtain rfl : u = Value.ref a := rx
  obtain ⟨oe, od, mA, J, hns, ho, hr⟩ := exc_at I1 h1 h2
  obtain ⟨od', ho', hl⟩ := lookIn_ns hns
  rw [ho] at ho'
  cases ho'
  obtain ⟨u, hu, ru⟩ := RelO.some_of (v := v) (o := mA n) (by rw [← l]; exact hr n)
  exact HandSPX.exc_get I1.kIn J T.ga T.gg T.exC (PySem.W.findObj_own T.hdC hno rfl (by rw [hl, hu])) (handed_of ru) ⟨v, H1, I1.tok _, ru, q⟩
theorem snd_fld {nm x : Str} {ok : List Nat} {px pos : Pos} (hx : FldX c nm ok) (ha : Snd c sa (.Name x px)) : Snd c (.mk' (fldV ok sa)) (.Attribute (.Name x px) nm pos) := by
  refine snd_mk (fun σ p e m Q s hp => pe.we (pe_fldX pe_we name_base) ?_) rfl rfl
  refine ha.v σ p e m _ s (Post.bind hp fun z e1 m1 hp u q s1 x1 r1 => ?_)
  cases z with
  | d y => exact hp.elim
  | own xs => exact hp.elim
  | cell k =>
    dsimp only at hp
    cases hk : m1[k]? with
    | none => rw [hk] at hp; exact hp.elim
    | some cl =>
      rw [hk] at hp
      cases cl with
      | arr xs => exact hp.elim
      | tbl t => exact hp.elim
      | exn j f =>
        dsimp only at hp
        by_cases hj : j ∈ ok
        · rw [if_pos hj] at hp
          obtain ⟨a1, e1', rfl⟩ := r1.1
          obtain ⟨a2, e2', C, fl, dx, u2, z1, z2, z3, z4⟩ := Paired.get1 s1.st.cel hk
          rw [e1'] at e2'
          cases e2'
          obtain ⟨C', w1, w2, w3⟩ := hx j hj
          rw [z1] at w1
          cases w1
          refine ⟨a1, C, dx, _, u2, rfl, z2, z3, w2, w3, ?_, hp u2 q s1 x1 ⟨z4, fun _ => ⟨True.intro, True.intro⟩⟩⟩
          simp [List.lookup]
        · rw [if_neg hj] at hp; exact hp.elim

/-! ### x.count(True) -/
def rCntT (K : PySem.W.Frag) : V → List V → Hp → VK → Prop := fun x xs H Q => ∃ (p : Addr) (bs : List Bool), x = .ref p ∧ xs = [.bl true] ∧ SqL K H p (bs.map V.bl) ∧ Q (.int ((bs.filter id).length : Nat)) H
theorem bools_reads {h : Heap} : ∀ {bs : List Bool} {its : List Value}, Vals (bs.map V.bl) its → ∃ as, ReadsAll h its (bs.map PyData.bool) as
  | [], _, r => by cases r; exact ⟨_, ReadsAll.nil⟩
  | b :: bs, _, r => by
    cases r with
    | cons r1 r2 =>
      cases r1
      obtain ⟨as, z⟩ := bools_reads (h := h) r2
      exact ⟨_, ReadsAll.cons (Reads.bool b) z⟩
theorem bools_plain : ∀ bs : List Bool, PyData.plainAll (bs.map PyData.bool) = true ∧ PyData.depthAll (bs.map PyData.bool) = 0
  | [] => ⟨rfl, rfl⟩
  | b :: bs => by
    obtain ⟨h1, h2⟩ := bools_plain bs
    constructor
    · show (PyData.plain (.bool b) && PyData.plainAll (bs.map PyData.bool)) = true
      rw [h1]
      rfl
    · show max (PyData.depth (.bool b)) (PyData.depthAll (bs.map PyData.bool)) = 0
      rw [h2]
      rfl
theorem bools_count : ∀ bs : List Bool, ((bs.map PyData.bool).countP fun y => PyData.eqv y (.bool true)) = (bs.filter id).length
  | [] => rfl
  | b :: bs => by
    rw [List.map_cons, List.countP_cons, bools_count bs]
    cases b <;> simp [PyData.eqv]
theorem mt_cntT {X : Cx} (hu : X.A.units + 64 < cLine) : MtR X "list.count" (rCntT X.K) := by
  intro pins s σ H x xs v us Q I rx rxs h
  obtain ⟨p, bs, rfl, rfl, hs, q⟩ := h
  cases rx
  obtain ⟨u, rfl, ru⟩ := rxs.one
  obtain rfl : u = Value.bool true := ru
  obtain ⟨its, rv, isL, hlen⟩ := I.list hs
  obtain ⟨as, rd⟩ := bools_reads (h := s.heap) rv
  obtain ⟨p1, p2⟩ := bools_plain bs
  have hl : s.heap.IsList p its.toArray := by
    obtain ⟨o, n, ho, hc, hdn, hd⟩ := isL
    exact ⟨o, ho, hc, n, hd⟩
  refine SeqAt.count_list_data hl (xs := bs.map PyData.bool) (by simpa using rd) (Reads.bool true) p1 rfl (by rw [p2]; show X.A.units + 1 + min 0 _ < cLine; omega) ?_
  rw [bools_count]
  exact ⟨.int _, H, I.tok _, ⟨s.toks, rfl⟩, q⟩
theorem snd_cntT {l r : Expr} {o : Operator} {p0 apos cpos bp : Pos} {j : Nat} (hu : c.X.A.units + 64 < cLine) (ha : Snd c sa (.BinOp l o r p0)) (hline : (apos.endLine == cpos.line) = true) : Snd c (.mk' (one1 cntTD sa)) (.Call (.Attribute (.BinOp l o r p0) "count" apos) [.Constant (.bool true) j bp] [] cpos) := by
  refine snd_mk (fun σ p e m Q s hp => ?_) rfl rfl
  refine pe.we (pe_bm PySem.F.plainAttrs_list PySem.F.slot_list_count PySem.F.type_list_count (mt_cntT hu) pe_we (pa_cons pe_bl pa_nil rfl) rfl rfl hline rfl rfl) ?_
  refine one ha s hp fun v e2 m2 x q s2 x2 lx hk => ?_
  cases h1 : dat m2 v with
  | none => simp only [h1] at hk; exact hk.elim
  | some d1 =>
    simp only [h1] at hk
    unfold cntTD at hk
    cases d1 with
    | list xs =>
      dsimp only at hk
      cases hb : boolsOf xs with
      | none => rw [hb] at hk; exact hk.elim
      | some bs =>
        rw [hb] at hk
        obtain ⟨a', vs, rfl, h2, h3⟩ := (lk_of s2 lx h1).list
        obtain ⟨e5, e6⟩ := h3.bools hb
        subst e5
        exact ⟨.inl ⟨rfl, _, .inl h2⟩, a', bs, rfl, rfl, .inl h2, (ret_of s2 (Post.reV x2 hk)).scal (.int _)⟩
    | _ => exact hk.elim
end
end Pv

/-! PvX4: except (A, B, ..) as e: caught = e; the caught exception stands in the heap from then on. -/
namespace Pv
open PySem PySem.Spec PyProof.Rows L2

section
open PySem.W PySem.Calls
variable {M : Model} {K : Frag} {A : Around} {E : Value → Shared → Prop} {s : Shared}
theorem forIn_pass {β : Type} {f : Value → β → Sem (ForInStep β)} {u : β} {Q : β → Shared → Prop} : ∀ {cs : List Value}, (∀ c ∈ cs, ∀ R : ForInStep β → Shared → Prop, R (.yield u) s → wpAny M A (f c u) R E s) → Q u s → wpAny M A (forIn cs u f) Q E s
  | [], _, q => by
    rw [List.forIn_nil]
    exact wpAny_pure q
  | c :: cs, h, q => by
    rw [List.forIn_cons]
    exact wpAny_bind (h c List.mem_cons_self _ (forIn_pass (fun d hd => h d (List.mem_cons_of_mem _ hd)) q))
theorem forIn_find {β : Type} {f : Value → β → Sem (ForInStep β)} {u d : β} {g : Value → Bool} {Q : β → Shared → Prop} : ∀ {cs : List Value}, (∀ c ∈ cs, ∀ R : ForInStep β → Shared → Prop, R (if g c = true then .done d else .yield u) s → wpAny M A (f c u) R E s) →
    Q (if cs.any g = true then d else u) s → wpAny M A (forIn cs u f) Q E s
  | [], _, q => by
    rw [List.forIn_nil]
    exact wpAny_pure q
  | c :: cs, h, q => by
    rw [List.forIn_cons]
    refine wpAny_bind (h c List.mem_cons_self _ ?_)
    cases hg : g c with
    | true =>
      rw [List.any_cons, hg] at q
      rw [if_pos rfl]
      exact wpAny_pure q
    | false =>
      rw [List.any_cons, hg, Bool.false_or] at q
      rw [if_neg Bool.false_ne_true]
      exact forIn_find (fun d hd => h d (List.mem_cons_of_mem _ hd)) q
theorem exm_all {cls : Value} : ∀ {cs : List Value} {b : Bool}, exmAny K cls cs = some b → (∀ c ∈ cs, ∃ v, exmOne K cls c = some v) ∧ b = cs.any fun c => exmOne K cls c == some true
  | [], b, h => by
    cases h
    exact ⟨fun c hc => absurd hc (by simp), rfl⟩
  | c :: cs, b, h => by
    obtain ⟨b1, d1, e1, e2, e3⟩ := exmAny_cons h
    obtain ⟨h1, h2⟩ := exm_all e2
    refine ⟨fun d hd => ?_, ?_⟩
    · rcases List.mem_cons.mp hd with z | z
      · rw [z]
        exact ⟨b1, e1⟩
      · exact h1 d z
    · rw [List.any_cons, e1, e3, ← h2]
      cases b1 <;> cases d1 <;> rfl
/-- an exception of the class cls, a tuple of classes at tp -/
theorem exm_tupN {cs : List Value} {cls : Value} {tp e : Addr} {b : Bool} {h : Heap} (inK : K.In h) (ty : Looks M h (typeOf (.ref e)) cls) (at_ : h.get? tp = some { cls := .type "tuple", data := .seq cs.toArray }) (hx : exmAny K cls cs = some b) : Looks M h (excMatches (.ref e) (.ref tp)) b := by
  intro A Q E s k q
  obtain ⟨hh, g, d, tk, os⟩ := s
  have k : ∀ b o, h.get? b = some o → hh.get? b = some o := k
  obtain ⟨h1, h2⟩ := exm_all hx
  have isT : Looks M hh (isInstance (.ref tp) (.type "tuple")) true := (((Looks.ld at_).andThen .now).andThen (Looks.of_pure isSubtype_tuple_tuple)).keeps k
  have ty := ty.keeps k
  have at' := k _ _ at_
  unfold excMatches
  refine wpAny_bind (isT.at ?_)
  dsimp only
  rw [if_pos rfl]
  have pass : ∀ c ∈ cs, Looks M hh (isExcClass c) true ∧ ∃ v, exmOne K cls c = some v ∧ Looks M hh (isSubtype cls c) v := fun c hc => by
    obtain ⟨v, hv⟩ := h1 c hc
    obtain ⟨z1, z2⟩ := exm_cls (M := M) inK hv
    exact ⟨z1.keeps k, v, hv, z2.keeps k⟩
  have fin : ∀ (l : List Value), l = cs → wpAny M A (do
      for c in l do
        if !(← isExcClass c) then
          rule "try.except-non-exception-class"
          raiseError "TypeError" "catching classes that do not inherit from BaseException is not allowed"
      let te ← typeOf (.ref e)
      for c in l do
        if ← isSubtype te c then return true
      return false) Q E ⟨hh, g, d, tk, os⟩ := by
    intro l hl
    subst hl
    refine wpAny_bind (forIn_pass (fun c hc R r => ?_) ?_)
    · refine wpAny_bind ((pass c hc).1.at ?_)
      rw [if_neg (by decide)]
      exact wpAny_pure r
    · refine wpAny_bind (ty.at (wpAny_bind (forIn_find (d := ⟨some true, ⟨⟩⟩) (g := fun c => exmOne K cls c == some true) (fun c hc R r => ?_) ?_)))
      · obtain ⟨_, v, hv, lk⟩ := pass c hc
        refine wpAny_bind (lk.at ?_)
        rw [hv] at r
        cases v with
        | true => exact wpAny_pure r
        | false => exact wpAny_pure r
      · rw [h2] at q
        cases hz : (l.any fun c => exmOne K cls c == some true) with
        | true =>
          rw [hz] at q
          exact wpAny_pure q
        | false =>
          rw [hz] at q
          exact wpAny_pure q
  first
    | exact wpAny_bind (wpAny_bind (wpAny_seqItems at' rfl (wpAny_pure (fin _ (by simp)))))
    | exact wpAny_bind (wpAny_seqItems at' rfl (fin _ (by simp)))
end

/-! ### the caught exception is tracked -/
section
variable {X : Cx} {pins : List (Addr × Obj)} {σ : L2.St} {H : Hp} {s : Shared}
theorem inv_track {ea : Addr} {φ : Heap → Prop} (J : Inv X pins σ H s) (nH : H ea = none) (new : X.s_0.heap.get? ea = none) (ok : ObjOk X.prog X.w H s.heap ea (.ext φ)) (nL : ea ≠ X.env.locals) (nC : ∀ x b, X.env.cells.lookup x = some b → b ≠ ea) (nP : ∀ p ∈ X.pn ++ pins, p.1 ≠ ea) : Inv X pins σ (upd H ea (.ext φ)) s := by
  have ne : ∀ {b : Addr} {o : HO}, H b = some o → b ≠ ea := fun {b o} h z => by
    rw [z, nH] at h
    cases h
  obtain ⟨j1, j2, j3, j4, j5, j6, j7, j8, j9, j10, j11⟩ := J
  obtain ⟨u1, u2, u3, u4, u5, u6, u7⟩ := j4
  refine ⟨j1, j2, j3, ⟨u1, u2, fun b o e n hx => ?_, u4, fun b xs e => ?_, fun b o u e => ?_, fun b qs e => ?_⟩, j5, j6, ?_, fun x b e => ?_, fun q hq => ?_, fun b o e => ?_, j11⟩
  · rw [upd_ne (fun z => by rw [z, new] at e; cases e)]
    exact u3 b o e n hx
  · have t := u5 b xs e
    rw [upd_ne (ne t)]
    exact t
  · have t := u6 b o u e
    rw [upd_ne (ne t)]
    exact t
  · obtain ⟨more, t⟩ := u7 b qs e
    exact ⟨more, by rw [upd_ne (ne t)]; exact t⟩
  · rw [upd_ne (Ne.symm nL)]
    exact j7
  · rw [upd_ne (nC x b e)]
    exact j8 x b e
  · obtain ⟨t1, t2, t3, t4, t5⟩ := j9 q hq
    exact ⟨t1, by rw [upd_ne (nP q hq)]; exact t2, t3, t4, t5⟩
  · by_cases hb : b = ea
    · rw [hb, upd_same] at e
      cases e
      rw [hb]
      exact ok
    · rw [upd_ne hb] at e
      exact (j10 b o e).stay (fun _ _ _ t => t) (fun d t => by rw [upd_ne (ne t)]; exact t) fun d xs t => by rw [upd_ne (ne t)]; exact t
/-- names of classes, in a row -/
def NamesX (X : Cx) (es : List Expr) (cs : List Value) : Prop := Paired (fun (e : Expr) c => ∃ x p, e = .Name x p ∧ Names X x c) es cs
theorem clsNames_run {es : List Expr} {cs : List Value} (h : NamesX X es cs) {M : Model} {A : Around} {pos : Pos} {Q : List Value → Shared → Prop} {E : Value → Shared → Prop} (ld : ∀ (x : Str) (p : Pos) (c : Value) (R : Value → Shared → Prop), Names X x c → R c s → wpAny M A (eval (.Name x p) X.env) R E s) :
    Q cs s → wpAny M A (spliced (backTo pos (starEach es X.env))) Q E s := by
  unfold NamesX at h
  induction h generalizing Q with
  | nil => exact fun q => wpAny_items_nil q
  | @cons e c es1 cs1 hd tl ih =>
    intro q
    obtain ⟨x, p, rfl, hn⟩ := hd
    exact wpAny_items_cons (ld x p c _ hn (ih q))

/-- what the clause wishes of an exception: slot i is the clause's name, slot j takes the exception -/
def wX (K : PySem.W.Frag) (cs : List Value) (i j : Nat) (D : Ends) : WX := fun cls d σ H => PySem.W.exmAny K cls cs = some true ∧ ∃ C dx, cls = .ref C ∧ d = some dx ∧ ∀ ea, H ea = none → j < σ.length → D.nx (((σ.set i (some (.ref ea))).set j (some (.ref ea))).set i none) (upd H ea (excO C dx ea))
theorem air_keeps {gr : Heap} {l : List PySem.Env} {e : Addr} {Z : Obj → Prop} {h h' : Heap} (air : HandSPX.FlyingZ gr l e Z h) (kp : ∀ b o, h.get? b = some o → h'.get? b = some o) : HandSPX.FlyingZ gr l e Z h' := by
  obtain ⟨f1, f2, f3, oe, vs, T, oT, ts, t1, t2, t3, t4, t5, t6, t7, t8, t9⟩ := air
  exact ⟨fun b o q => kp b o (f1 b o q), f2, f3.of_keeps fun b o q _ => ⟨o, kp b o q, rfl⟩, oe, vs, T, oT, ts, kp _ _ t1, t2, t3, t4, t5, t6, kp _ _ t7, t8, t9⟩
theorem ps_tryX {n y : Str} {i j : Nat} {es : List Expr} {cs : List Value} {body : List Stmt} {kk : Nat} {tp yp np ap hp pos : Pos} {tb : WX → TS} (stk : X.stack = X.env :: X.outer) (hex : X.ex = []) (frm : X.env.frame = some X.env.locals) (nd : X.N.Nodup) (hi : X.N[i]? = some n) (kn : X.env.kindOf n = some .local) (hj : X.N[j]? = some y) (ly : LocF X y) (vn : Vis X.env.scope n)
    (nm : NamesX X es cs) (len : cs.length ≤ 1000) (ndb : (n == ("__debug__" : Str)) = false) (ncd : (n == ("__classdict__" : Str)) = false)
    (hb : ∀ (W : WX) (pn : List (Addr × Obj)) (xe : Value → Shared → Prop), Takes (X.tr pn xe) W → PassesOwn (model X.prog X.w) X.A X.env xe → PSs (X.tr pn xe) body (tb W)) :
    PS X (.Try body [.ExceptHandler (some (.Tuple es kk tp)) (some n) [.Assign [.Name y yp] (.Name n np) ap] hp] [] [] pos) (fun D σ H => tb (wX X.K cs i j D) D σ H) := by
  refine ⟨fun pins s σ H D I h => ?_⟩
  have fine := I.ok
  have frames : X.A.frames = some (X.env :: X.outer) := by rw [fine.frames, stk]
  have locN : Loc X.env.scope n := .inl kn
  refine wpAny_Try_except ?_
  refine wpAny_mono ((hb (wX X.K cs i j D) (X.pn ++ pins) (fun e z1 => wpAny (model X.prog X.w) X.A (noteFrame e X.env) (fun _ z2 => wpAny (model X.prog X.w) X.A (setFlight e none) (fun _ z3 =>
    wpAny (model X.prog X.w) X.A (handleBy e X.env [.ExceptHandler (some (.Tuple es kk tp)) (some n) [.Assign [.Name y yp] (.Name n np) ap] hp]) (SP X pins D) X.xe z3) X.xe z2) X.xe z1) (fun u z air => ?_) PassesOwn.looking).run [] s σ H D (I.toTry _) h) (fun fl z done => ?_) (fun _ _ out => out)
  · obtain ⟨ea, gr, st0, pins0, σ0, H0, cls, d, rfl, T0, stays, up0, sky0, nH, os0, ag0, hexm, C, dx, rfl, rfl, go⟩ := air
    have J0 : Inv X pins σ0 H0 st0 := T0.ofTry fine
    have sky1 : Sky gr (X.env :: X.outer) ea (Zc (.ref C) (some dx)) X.env.locals z.heap := by rw [← stk]; exact sky0
    show wpAny (model X.prog X.w) X.A (noteFrame (.ref ea) X.env) _ _ _
    refine Sky.land Zc.steady frames frm sky1 fun h3 air3 up3 => ?_
    have J3 : Inv X pins σ0 H0 { z with heap := h3 } := J0.landed stays air3.1 (up0.trans up3) os0 ag0
    obtain ⟨ob3, fs3, at3, z3, dat3⟩ := air3.there
    have offFrames : ∀ {hh : Heap} {o : Obj} {vs : Array Value}, hh.FunFrames gr (X.env :: X.outer) → hh.get? ea = some o → o.data = .fields vs → ea ∉ frs (X.env :: X.outer) := fun {hh o vs} ff e dd hm => by
      obtain ⟨_, o2, e2, nf⟩ := ff.mem hm
      rw [e] at e2
      cases e2
      exact nf _ dd
    have off := offFrames air3.2.2.1 at3 dat3
    have nL : ea ≠ X.env.locals := fun q => off (List.mem_filterMap.mpr ⟨X.env, List.mem_cons_self, by rw [frm, q]⟩)
    have nF : ea ∉ X.fs := fun hm => by
      obtain ⟨f, hf, q⟩ := List.mem_filterMap.mp hm
      exact off (List.mem_filterMap.mpr ⟨f, List.mem_cons_of_mem _ hf, q⟩)
    have offS : ea ∉ frs X.stack := by rw [stk]; exact off
    have fresh0 : st0.heap.get? ea = none := by
      cases q : st0.heap.get? ea with
      | none => rfl
      | some o =>
        have q2 := stays ea o q offS
        rw [air3.2.1] at q2
        cases q2
    have new : X.s_0.heap.get? ea = none := by
      cases q : X.s_0.heap.get? ea with
      | none => rfl
      | some o =>
        obtain ⟨o2, q2⟩ := J0.base.there ea o q (by rw [hex]; simp)
        rw [fresh0] at q2
        cases q2
    have nP : ∀ p ∈ X.pn ++ pins, p.1 ≠ ea := fun p hp q => by
      have q2 := (J0.pin p hp).1
      rw [q, fresh0] at q2
      cases q2
    have S3 := J3.suite at3 dat3 nH nL nF
    refine wpAny_handleBy_cons (codeAny_handlers_test ?_) (by intro q; cases q)
    refine wpAny_Tuple (clsNames_run nm (fun x p c R hn r => ?_) ⟨Nat.le_trans len (by decide), ?_⟩)
    · obtain ⟨g1, g2, g3 | ⟨g3, g4, g5⟩⟩ := hn
      · exact ld_glob (X := X.suite ea ((ea, ob3) :: (X.pn ++ pins))) S3 g1 g3 r g2
      · exact ld_blt (X := X.suite ea ((ea, ob3) :: (X.pn ++ pins))) S3 g1 g3 g4 r g5 g2
    have kp : ∀ b o, h3.get? b = some o → (h3.push { cls := .type "tuple", data := .seq cs.toArray }).get? b = some o := fun _ _ q => Heap.get?_push_of_some _ q
    have lookT : PySem.W.Looks (model X.prog X.w) (h3.push { cls := .type "tuple", data := .seq cs.toArray }) (typeOf (.ref ea)) (.ref C) := fun A Q E s k q => wpAny_typeOf_ref (k _ _ (kp _ _ at3)) (by rw [z3.1]; exact q)
    refine (exm_tupN (J3.kIn.keeps kp) lookT (Heap.get?_push_size h3 rfl) hexm).here ?_
    refine codeAny_handlers_suite_as ?_
    refine HandSPX.lands_againZ (air_keeps air3 kp) fun h4 air4 up4 => ?_
    have J4 : Inv X pins σ0 H0 { z with heap := h4 } := J0.landed stays air4.1 (((up0.trans up3).trans (Heap.UpToSlots.of_keeps kp)).trans up4) os0 ag0
    obtain ⟨ob4, fs4, at4, z4, dat4⟩ := air4.there
    have S4 := J4.suite at4 dat4 nH nL nF
    have lenJ : j < σ0.length := by rw [J0.len]; exact (List.getElem?_eq_some_iff.mp hj).1
    refine store_ok (X := X.suite ea ((ea, ob4) :: (X.pn ++ pins))) (v := .ref ea) S4 nd hi locN rfl (fun s5 S5 => ?_) (.inr kn)
    have suite : PSs (X.suite ea ((ea, ob4) :: (X.pn ++ pins))) [.Assign [.Name y yp] (.Name n np) ap] _ := pss_one (ps_set nd hj ly.1 (pe_var (i := i) hi vn ndb ncd) rfl ly.2)
    have lenI : i < σ0.length := by rw [J0.len]; exact (List.getElem?_eq_some_iff.mp hi).1
    refine wpAny_mono (suite.run [] s5 _ H0 { nx := fun σ6 H6 => σ6 = (σ0.set i (some (.ref ea))).set j (some (.ref ea)) ∧ H6 = H0, rt := fun _ _ => False } S5 ⟨.ref ea, List.getElem?_set_self lenI, rfl, rfl⟩) (fun fl s6 back => ?_) (fun _ _ q => False.elim q)
    cases fl with
    | ret u => exact let ⟨_, _, _, _, _, q⟩ := back; q.elim
    | brk => exact let ⟨_, _, _, q⟩ := back; q.elim
    | cont => exact let ⟨_, _, _, q⟩ := back; q.elim
    | next =>
      obtain ⟨σ6, H6, S6, e1, e2⟩ := back
      have hp6 := (S6.pin (ea, ob4) (List.mem_append.mpr (.inl List.mem_cons_self))).1
      have J6 := S6.unsuite fine
      rw [e1, e2] at J6
      have nC : ∀ x b, X.env.cells.lookup x = some b → b ≠ ea := fun x b e q => by
        obtain ⟨v, o, c1, c2⟩ := J6.cell x b e
        rw [q] at c1
        have c3 := hp6.symm.trans c1
        cases c3
        rw [dat4] at c2
        cases c2
      have ok : ObjOk X.prog X.w H0 s6.heap ea (excO C dx ea) := ⟨⟨ob4, hp6, z4, fs4, dat4⟩, ⟨ob4, hp6⟩, fun h1 h2 ⟨oe, t1, t2⟩ st => ⟨oe, st _ t1, t2⟩⟩
      exact gone_ok (inv_track J6 nH new ok nL nC nP) nd hi kn fun s7 J7 => ⟨_, _, J7, go ea nH lenJ⟩
  · cases fl with
    | next => exact let ⟨σ1, H1, J1, q⟩ := done; wpAny_execs_nil ⟨σ1, H1, J1.ofTry fine, q⟩
    | ret u => exact let ⟨v, σ1, H1, J1, r, q⟩ := done; ⟨v, σ1, H1, J1.ofTry fine, r, q⟩
    | brk => exact let ⟨σ1, H1, J1, q⟩ := done; ⟨σ1, H1, J1.ofTry fine, q⟩
    | cont => exact let ⟨σ1, H1, J1, q⟩ := done; ⟨σ1, H1, J1.ofTry fine, q⟩
end
end Pv

/-! PvX5: outcome(lambda: e): a lambda is made and called within a try. -/
namespace Pv
open PySem PySem.Spec PyProof.Rows L2

/-! ### the lambda is made -/
section
variable {X : Cx} {pins : List (Addr × Obj)} {σ : L2.St} {H : Hp} {s : Shared}
theorem lam_new {cA P : Addr} {W : Addr → Prop} {q : Str} {params : Arguments} {body : Expr} {scope : Scope} {pos : Pos} {E Q : Value → Shared → Prop} (J : Inv X pins σ H s) (B : LamX.TabB X.base X.mg cA P) (code : X.env.code = .ref cA) (hq : X.env.qual ++ "<lambda>" = q) (tab : TabW H W P q) (hW : ∀ a, W a → H a ≠ none)
    (nodef : defaultsOf params X.env = ([], [])) (capt : ∀ y ∈ scope.names, y.2 = .free → ∃ b, X.env.cells.lookup y.1 = some b)
    (fin : ∀ (f c' : Addr) (pm ctv : Value) (H1 : Hp) (s' : Shared), Inv X pins σ H1 s' → (∀ b o, b ≠ P → H b = some o → H1 b = some o) → TabW H1 W P q →
      s'.heap.get? f = some (PySem.W.kla_obj "<lambda>" q params body scope (cloFrom X.env.cells scope.names []) pm c' ctv) → H1 f = none → f ∉ frs X.stack → H1 c' = some (LamX.CodeO c' q) → Q (.ref f) s') :
    wpAny (model X.prog X.w) X.A (eval (.Lambda params body scope pos) X.env) Q E s := by
  subst hq
  obtain ⟨ps, atP, tri, among⟩ := tab
  refine PySem.W.kla_eval nodef ?_
  have builtP : s.heap.BuiltinsAt X.mg P := B.bm.keeps J.bk
  have objP : s.heap.get? P = some { cls := .none, data := .fields ps } := J.hok P _ atP
  have offFr : ∀ f, s.heap.objs.size ≤ f → f ∉ frs X.stack := fun f big hm => by
    rcases List.mem_cons.mp (J.stkSub _ hm) with e | e
    · have lt := J.lt
      rw [← e] at lt
      exact absurd (Nat.lt_of_lt_of_le lt big) (Nat.lt_irrefl _)
    · exact J.nofs big e
  cases known : codeAmong pos ps.toList with
  | some cv =>
    obtain ⟨b, eb, hb, _⟩ := among pos cv known
    subst eb
    refine PySem.W.kla_makeFunctionHit (mg := X.mg) (c := cA) (P := P) (ps := ps) (closure_ok capt) J.ok.glob (J.mod.glob.keeps J.bk) code (B.code.keeps J.bk) objP tri known builtP fun ctv h' tk grown big => ?_
    refine fin h'.objs.size b ((X.mg "__name__").getD .none) ctv H _ (J.kept fun d o e => Heap.get?_push_of_some _ (grown d o e)) (fun _ _ _ e => e) ⟨ps, atP, tri, among⟩ (Heap.get?_push_size _ rfl) (J.hok.fresh big) (offFr _ big) hb
  | none =>
    refine PySem.W.kla_makeFunction (mg := X.mg) (c := cA) (P := P) (ps := ps) (closure_ok capt) J.ok.glob (J.mod.glob.keeps J.bk) code (B.code.keeps J.bk) objP tri known B.gP builtP fun b ctv h' tk grown big small rec0 tab0 => ?_
    obtain ⟨b2, oc, vs, t, eb, atB, dat, nm⟩ := rec0
    cases eb
    have freeB : H b = none := J.hok.fresh big
    have sizes : s.heap.objs.size ≤ h'.objs.size := Nat.le_of_lt (Nat.lt_of_le_of_lt big small)
    obtain ⟨H1, eH1⟩ : ∃ H1, H1 = upd (upd H P (.tbl (ps ++ #[rawInt pos.line, rawInt pos.col, .ref b]))) b (LamX.CodeO b (X.env.qual ++ "<lambda>")) := ⟨_, rfl⟩
    have J1 := LamX.inv_table (t' := tk) (q := X.env.qual ++ "<lambda>") (more := #[rawInt pos.line, rawInt pos.col, .ref b]) (h' := h'.push (PySem.W.kla_obj "<lambda>" (X.env.qual ++ "<lambda>") params body scope (cloFrom X.env.cells scope.names []) ((X.mg "__name__").getD .none) b ctv)) J atP
      (fun d o hd e => Heap.get?_push_of_some _ (grown d o hd e)) (Heap.get?_push_of_some _ tab0) big ⟨oc, vs, t, Heap.get?_push_of_some _ atB, dat, nm⟩
    rw [← eH1] at J1
    have kept : ∀ d o, d ≠ P → H d = some o → H1 d = some o := fun d o hd e => by
      rw [eH1, upd_ne (ne_of_none e freeB), upd_ne hd]
      exact e
    have asList : (ps ++ #[rawInt pos.line, rawInt pos.col, .ref b]).toList = ps.toList ++ [rawInt pos.line, rawInt pos.col, .ref b] := by simp
    have fNew : h'.objs.size ≠ b := Nat.ne_of_gt small
    have fP : h'.objs.size ≠ P := Nat.ne_of_gt (Nat.lt_of_lt_of_le (Heap.lt_size objP) sizes)
    refine fin h'.objs.size b ((X.mg "__name__").getD .none) ctv H1 _ J1 kept ⟨ps ++ #[rawInt pos.line, rawInt pos.col, .ref b], ?_, ?_, fun p' cv hcv => ?_⟩ (Heap.get?_push_size _ rfl) ?_ (offFr _ sizes) ?_
    · rw [eH1, upd_ne (ne_of_none atP freeB), upd_same]
    · rw [asList]
      exact PySem.TriplesOk_snoc _ _ _ _ tri
    · rw [asList] at hcv
      rcases LamX.among_app _ tri hcv with z | z
      · obtain ⟨d, e1, e2, e3⟩ := among p' cv z
        refine ⟨d, e1, kept d _ (fun z => ?_) e2, e3⟩
        rw [z, atP] at e2
        unfold LamX.CodeO at e2
        cases e2
      · exact ⟨b, z, by rw [eH1, upd_same], fun w => hW b w freeB⟩
    · rw [eH1, upd_ne fNew, upd_ne fP]
      exact J.hok.fresh sizes
    · rw [eH1, upd_same]
end

/-! ### the state behind it -/
section
variable {M : Mo} {K : PySem.W.Frag} {B : Bs} {σ : L2.St} {H H1 : Hp} {W : Addr → Prop} {μ : List Addr} {e : Slots} {m : Cels}
theorem SR.tabbed {t : Nat} {P : Addr} {q : Str} (s : SR M K B σ H W μ e m) (hP : μ[t]? = some P) (hm : m[t]? = some (.tbl q)) (kept : ∀ b o, b ≠ P → H b = some o → H1 b = some o) (tab : TabW H1 W P q) : SR M K B σ H1 W μ e m ∧ Ext σ H W μ e H1 W μ e := by
  have inμ : P ∈ μ := List.mem_of_getElem? hP
  have wP : W P := s.st.μw P inμ
  obtain ⟨ps, atP, _⟩ := id tab
  have kk : ∀ b o, H b = some o → ¬ W b → H1 b = some o := fun b o h n => kept b o (fun z => n (by rw [z]; exact wP)) h
  have there : ∀ b, H b ≠ none → H1 b ≠ none := fun b h z => by
    by_cases hb : b = P
    · rw [hb, atP] at z
      cases z
    · cases y : H b with
      | none => exact h y
      | some o => rw [kept b o hb y] at z; cases z
  have name : M.tab q = some P := by
    obtain ⟨a, h1, h2⟩ := Paired.get1 s.st.cel hm
    rw [hP] at h1
    cases h1
    exact h2.1
  refine ⟨⟨⟨fun b h => ?_, s.st.μw, s.st.nd, ?_⟩, fun b o h n => ?_, fun b h => there b (s.bt b h), s.bw, s.wb, s.pre, s.new, s.len, fun j v h => ?_, s.own, s.dis⟩, ⟨fun b o h n => kept b o (fun z => n (by rw [z]; exact inμ)) h, there, fun _ _ h => h, ⟨[], by simp⟩, fun _ h => .inl h, fun _ h => .inl h, fun _ _ h => h⟩⟩
  · by_cases hb : b = P
    · rw [hb]
      exact ⟨_, atP, True.intro⟩
    · obtain ⟨o, h1, h2⟩ := s.st.wok b h
      exact ⟨o, kept b o hb h1, h2⟩
  · have off : ∀ {l1 : List Addr} {l2 : List Cel}, P ∉ l1 → Paired (CelR M K H W) l1 l2 → Paired (CelR M K H1 W) l1 l2 := by
      intro l1 l2 hn hp
      induction hp with
      | nil => exact .nil
      | @cons b cl l1 l2 hd tl ih =>
        exact .cons (CelR.keep s.st.wok kk (fun _ _ z => z) (fun o h => kept b o (fun z => hn (by rw [z]; exact List.mem_cons_self)) h) hd) (ih fun z => hn (List.mem_cons_of_mem _ z))
    have go : ∀ {l1 : List Addr} {l2 : List Cel} {k : Nat}, l1.Nodup → l1[k]? = some P → l2[k]? = some (.tbl q) → Paired (CelR M K H W) l1 l2 → Paired (CelR M K H1 W) l1 l2 := by
      intro l1 l2 k nd h1 h2 hp
      induction hp generalizing k with
      | nil => simp at h1
      | @cons b cl l1 l2 hd tl ih =>
        have nd' := List.nodup_cons.mp nd
        cases k with
        | zero =>
          simp at h1 h2
          subst h1 h2
          exact .cons ⟨name, tab⟩ (off nd'.1 tl)
        | succ k =>
          simp at h1 h2
          exact .cons (CelR.keep s.st.wok kk (fun _ _ z => z) (fun o h => kept b o (fun z => nd'.1 (by rw [z]; exact List.mem_of_getElem? h1)) h) hd) (ih nd'.2 h1 h2)
    exact go s.st.nd hP hm s.st.cel
  · refine kept b o (fun z => ?_) (s.keep b o h n)
    subst z
    rcases s.new b inμ with z | z
    · exact n z
    · rw [h] at z
      cases z
  · obtain ⟨u, h1, h2⟩ := s.env j v h
    refine ⟨u, h1, ?_⟩
    cases v with
    | d x => exact Dq.keep s.st.wok kk (fun _ _ z => z) h2
    | own ys =>
      obtain ⟨b, us, h3, h4, h5, h6⟩ := h2
      exact ⟨b, us, h3, kept b _ (fun z => h6 (by rw [z]; exact inμ)) h4, DqAll.keep s.st.wok kk (fun _ _ z => z) h5, h6⟩
    | cell k => exact h2
/-- a caught exception is put into the store -/
theorem SR.caught {C dx ea : Addr} {k : Nat} {f : D} {fl : Str} {u : V} (s : SR M K B σ H W μ e m) (new : H ea = none) (ek : M.excs[k]? = some (C, some fl)) (hd : H dx = some (.xd [(fl, u)])) (du : Dq K H W u f) :
    SR M K B σ (upd H ea (excO C dx ea)) (fun b => W b ∨ b = ea) (μ ++ [ea]) e (m ++ [.exn k f]) := by
  have g : Same H (upd H ea (excO C dx ea)) := same_new new
  have kk : ∀ b o, H b = some o → ¬ W b → upd H ea (excO C dx ea) b = some o := fun b o h _ => g b o h
  have ww : ∀ b, H b ≠ none → (W b ∨ b = ea) → W b := fun b h z => z.elim id fun z => absurd (by rw [z]; exact new) h
  have notμ : ea ∉ μ := fun z => s.st.μt ea z new
  have there : ∀ b, H b ≠ none → upd H ea (excO C dx ea) b ≠ none := fun b h z => by
    cases y : H b with
    | none => exact h y
    | some o => rw [g b o y] at z; cases z
  refine ⟨⟨fun b h => ?_, fun b h => ?_, ?_, Paired.snoc (Paired.mapP s.st.cel fun b cl h => CelR.keep s.st.wok kk ww (fun o h => g b o h) h) ?_⟩, fun b o h n => g b o (s.keep b o h n), fun b h => there b (s.bt b h), fun b h => .inl (s.bw b h), fun b h z => s.wb b h (ww b (s.bt b h) z), ?_, fun b h => ?_, s.len, fun j v h => ?_, fun b h => ?_, s.dis⟩
  · rcases h with h | h
    · obtain ⟨o, h1, h2⟩ := s.st.wok b h
      exact ⟨o, g b o h1, h2⟩
    · rw [h]
      exact ⟨_, upd_same, True.intro⟩
  · rcases List.mem_append.mp h with z | z
    · exact .inl (s.st.μw b z)
    · exact .inr (List.mem_singleton.mp z)
  · refine List.nodup_append.mpr ⟨s.st.nd, by simp, fun b h b' h' z => ?_⟩
    rw [List.mem_singleton] at h'
    rw [z, h'] at h
    exact notμ h
  · exact ⟨C, fl, dx, u, ek, upd_same, g dx _ hd, Dq.keep s.st.wok kk ww du⟩
  · obtain ⟨r, hr⟩ := s.pre
    exact ⟨r ++ [ea], by rw [hr, List.append_assoc]⟩
  · rcases List.mem_append.mp h with z | z
    · exact s.new b z
    · rw [List.mem_singleton.mp z]
      exact .inr (s.base new)
  · obtain ⟨u, h1, h2⟩ := s.env j v h
    refine ⟨u, h1, ?_⟩
    cases v with
    | d x => exact Dq.keep s.st.wok kk ww h2
    | own ys =>
      obtain ⟨b, us, h3, h4, h5, h6⟩ := h2
      refine ⟨b, us, h3, g b _ h4, DqAll.keep s.st.wok kk ww h5, fun z => ?_⟩
      rcases List.mem_append.mp z with z | z
      · exact h6 z
      · rw [List.mem_singleton.mp z, new] at h4
        cases h4
    | cell k =>
      obtain ⟨b, h3, h4⟩ := h2
      exact ⟨b, by rw [List.getElem?_append_left (List.getElem?_eq_some_iff.mp h3).1]; exact h3, h4⟩
  · obtain ⟨h1, h2⟩ := s.own b h
    exact ⟨.inl h1, h2⟩
/-- .. and forgotten -/
theorem SR.cut {H' : Hp} {W' : Addr → Prop} {ea : Addr} {m2 : Cels} (s : SR M K B σ H W μ e m) (t : SR M K B σ H' W' (μ ++ [ea]) e m2) (l : m2.length = m.length + 1) (new : H ea = none) : SR M K B σ H' W' μ e (m2.take m.length) := by
  have lμ : μ.length = m.length := Paired.len s.st.cel
  have cells : Paired (CelR M K H' W') μ (m2.take m.length) := by
    have go : ∀ {l1 l2 : List Addr} {l3 : List Cel}, Paired (CelR M K H' W') (l1 ++ l2) l3 → Paired (CelR M K H' W') l1 (l3.take l1.length) := by
      intro l1
      induction l1 with
      | nil => exact fun _ => .nil
      | cons b l1 ih =>
        intro l2 l3 hp
        cases hp with
        | cons hd tl => exact .cons hd (ih tl)
    have := go t.st.cel
    rw [lμ] at this
    exact this
  refine ⟨⟨t.st.wok, fun b h => t.st.μw b (List.mem_append_left _ h), s.st.nd, cells⟩, t.keep, t.bt, t.bw, t.wb, s.pre, s.new, t.len, fun j v h => ?_, t.own, t.dis⟩
  obtain ⟨u, h1, h2⟩ := t.env j v h
  refine ⟨u, h1, ?_⟩
  cases v with
  | d x => exact h2
  | own ys =>
    obtain ⟨b, us, h3, h4, h5, h6⟩ := h2
    exact ⟨b, us, h3, h4, h5, fun z => h6 (List.mem_append_left _ z)⟩
  | cell k =>
    obtain ⟨u', h3, h4⟩ := s.env j _ h
    obtain ⟨b, h5, h6⟩ := h4
    rw [h1] at h3
    cases h3
    exact ⟨b, h5, h6⟩
end
end Pv

/-! PvX6: outcome(lambda: e) is sound. -/
namespace Pv
open PySem PySem.Spec PyProof.Rows L2

/-- no parameters -/
def noArgs : Arguments := { posonlyargs := [], args := [], vararg := none, kwonlyargs := [], kw_defaults := [], kwarg := none, defaults := [] }
/-- the body of a def that calls its parameter within a try -/
def OutShape (wrk fnd cgt err rsd : Str) (es : List Expr) (sg : Scope) (body : List Stmt) : Prop := ∃ (p1 p2 p3 p4 p5 p6 p7 p8 p9 p10 p11 p12 p13 p14 p15 p16 p17 p18 p19 p20 p21 p22 p23 p24 p25 p26 : Pos) (k1 k2 k3 k4 k5 k6 : Nat), body =
  [.Assign [.Tuple [.Name fnd p1, .Name cgt p2] k1 p3] (.Tuple [.Constant .none k2 p4, .Constant .none k3 p5] k4 p6) p7,
   .Try [.Assign [.Name fnd p8] (.Call (.Name wrk p9) [] [] p10) p11] [.ExceptHandler (some (.Tuple es k5 p12)) (some err) [.Assign [.Name cgt p13] (.Name err p14) p15] p16] [] [] p17,
   .Return (some (.IfExp (.Compare (.Name cgt p18) [.Is] [.Constant .none k6 p19] p20) (.Name fnd p21) (.Call (.Name rsd p22) [.Name cgt p23] [] p24) p25)) p26] ∧
  ∀ env : PySem.Env, env.scope = sg → swappedStores [.Tuple [.Name fnd p1, .Name cgt p2] k1 p3] (.Tuple [.Constant .none k2 p4, .Constant .none k3 p5] k4 p6) env = pure none
def plainName (x : Str) : Prop := (x == ("__debug__" : Str)) = false ∧ (x == ("__classdict__" : Str)) = false
/-- such a def, in the module -/
structure OutD (M : Mo) (P : Program) (w : World) (K : PySem.W.Frag) (mg : Str → Option Value) (base : Heap) (fc : FC) (k : Nat) (x : Str) (ks : List Nat) : Prop where
  ex : ∃ (g gr : Addr) (fd fdr : FuncData) (wrk fnd cgt err rsd r : Str) (sg : Scope) (pg : Arguments) (bg : List Stmt) (es : List Expr) (cs : List Value),
    FunD K x x pg bg sg [] [] g fd ∧ OutShape wrk fnd cgt err rsd es sg bg ∧ FnScope [wrk, fnd, cgt, err] [wrk] sg ∧ mg x = some (.ref g) ∧ Binds K fd [wrk] [] ∧
    (sg.names.lookup wrk = some .local ∧ sg.names.lookup fnd = some .local ∧ sg.names.lookup cgt = some .local ∧ sg.names.lookup err = some .local) ∧ (plainName wrk ∧ plainName fnd ∧ plainName cgt ∧ plainName err) ∧
    (Paired (fun (e : Expr) c => ∃ y p, e = .Name y p ∧ sg.names.lookup y = some .globalImplicit ∧ (y == ("__debug__" : Str)) = false ∧ mg y = some c) es cs ∧ cs.length ≤ 1000) ∧
    (sg.names.lookup rsd = some .globalImplicit ∧ (rsd == ("__debug__" : Str)) = false ∧ mg rsd = some (.ref gr) ∧ PySem.W.keepIn K (.ref gr) = true ∧ Binds K fdr [r] [] ∧ FnG P w K mg base (L2.CX P w) k gr fdr [r] (FnSp M K fc 1)) ∧
    ∀ j ∈ ks, ∃ C fl, M.excs[j]? = some (C, some fl) ∧ PySem.W.exmAny K (.ref C) cs = some true

section
variable {X : Cx} {pins : List (Addr × Obj)} {σ : L2.St} {H : Hp} {s : Shared}
/-- a def of one parameter, by its promise; no exception comes out -/
theorem pe_callG {k : Nat} {fa : Addr} {fd : FuncData} {r x : Str} {sp : Sp} {e : Expr} {te : TE} {p pos : Pos} (F : FnG X.prog X.w X.K X.mg X.base (L2.CX X.prog X.w) k fa fd [r] sp) (room : Room k X.A) (gd : X.A.guards = some []) (hg : Gl X x) (hm : X.mg x = some (.ref fa)) (hdb : (x == ("__debug__" : Str)) = false)
    (kp : PySem.W.keepIn X.K (.ref fa) = true) (bind : Binds X.K fd [r] []) (he : PE X e te) (hst : starEach [e] X.env = (false, eval e X.env) :: starEach [] X.env) : PE X (.Call (.Name x p) [e] [] pos) (fun σ H Q => te σ H fun v H1 => sp [v] H1 Q fun _ _ _ => False) := by
  refine ⟨fun pins s σ H Q I h => ?_⟩
  refine wpAny_Call_Name_kw (ld_glob I hg hm ?_ hdb)
  refine PySem.W.callWith_K (h₀ := X.base) I.ok.mod.kin kp ?_ hst (by rfl)
  rw [hst]
  show wpAny _ _ (spliced ((false, eval e X.env) :: backTo pos (starEach [] X.env))) _ _ s
  refine Calls.spliced_cons (thn (he.run pins s σ H _ I h) fun u s1 ⟨v, H1, I1, r1, q1⟩ => ?_)
  refine Calls.spliced_nil ⟨I1.kIn, ?_⟩
  show wpAny _ _ (call (.ref fa) [u]) _ _ _
  refine wpAny_call (codeAny_mono (F.run X.A X.stack s1 H1 ⟨[u], []⟩ [u] [v] Q _ room gd I1.env0 (bind s1 [u] I1.kIn rfl) (.cons r1 .nil) q1) fun r s' back => ?_)
  cases r with
  | error er => exact let ⟨_, _, _, _, _, _, _, _, _, _, _, _, z⟩ := (show L2.CX X.prog X.w X.stack H1 s1 (fun _ _ _ => False) er s' from back); z.elim
  | ok fl =>
    cases fl with
    | ret u => exact I1.after back
    | next => exact back.elim
    | brk => exact back.elim
    | cont => exact back.elim
/-- the parameter is called: a lambda that stands in the caller's frame -/
theorem pe_lamG {CXg : CXT} {Eg : XK} {Ng : List Str} {qg : Str} {sg : Scope} {g f c' : Addr} {cdg pm ctv : Value} {body : Expr} {scope : Scope} {q : Str} {k i : Nat} {a : Str} {pn : List (Addr × Obj)} {xe : Value → Shared → Prop} {W : WX} {E : XK} {tb : TE} {p1 p2 : Pos}
    (J : Inv X pins σ H s) (L : LamX.LamS X.env.scope scope) (hq : X.env.qual ++ "<lambda>" = q) (at_ : s.heap.get? f = some (PySem.W.kla_obj "<lambda>" q noArgs body scope (cloFrom X.env.cells scope.names []) pm c' ctv)) (off : H f = none) (offFr : f ∉ frs X.stack)
    (tk : Takes ((cxOf CXg X.prog X.w X.K X.mg X.base Ng qg sg g cdg X.A X.stack s H Eg).tr pn xe) W) (hW : ∀ cls d σ' H', E cls d H' → W cls d σ' H') (room : Room (k + 1) (X.A.deeper (envOfC qg sg s.heap.objs.size g cdg)))
    (walk : ∀ (st : Shared) (Hs : Hp), Room k ((X.A.deeper (envOfC qg sg s.heap.objs.size g cdg)).deeper (LamX.lamEnv X scope st.heap.objs.size f c')) → PE (LamX.lamCx X (X.A.deeper (envOfC qg sg s.heap.objs.size g cdg)) (envOfC qg sg s.heap.objs.size g cdg :: X.stack) st Hs E scope f c') body tb)
    (hN : Ng[i]? = some a) (hv : Vis sg a) (hd : (a == ("__debug__" : Str)) = false) (hcd : (a == ("__classdict__" : Str)) = false) :
    PE ((cxOf CXg X.prog X.w X.K X.mg X.base Ng qg sg g cdg X.A X.stack s H Eg).tr pn xe) (.Call (.Name a p1) [] [] p2) (fun τ HZ Q => τ[i]? = some (some (.ref f)) ∧ HZ c' = some (LamX.CodeO c' q) ∧ tb σ HZ Q) := by
  subst hq
  refine ⟨fun pins2 s2 τ HZ Q J2 h => ?_⟩
  obtain ⟨inSlot, codeAt, prom⟩ := h
  refine wpAny_Call_Name_kw (thn ((pe_var (pos := p1) (i := i) hN hv hd hcd).run pins2 s2 τ HZ (fun v H1 => v = .ref f ∧ H1 = HZ) J2 ⟨.ref f, inSlot, rfl, rfl⟩) fun u s3 ⟨v, H3, J3, rel, ev, eH⟩ => ?_)
  subst ev
  subst eH
  obtain rfl : u = Value.ref f := rel
  have at3 : s3.heap.get? f = some (PySem.W.kla_obj "<lambda>" (X.env.qual ++ "<lambda>") noArgs body scope (cloFrom X.env.cells scope.names []) pm c' ctv) := J3.base.keep f _ at_ off offFr (fun z => nomatch (show f ∈ ([] : List Addr) from z))
  have since : Un (frs X.stack) [] H H3 s.heap s3.heap := J3.base
  obtain ⟨⟨oc, vs, t, c1, c2, c3⟩, _, _⟩ := J3.hok c' _ codeAt
  have goesOut : Passes (L2.CX X.prog X.w) ((cxOf CXg X.prog X.w X.K X.mg X.base Ng qg sg g cdg X.A X.stack s H Eg).tr pn xe) E := passes_call tk hW
  refine PySem.W.callWith_F0 ⟨_, _, _, _, at3⟩ (wpAny_call (codeAny_mono (R := CR (L2.CX X.prog X.w) (envOfC qg sg s.heap.objs.size g cdg :: X.stack) X.prog X.w H3 s3 Q E) ?_ fun r s4 back => ?_))
  · refine PySem.W.kla_callFunE room.depth at3 rfl L.co L.gen rfl ⟨c', oc, vs, t, rfl, c1, c2, c3⟩ ?_
    rw [show bindArgs (PySem.W.kla_fn "<lambda>" (X.env.qual ++ "<lambda>") noArgs body scope (cloFrom X.env.cells scope.names []) pm (.ref c') ctv) ⟨[] ++ [], []⟩ = pure [] from rfl]
    refine wpAny_pure (wpAny_newFunctionEnv (fun y hy => (L.own y hy).2) (fun y hy => absurd hy (by simp)) (fun h2 names same => ⟨J3.nolimit.fresh _ same, ?_⟩) L.kind)
    show codeAny _ _ (.expr body (LamX.lamEnv X scope s3.heap.objs.size f c')) _ _
    have kept : ∀ b o, s3.heap.get? b = some o → h2.get? b = some o := fun b o e => same.extBut b o (Nat.ne_of_lt (Heap.lt_size e)) (Heap.get?_push_of_some _ e)
    have J4 : Inv (LamX.lamCx X (X.A.deeper (envOfC qg sg s.heap.objs.size g cdg)) (envOfC qg sg s.heap.objs.size g cdg :: X.stack) s3 H3 E scope f c') [] σ H3 { s3 with heap := h2, toks := s3.toks + ([] : List (Str × Value)).length } := LamX.lam_start2 J L J3.env0 room.hd since names kept
    refine PySem.W.kla_codeExpr (wpAny_mono ((walk s3 H3 (room.deeper _)).run [] _ _ H3 Q J4 prom) (fun v s5 done => ?_) fun _ _ out => out)
    obtain ⟨w5, H5, J5, r5, q5⟩ := done
    exact ⟨w5, H5, J5.os, J5.bare, J5.base, J5.hok, r5, q5⟩
  · cases r with
    | error er => exact goesOut pins2 τ H3 s3 er s4 J3 back
    | ok fl =>
      cases fl with
      | ret u => exact J3.after back
      | next => exact back.elim
      | brk => exact back.elim
      | cont => exact back.elim
end
end Pv

/-! PvX7: outcome(lambda: e): what the evaluator says of it. -/
namespace Pv
open PySem PySem.Spec PyProof.Rows L2
section
variable {c : Cn}
/-- where the lambda's code lies -/
def LamAt (c : Cn) (q : Str) : Prop := c.X.env.qual ++ "<lambda>" = q ∧ ∃ cA P, c.M.tab q = some P ∧ LamX.TabB c.X.base c.X.mg cA P ∧ c.X.env.code = .ref cA
theorem snd_outc {call : Nat → List Vl → Cels → FRes} {k k2 t fr : Nat} {q x : Str} {ks : List Nat} {sa : Sm} {body : Expr} {scope : Scope} {pn lpos pos : Pos} (O : OutD c.M c.X.prog c.X.w c.X.K c.X.mg c.X.base (call fr) k x ks) (hg : Gl c.X x) (hdb : (x == ("__debug__" : Str)) = false)
    (room : Room (k + 1) c.X.A) (room2 : Room (k2 + 2) c.X.A) (gd : c.X.A.guards = some []) (la : LamAt c q) (L : LamX.LamS c.X.env.scope scope)
    (walk : ∀ (g : Addr) (cd : Value) (qg : Str) (sg : Scope) (s0 st : Shared) (Hs : Hp) (E : XK) (f c' : Addr), Room k2 ((c.X.A.deeper (envOfC qg sg s0.heap.objs.size g cd)).deeper (LamX.lamEnv c.X scope st.heap.objs.size f c')) →
      SndV ⟨c.M, LamX.lamCx c.X (c.X.A.deeper (envOfC qg sg s0.heap.objs.size g cd)) (envOfC qg sg s0.heap.objs.size g cd :: c.X.stack) st Hs E scope f c', c.B, fun cls d _ H => E cls d H⟩ sa body) :
    Snd c (.mk' (outcV call t q fr ks sa)) (.Call (.Name x pn) [.Lambda noArgs body scope lpos] [] pos) := by
  refine snd_mk (fun σ p e m Q s hp0 => ?_) rfl rfl
  obtain ⟨g, gr, fd, fdr, wrk, fnd, cgt, err, rsd, r, sg, pg, bg, es, cs, FD, shape, S, hm, bnd, ⟨lw, lf, lc, le⟩, ⟨nw, nf, nc, ne⟩, ⟨names, len⟩, ⟨gr1, gr2, gr3, gr4, gr5, F⟩, hks⟩ := O.ex
  obtain ⟨hq, cA, P, tabP, TB, code⟩ := la
  have hp : Post c σ p e (RV c σ false p) (match m[t]?, sa.var with
    | some (.tbl q'), none => if q' = q then match sa.v e m with
      | .ok v e m => .ok v e m
      | .exc k f e m => if k ∈ ks then match call fr [.cell m.length] (m ++ [.exn k f]) with
        | .ok (.d x) m2 => if m2.length = m.length + 1 then .ok (.d x) e (m2.take m.length) else .stuck
        | _ => .stuck
        else .stuck
      | .stuck => .stuck
      else .stuck
    | _, _ => .stuck) Q := hp0
  clear hp0
  cases hmt : m[t]? with
  | none => rw [hmt] at hp; exact hp.elim
  | some cl =>
  cases cl with
  | arr xs => rw [hmt] at hp; exact hp.elim
  | exn j f => rw [hmt] at hp; exact hp.elim
  | tbl q' =>
  cases hva : sa.var with
  | some i => rw [hmt, hva] at hp; exact hp.elim
  | none =>
  rw [hmt, hva] at hp
  dsimp only at hp
  by_cases hqq : q' = q
  case neg => rw [if_neg hqq] at hp; exact hp.elim
  rw [if_pos hqq] at hp
  subst hqq
  obtain ⟨P', hP, tabP', tabw⟩ := Paired.get1 s.st.cel hmt
  have eP : P' = P := Option.some.inj (tabP'.symm.trans tabP)
  subst eP
  intro pins st I
  have hW : ∀ a, p.W a → p.H a ≠ none := fun a h z => by
    obtain ⟨o, h1, _⟩ := s.st.wok a h
    rw [z] at h1
    cases h1
  obtain ⟨oc, od, dV, kV, doc, pm0, an, cdv, ct, osl, efd, lk, hcd, _, _⟩ := FD.ex
  subst efd
  refine wpAny_Call_Name_kw (ld_glob I hg hm ?_ hdb)
  refine PySem.W.callWith_K (h₀ := c.X.base) I.ok.mod.kin FD.kp ?_ (by rfl) (by rfl)
  show wpAny _ _ (spliced ((false, eval (.Lambda noArgs body scope lpos) c.X.env) :: backTo pos (starEach [] c.X.env))) _ _ st
  refine Calls.spliced_cons (lam_new I TB code hq tabw hW rfl (L.has I.ok) fun f c' pm ctv H1 s' I1 kept tab1 hf hfn hfr hco => ?_)
  refine Calls.spliced_nil ⟨I1.kIn, ?_⟩
  obtain ⟨s1, x1⟩ := s.tabbed hP hmt kept tab1
  have s1 : Sr c σ ⟨H1, p.W, p.μ⟩ e m := s1
  have rc : codeAny (model c.X.prog c.X.w) c.X.A (.call (.ref g) ⟨[.ref f], []⟩) (CR C8.CX0 c.X.stack c.X.prog c.X.w H1 s' Q C8.E0) s' := by
    refine LamX.run_ofS (N := [wrk, fnd, cgt, err]) (ps := [wrk]) (us := [.ref f]) (vs := [.ref f]) lk hcd S room I1.env0 (bnd s' [.ref f] I1.kIn rfl) (.cons rfl .nil) rfl fun room' => ?_
    let Z : Cx := cxOf C8.CX0 c.X.prog c.X.w c.X.K c.X.mg c.X.base [wrk, fnd, cgt, err] x sg g cdv c.X.A c.X.stack s' H1 C8.E0
    obtain ⟨p1, p2, p3, p4, p5, p6, p7, p8, p9, p10, p11, p12, p13, p14, p15, p16, p17, p18, p19, p20, p21, p22, p23, p24, p25, p26, k1, k2', k3, k4, k5, k6, rfl, hsw⟩ := shape
    have vw : Vis sg wrk := .inl lw
    have vf : Vis sg fnd := .inl lf
    have vc : Vis sg cgt := .inl lc
    have ve : Vis sg err := .inl le
    have locF : LocF Z fnd := ⟨.inl lf, .inr lf⟩
    have locC : LocF Z cgt := ⟨.inl lc, .inr lc⟩
    have nd : [wrk, fnd, cgt, err].Nodup := S.nd
    let E : XK := fun cls d H' => PySem.W.exmAny c.X.K cls cs = some true ∧ ∃ C dx, cls = .ref C ∧ d = some dx ∧ ∀ ea, H' ea = none → FnSp c.M c.X.K (call fr) 1 [.ref ea] (upd H' ea (excO C dx ea)) Q fun _ _ _ => False
    let tb : TE := fun σ H Q => ∃ (p : Po) (e : Slots) (m : Cels), H = p.H ∧ SR c.M c.X.K c.B σ p.H p.W p.μ e m ∧ Post { c with T := fun cls d _ H => E cls d H } σ p e (RV c σ false p) (sa.v e m) Q
    have tgs : TgOk Z (.t [.v 1, .v 2]) (.Tuple [.Name fnd p1, .Name cgt p2] k1 p3) := .t (.cons (.v rfl locF) (.cons (.v rfl locC) .nil))
    have h1 : PS Z (.Assign [.Tuple [.Name fnd p1, .Name cgt p2] k1 p3] (.Tuple [.Constant .none k2' p4, .Constant .none k3 p5] k4 p6) p7) _ := ps_asg (pe_tup (pa_cons pe_non (pa_cons pe_non pa_nil rfl) rfl)) (tg_pg rfl nd tgs) rfl (hsw _ rfl) rfl
    have hn : NamesX Z es cs := by
      refine Paired.mapP names fun e c ⟨y, p, z1, z2, z3, z4⟩ => ⟨y, p, z1, z2, z3, .inl z4⟩
    have h2 : PS Z (.Try [.Assign [.Name fnd p8] (.Call (.Name wrk p9) [] [] p10) p11] [.ExceptHandler (some (.Tuple es k5 p12)) (some err) [.Assign [.Name cgt p13] (.Name err p14) p15] p16] [] [] p17) _ :=
      ps_tryX (X := Z) (i := 3) (j := 2) rfl rfl rfl nd rfl le rfl locC ve hn len ne.1 ne.2
        (tb := fun W D τ H => (∀ cls d σ' H', E cls d H' → W cls d σ' H') ∧ τ[0]? = some (some (.ref f)) ∧ H c' = some (LamX.CodeO c' q') ∧ tb σ H fun v H2 => D.nx (τ.set 1 (some v)) H2) fun W pn xe tk _ => by
          refine ⟨fun pinz sz τ Hz D Iz h' => ?_⟩
          obtain ⟨hWE, z1, z2, z3⟩ := h'
          have act := pe_lamG (i := 0) (p1 := p9) (p2 := p10) (E := E) (tb := tb) (Ng := [wrk, fnd, cgt, err]) (k := k2) I1 L hq hf hfn hfr tk hWE (room2.deeper _) (fun st Hs rm => ⟨fun pins s σ H Q I h => by
            obtain ⟨p, e, m, rfl, z1, z2⟩ := h
            exact walk g cdv x sg s' st Hs E f c' rm σ p e m Q z1 (by rw [hva]; exact z2) pins s I⟩) rfl vw nw.1 nw.2
          exact (pss_one (ps_set (X := Z.tr pn xe) (i := 1) nd rfl locF.1 act rfl locF.2)).run pinz sz τ Hz D Iz ⟨z1, z2, z3⟩
    have h3 : PS Z (.Return (some (.IfExp (.Compare (.Name cgt p18) [.Is] [.Constant .none k6 p19] p20) (.Name fnd p21) (.Call (.Name rsd p22) [.Name cgt p23] [] p24) p25)) p26) _ :=
      ps_ret (pe_ifExp (pt_cmpR op_isN (pe_var (i := 2) rfl vc nc.1 nc.2) pe_non rfl) (pe_var (i := 1) rfl vf nf.1 nf.2) (pe_callG (X := Z) F room' gd gr1 gr3 gr2 gr4 gr5 (pe_var (i := 2) rfl vc nc.1 nc.2) rfl))
    refine ⟨_, pss_cons h1 (pss_cons h2 (pss_one h3)), ?_⟩
    have back : ∀ (τ : L2.St) (H2 : Hp) (v : V), τ[2]? = some (some .non) → τ[1]? = some (some v) → Q v H2 → (tIf (tTest (tOp (fun x y H Q => y = V.non ∧ Q (.bl (decide (x = .non))) H) (tVar 2) (tC V.non))) (tVar 1) (fun σ H Q => tVar 2 σ H fun v H1 => FnSp c.M c.X.K (call fr) 1 [v] H1 Q fun _ _ _ => False)) τ H2 Q := fun τ H2 v z1 z2 q => ⟨.non, z1, rfl, true, rfl, by
      dsimp only
      rw [if_pos rfl]
      exact ⟨v, z2, q⟩⟩
    have backE : ∀ (τ : L2.St) (H2 : Hp) (ea : Addr), τ[2]? = some (some (.ref ea)) → FnSp c.M c.X.K (call fr) 1 [.ref ea] H2 Q (fun _ _ _ => False) → (tIf (tTest (tOp (fun x y H Q => y = V.non ∧ Q (.bl (decide (x = .non))) H) (tVar 2) (tC V.non))) (tVar 1) (fun σ H Q => tVar 2 σ H fun v H1 => FnSp c.M c.X.K (call fr) 1 [v] H1 Q fun _ _ _ => False)) τ H2 Q := fun τ H2 ea z1 q => ⟨.ref ea, z1, rfl, false, rfl, by
      dsimp only
      rw [if_neg Bool.false_ne_true]
      exact ⟨.ref ea, z1, q⟩⟩
    refine ⟨by decide, fun tp htp => ?_⟩
    have g2 : Same H1 (upd H1 tp (.tup [V.non, V.non])) := same_new htp
    refine ⟨tp, [.non, .non], rfl, .inl (.inl upd_same), rfl, .non, [.non], rfl, .non, [], rfl, rfl, ?_⟩
    have xx : Ex σ p e ⟨upd H1 tp (.tup [V.non, V.non]), p.W, p.μ⟩ e := x1.trans s.μt (Ext.grow g2)
    refine ⟨fun cls d τ H' ⟨e1, C, dx, e2, e3, go⟩ => ⟨e1, C, dx, e2, e3, fun ea nH lt => backE _ _ ea ?_ (go ea nH)⟩, rfl, g2 _ _ hco, ⟨upd H1 tp (.tup [V.non, V.non]), p.W, p.μ⟩, e, m, rfl, s1.grow g2, ?_⟩
    · rw [List.getElem?_set_ne (by decide), List.getElem?_set_self (by rw [List.length_set]; exact lt)]
    cases hr : sa.v e m with
    | stuck => rw [hr] at hp; exact hp
    | ok v e1 m1 =>
      rw [hr] at hp
      exact fun b q s' x' r' => back _ _ b rfl rfl (hp b q s' (xx.trans s.μt x') ⟨r'.1, fun z => ⟨(r'.2 z).1, xx.frs (r'.2 z).2⟩⟩)
    | exc j f e1 m1 =>
      rw [hr] at hp
      dsimp only at hp
      by_cases hk : j ∈ ks
      case neg => rw [if_neg hk] at hp; exact hp.elim
      rw [if_pos hk] at hp
      intro cls dx q s' x' er
      have s' : Sr c σ q e1 m1 := s'
      obtain ⟨C, fl, ek, rfl, hfl⟩ := er
      obtain ⟨C', fl', ek', hex⟩ := hks j hk
      have ek : c.M.excs[j]? = some (C, fl) := ek
      rw [ek] at ek'
      cases ek'
      obtain ⟨a, u, rfl, ha, du⟩ := hfl
      refine ⟨hex, C, a, rfl, rfl, fun ea nH => ?_⟩
      have s2 := SR.caught s' nH ek ha du
      have g3 : Same q.H (upd q.H ea (excO C a ea)) := same_new nH
      refine ⟨rfl, [.cell m1.length], m1 ++ [.exn j f], _, q.μ ++ [ea], s2.st, .cons ⟨⟨ea, ?_, rfl⟩, rfl⟩ .nil, ?_⟩
      · rw [← Paired.len s'.st.cel]
        simp
      · cases hf : call fr [.cell m1.length] (m1 ++ [.exn j f]) with
        | stuck => rw [hf] at hp; exact hp.elim
        | exc _ _ _ => rw [hf] at hp; exact hp.elim
        | ok v m2 =>
          rw [hf] at hp
          cases v with
          | own xs => exact hp.elim
          | cell l => exact hp.elim
          | d y =>
            dsimp only at hp
            by_cases hl : m2.length = m1.length + 1
            case neg => rw [if_neg hl] at hp; exact hp.elim
            rw [if_pos hl] at hp
            intro u2 H' W' μ' stt xt lr fresh
            obtain ⟨s3, x3⟩ := s2.called stt xt
            have hμ : μ' = q.μ ++ [ea] := by
              obtain ⟨r2, hr2⟩ := xt.pre
              have l1 := Paired.len stt.cel
              have l2 := Paired.len s'.st.cel
              rw [hr2, List.length_append, List.length_append] at l1
              have : r2 = [] := List.eq_nil_of_length_eq_zero (by simp at l1; omega)
              rw [hr2, this, List.append_nil]
            subst hμ
            have there : ∀ b, q.H b ≠ none → upd q.H ea (excO C a ea) b ≠ none := fun b h z => by
              cases y : q.H b with
              | none => exact h y
              | some o => rw [g3 b o y] at z; cases z
            have x4 : Ex σ q e1 ⟨H', W', q.μ⟩ e1 := by
              refine ⟨fun b o h n => xt.keep b o (g3 b o h) fun z => ?_, fun b h => xt.there b (there b h), fun b h z => ?_, ⟨[], by simp⟩, fun _ h => .inl h, fun b h => ?_, fun _ _ h => h⟩
              · rcases List.mem_append.mp z with z | z
                · exact n z
                · rw [List.mem_singleton.mp z, nH] at h
                  cases h
              · rcases xt.wk b (there b h) z with z | z
                · exact z
                · rw [z] at h
                  exact absurd nH h
              · rcases xt.wd b (.inl h) with z | ⟨i, xs, z, _⟩
                · exact .inl z
                · simp at z
            exact hp u2 ⟨H', W', q.μ⟩ (s'.cut s3 hl nH) ((xx.trans s.μt x').trans s.μt x4) ⟨lr, fun _ => ⟨True.intro, True.intro⟩⟩
  refine wpAny_call (codeAny_mono rc fun r s2 hq => ?_)
  cases r with
  | error e => exact (show False from hq).elim
  | ok fl =>
    cases fl with
    | ret u => exact I1.after hq
    | next => exact False.elim hq
    | brk => exact False.elim hq
    | cont => exact False.elim hq
end
end Pv

/-! PvC1: the checker: is this expression of the language that expression of the program? -/
namespace Pv
open PySem PySem.Spec PyProof.Rows L2

/-- a call as it may stand: which def, by which name, how many values, which names, where they go -/
structure CallT where
  f : Nat
  name : Str
  n : Nat
  ks : List Str
  ord : List (Nat ⊕ D)
/-- what is known where one stands -/
structure ExT where
  isa : List (Str × List Bool)
  fld : List (Str × List Nat)
  rs : List Str
  out : List (Str × Nat × List Nat)
structure Sta where
  N : List Str
  sc : Scope
  fn : Str → Bool
  bl : List Str
  tab : List CallT
  gt : List (Str × D)
  ex : ExT
  lam : Option Str
  deep : Nat
def Sta.blk (S : Sta) (scope : Scope) : Sta := { S with sc := relS scope S.sc, fn := fun x => scope.names.lookup x == some .cell, lam := none }
/-- within a lambda -/
def Sta.lamb (S : Sta) (scope : Scope) : Sta := { S with sc := scope, fn := fun _ => false, lam := none, deep := 0 }
/-- a default's data alike -/
def dEq : D → D → Bool
  | .none, .none => true
  | .int i, .int j => i == j
  | .bool i, .bool j => i == j
  | .tuple [], .tuple [] => true
  | _, _ => false
theorem dEq_eq : ∀ {x y : D}, dEq x y = true → x = y
  | x, y, h => by
    unfold dEq at h
    split at h
    · rfl
    · rw [beq_iff_eq.mp h]
    · rw [beq_iff_eq.mp h]
    · rfl
    · cases h
def ordEq : List (Nat ⊕ D) → List (Nat ⊕ D) → Bool
  | [], [] => true
  | .inl i :: r, .inl j :: r' => i == j && ordEq r r'
  | .inr x :: r, .inr y :: r' => dEq x y && ordEq r r'
  | _, _ => false
theorem ordEq_eq : ∀ {a b : List (Nat ⊕ D)}, ordEq a b = true → a = b
  | [], [], _ => rfl
  | [], .inl _ :: _, h => by unfold ordEq at h; cases h
  | [], .inr _ :: _, h => by unfold ordEq at h; cases h
  | .inl i :: r, [], h => by unfold ordEq at h; cases h
  | .inr i :: r, [], h => by unfold ordEq at h; cases h
  | .inl i :: r, .inr _ :: _, h => by unfold ordEq at h; cases h
  | .inr i :: r, .inl _ :: _, h => by unfold ordEq at h; cases h
  | .inl i :: r, .inl j :: r', h => by
    unfold ordEq at h
    rw [Bool.and_eq_true] at h
    rw [beq_iff_eq.mp h.1, ordEq_eq h.2]
  | .inr x :: r, .inr y :: r', h => by
    unfold ordEq at h
    rw [Bool.and_eq_true] at h
    rw [dEq_eq h.1, ordEq_eq h.2]

/-- a def that may be called, wherever one stands -/
def CalleeX (c : Cn) (deep : Nat) (fc : FC) (x : Str) (n : Nat) (ks : List Str) (ord : List (Nat ⊕ D)) : Prop :=
  ∃ (k : Nat) (fa : Addr) (fd : FuncData) (ps : List Str) (o1 : List (Nat ⊕ V)) (o0 : List (Nat ⊕ Value)), FnG c.X.prog c.X.w c.X.K c.X.mg c.X.base (L2.CX c.X.prog c.X.w) k fa fd ps (FnSp c.M c.X.K fc ps.length) ∧ (Room (k + deep) c.X.A ∧ c.X.A.guards = some []) ∧ c.X.mg x = some (.ref fa) ∧
    PySem.W.keepIn c.X.K (.ref fa) = true ∧ KBn c.X.K fd ps n ks (fun us ws => pick (us ++ ws) o0) (fun vs zs => pick (vs ++ zs) o1) ∧ OrdR (KD c.X.K) o1 ord ∧ ord.length = ps.length
/-- what isinstance says of the exceptions, x a class's name -/
def IsaM (M : Mo) (K : PySem.W.Frag) (mg : Str → Option Value) (x : Str) (bs : List Bool) : Prop := ∃ (v : V) (cv : Value), RelV v cv ∧ (∀ u, RelV v u → u = cv) ∧ (mg x = some cv ∨ (mg x = none ∧ bootBuiltins x = some cv ∧ x ≠ "__name__")) ∧
  ∀ (k : Nat) (b : Bool), bs[k]? = some b → ∃ C fl, M.excs[k]? = some (C, fl) ∧ ExcC K C ∧ PySem.W.kitOne K (.ref C) cv = some b
structure Ok (call : Nat → List Vl → Cels → FRes) (G : List D) (c : Cn) (S : Sta) : Prop where
  sc : c.X.env.scope = S.sc
  N : c.X.N = S.N
  nd : S.N.Nodup
  fn : ∀ x, S.fn x = true → c.X.fn x = true
  calm : c.X.calm = true
  un : c.X.A.units + 64 < cLine
  gd : c.X.A.guards = some []
  mg : ∀ x ∈ S.bl, c.X.mg x = none
  cal : ∀ t ∈ S.tab, CalleeX c S.deep (call t.f) t.name t.n t.ks t.ord
  tk : Takes c.X c.T
  gl : ∀ (k : Nat) (x : Str) (d : D), S.gt[k]? = some (x, d) → G[k]? = some d ∧ ∃ u v, c.X.mg x = some u ∧ RelV v u ∧ KD c.X.K v d
  isa : ∀ p ∈ S.ex.isa, IsaM c.M c.X.K c.X.mg p.1 p.2
  fld : ∀ p ∈ S.ex.fld, FldX c p.1 p.2
  lam : ∀ q, S.lam = some q → S.deep = 2 ∧ LamAt c q ∧ Room 2 c.X.A ∧ ∀ p ∈ S.ex.out, ∃ k, OutD c.M c.X.prog c.X.w c.X.K c.X.mg c.X.base (call p.2.1) k p.1 p.2.2 ∧ Room (k + 1) c.X.A
theorem Ok.blk {call : Nat → List Vl → Cels → FRes} {G : List D} {c : Cn} {S : Sta} (o : Ok call G c S) (scope : Scope) : AllB c scope fun c' => Ok call G c' (S.blk scope) := by
  intro s H C cl fp
  refine ⟨?_, o.N, o.nd, fun x h => h, o.calm, o.un, o.gd, o.mg, o.cal, fun u s' x => ?_, o.gl, o.isa, o.fld, (fun q z => nomatch z)⟩
  · show (compEnvC scope cl C c.X.env).scope = relS scope S.sc
    rw [← o.sc]
    rfl
  · obtain ⟨a, B, sI, pins, σ, H', cls, d, e, I, nb, up, sky, na, os, ag, w⟩ := x
    exact w.elim

/-- .. within a lambda that is handed to an outcome -/
theorem Ok.lamb {call : Nat → List Vl → Cels → FRes} {G : List D} {c : Cn} {S : Sta} (o : Ok call G c S) {q : Str} (hl : S.lam = some q) (scope : Scope) (g : Addr) (cd : Value) (qg : Str) (sg : Scope) (s0 st : Shared) (Hs : Hp) (E : XK) (f c' : Addr) :
    Ok call G ⟨c.M, LamX.lamCx c.X (c.X.A.deeper (envOfC qg sg s0.heap.objs.size g cd)) (envOfC qg sg s0.heap.objs.size g cd :: c.X.stack) st Hs E scope f c', c.B, fun cls d _ H => E cls d H⟩ (S.lamb scope) := by
  obtain ⟨hd, _, room, _⟩ := o.lam q hl
  refine ⟨rfl, o.N, o.nd, (fun x h => nomatch h), rfl, ((room.deeper _).deeper _ : Room 0 _).units, o.gd, o.mg, fun t ht => ?_, takes_of rfl rfl rfl rfl, o.gl, o.isa, o.fld, (fun q z => nomatch z)⟩
  obtain ⟨k, fa, fd, ps, o1, o0, F, ⟨hr, hg⟩, h⟩ := o.cal t ht
  rw [hd] at hr
  exact ⟨k, fa, fd, ps, o1, o0, F, ⟨(hr.deeper _).deeper _, hg⟩, h⟩

/-! ### names -/
def glB (sc : Scope) (x : Str) : Bool := decide (sc.names.lookup x = some .globalImplicit)
def visB (sc : Scope) (x : Str) : Bool := decide (sc.names.lookup x = some .local) || decide (sc.names.lookup x = some .cell) || decide (sc.names.lookup x = some .free)
def locB (S : Sta) (x : Str) : Bool := (decide (S.sc.names.lookup x = some .local) || decide (S.sc.names.lookup x = some .cell)) && (S.fn x || decide (S.sc.names.lookup x = some .local))
def biB (S : Sta) (x : Str) : Bool := glB S.sc x && S.bl.elem x
section
variable {call : Nat → List Vl → Cels → FRes} {G : List D} {c : Cn} {S : Sta} (o : Ok call G c S)
include o
theorem Ok.gl_of {x : Str} (h : glB S.sc x = true) : Gl c.X x := by
  show c.X.env.scope.names.lookup x = some .globalImplicit
  rw [o.sc]
  exact of_decide_eq_true h
theorem Ok.vis_of {x : Str} (h : visB S.sc x = true) : Vis c.X.env.scope x := by
  rw [o.sc]
  unfold visB at h
  simp only [Bool.or_eq_true, decide_eq_true_eq] at h
  rcases h with (h | h) | h
  · exact .inl h
  · exact .inr (.inl h)
  · exact .inr (.inr h)
theorem Ok.loc_of {x : Str} (h : locB S x = true) : LocF c.X x := by
  unfold locB at h
  simp only [Bool.and_eq_true, Bool.or_eq_true, decide_eq_true_eq] at h
  refine ⟨?_, ?_⟩
  · show Loc c.X.env.scope x
    rw [o.sc]
    exact h.1
  · rw [o.sc]
    exact h.2.imp (o.fn x) id
theorem Ok.bi_of {x : Str} (h : biB S x = true) : Gl c.X x ∧ c.X.mg x = none := by
  unfold biB at h
  rw [Bool.and_eq_true] at h
  exact ⟨o.gl_of h.1, o.mg x (List.elem_iff.mp h.2)⟩
theorem Ok.ndX : c.X.N.Nodup := o.N ▸ o.nd
theorem Ok.callee {f : Nat} {x : Str} {n : Nat} {ks : List Str} {ord : List (Nat ⊕ D)} (h : glB S.sc x = true) (hd : (x == ("__debug__" : Str)) = false) (t : CallT) (ht : t ∈ S.tab) (e1 : t.f = f) (e2 : t.name = x) (e3 : t.n = n) (e4 : t.ks = ks) (e5 : t.ord = ord) : Callee c (call f) x n ks ord := by
  subst e1 e2 e3 e4 e5
  obtain ⟨k, fa, fd, ps, o1, o0, F, ⟨hr, hg⟩, hx⟩ := o.cal t ht
  exact ⟨⟨k, fa, fd, ps, o1, o0, F, ⟨hr.mono (Nat.le_add_right k S.deep), hg⟩, hx⟩, o.gl_of h, hd, o.tk⟩
theorem Ok.isa_of {x : Str} {bs : List Bool} (h : glB S.sc x = true) (hd : (x == ("__debug__" : Str)) = false) (hm : (x, bs) ∈ S.ex.isa) : IsaX c x bs := by
  obtain ⟨v, cv, r, un, at_, hk⟩ := o.isa _ hm
  refine ⟨v, cv, un, fun p => ⟨fun pins s σ H Q I q => ?_⟩, hk⟩
  rcases at_ with e | ⟨e, e2, e3⟩
  · exact ld_glob I (o.gl_of h) e ⟨v, H, I, r, q⟩ hd
  · exact ld_blt I (o.gl_of h) e e2 ⟨v, H, I, r, q⟩ e3 hd
end

/-! ### targets -/
mutual
def tgB (S : Sta) : Tg → Expr → Bool
  | .v i, .Name x _ => decide (S.N[i]? = some x) && locB S x
  | .t ts, .Tuple es _ _ => tgsB S ts es
  | _, _ => false
termination_by structural t => t
def tgsB (S : Sta) : List Tg → List Expr → Bool
  | [], [] => true
  | t :: ts, e :: es => tgB S t e && tgsB S ts es
  | _, _ => false
termination_by structural t => t
end
section
variable {call : Nat → List Vl → Cels → FRes} {G : List D} {c : Cn} {S : Sta}
mutual
theorem tgB_ok (o : Ok call G c S) : ∀ {t : Tg} {e : Expr}, tgB S t e = true → TgOk c.X t e
  | .v i, e, h => by
    cases e <;> first
      | (unfold tgB at h; exact absurd h Bool.false_ne_true)
      | skip
    rename_i x pos
    unfold tgB at h
    rw [Bool.and_eq_true] at h
    exact .v (by rw [o.N]; exact of_decide_eq_true h.1) (o.loc_of h.2)
  | .t ts, e, h => by
    cases e <;> first
      | (unfold tgB at h; exact absurd h Bool.false_ne_true)
      | skip
    rename_i es k pos
    unfold tgB at h
    exact .t (tgsB_ok o h)
theorem tgsB_ok (o : Ok call G c S) : ∀ {ts : List Tg} {es : List Expr}, tgsB S ts es = true → TgOks c.X ts es
  | [], [], _ => .nil
  | [], _ :: _, h => by unfold tgsB at h; cases h
  | _ :: _, [], h => by unfold tgsB at h; cases h
  | t :: ts, e :: es, h => by
    unfold tgsB at h
    rw [Bool.and_eq_true] at h
    exact .cons (tgB_ok o h.1) (tgsB_ok o h.2)
end
end

/-! ### expressions -/
def tyNm : TyK → Str → Bool
  | .int, x => x == ("int" : Str)
  | .bool, x => x == ("bool" : Str)
  | .str, x => x == ("str" : Str)
  | .list, x => x == ("list" : Str)
  | .tuple, x => x == ("tuple" : Str)
  | .listtuple, _ => false
def kwVals : List Keyword → List Expr
  | [] => []
  | ⟨_, v, _⟩ :: r => v :: kwVals r
def nameOf : Expr → Option Str
  | .Name x _ => some x
  | _ => none
/-- the comprehension's own names with their places -/
def ownN (S : Sta) (own : List Nat) : List (Str × Nat) := own.map fun i => (S.N[i]?.getD "", i)
theorem ownN_snd (S : Sta) : ∀ (own : List Nat), (ownN S own).map (·.2) = own
  | [] => rfl
  | i :: r => by
    show i :: (ownN S r).map (·.2) = _
    rw [ownN_snd S r]
def noArgB : Arguments → Bool
  | ⟨[], [], none, [], [], none, []⟩ => true
  | _ => false
theorem noArg_eq : ∀ {a : Arguments}, noArgB a = true → a = noArgs
  | a, h => by
    unfold noArgB at h
    split at h
    · rfl
    · cases h
def isOm : X → Bool
  | .omit => true
  | _ => false
/-- a slice's end -/
def optB (om : Bool) (f : Expr → Bool) : Option Expr → Bool
  | none => om
  | some e => f e
/-- a clause's tests -/
def ifsB (om : Bool) (f : Expr → Bool) : List Expr → Bool
  | [] => om
  | [e] => f e && !isIf e
  | _ => false
/-- what is walked -/
def itB (S : Sta) (k : IK) (f : List Expr → Bool) (et ei : Expr) : Bool := match k with
  | .seq => f [ei] && synOk ei
  | .revs => (match ei with
    | .Call (.Name x _) [a] [] _ => x == ("reversed" : Str) && biB S "reversed" && f [a]
    | _ => false)
  | .rng1 => (match ei with
    | .Call (.Name x _) [a] [] _ => x == ("range" : Str) && biB S "range" && f [a]
    | _ => false)
  | .rng2 => (match ei with
    | .Call (.Name x _) [a, b] [] _ => x == ("range" : Str) && biB S "range" && f [a, b]
    | _ => false)
  | .rng3 => (match ei with
    | .Call (.Name x _) [a, b, d] [] _ => x == ("range" : Str) && biB S "range" && f [a, b, d]
    | _ => false)
  | .enum => (match et, ei with
    | .Tuple .., .Call (.Name x _) [a] [] _ => x == ("enumerate" : Str) && biB S "enumerate" && f [a]
    | _, _ => false)
  | .zip => (match et, ei with
    | .Tuple .., .Call (.Name x _) [a, b] [] _ => x == ("zip" : Str) && biB S "zip" && f [a, b]
    | _, _ => false)
mutual
def chkX (S : Sta) : X → Expr → Bool
  | .var i, e => match e with
    | .Name x _ => decide (S.N[i]? = some x) && visB S.sc x && !(x == ("__debug__" : Str)) && !(x == ("__classdict__" : Str))
    | _ => false
  | .non, e => match e with
    | .Constant .none _ _ => true
    | _ => false
  | .bl b, e => match e with
    | .Constant (.bool b') _ _ => b == b'
    | _ => false
  | .int i, e => match e with
    | .Constant (.int j) _ _ => i == j
    | _ => false
  | .str x, e => match e with
    | .Constant (.str y) _ _ => x == y
    | _ => false
  | .glob k, e => match e with
    | .Name x _ => (match S.gt[k]? with
      | some (y, _) => y == x
      | none => false) && glB S.sc x && !(x == ("__debug__" : Str))
    | _ => false
  | .op o a b, e => match e with
    | .BinOp ea eo eb _ => decide (opA o = eo) && chkX S a ea && chkX S b eb
    | _ => false
  | .cmp o a b, e => match e with
    | .Compare ea [eo] [eb] _ => decide (cmA o = eo) && chkX S a ea && chkX S b eb
    | _ => false
  | .chain o p a b d, e => match e with
    | .Compare ea [eo, ep] [eb, ed] _ => decide (cmA o = eo) && decide (cmA p = ep) && chkX S a ea && chkX S b eb && chkX S d ed
    | _ => false
  | .neg a, e => match e with
    | .UnaryOp .USub ea _ => chkX S a ea
    | _ => false
  | .not a, e => match e with
    | .UnaryOp .Not ea _ => chkX S a ea && !isIf ea
    | _ => false
  | .and a b, e => match e with
    | .BoolOp .And (ea :: es) p => chkX S a ea && !isIf ea && (match es with
      | [] => false
      | [eb] => chkX S b eb && !isIf eb
      | e1 :: e2 :: r => chkX S b (.BoolOp .And (e1 :: e2 :: r) p))
    | _ => false
  | .or a b, e => match e with
    | .BoolOp .Or (ea :: es) p => chkX S a ea && !isIf ea && (match es with
      | [] => false
      | [eb] => chkX S b eb && !isIf eb
      | e1 :: e2 :: r => chkX S b (.BoolOp .Or (e1 :: e2 :: r) p))
    | _ => false
  | .ite t a b, e => match e with
    | .IfExp et ea eb _ => chkX S t et && chkX S a ea && chkX S b eb && !isIf et
    | _ => false
  | .tup es, e => match e with
    | .Tuple ees _ _ => chkXs S es ees
    | _ => false
  | .lst es, e => match e with
    | .List ees _ => chkXs S es ees
    | _ => false
  | .ix a i, e => match e with
    | .Subscript ea ei _ => chkX S a ea && chkX S i ei
    | _ => false
  | .sl a lo hi, e => match e with
    | .Subscript ea (.Slice el eh none _) _ => chkX S a ea && optB (isOm lo) (chkX S lo) el && optB (isOm hi) (chkX S hi) eh
    | _ => false
  | .isi k a, e => match e with
    | .Call (.Name x _) [ea, et] [] _ => x == ("isinstance" : Str) && biB S "isinstance" && chkX S a ea && (match k, et with
      | .listtuple, .Tuple [.Name y _, .Name z _] _ _ => y == ("list" : Str) && z == ("tuple" : Str) && biB S "list" && biB S "tuple"
      | k, .Name y _ => tyNm k y && biB S y
      | _, _ => false)
    | _ => false
  | .b1 b a, e => match e with
    | .Call (.Name x _) [ea] [] _ => x == b1N b && biB S x && chkX S a ea
    | _ => false
  | .b2 b a d, e => match e with
    | .Call (.Name x _) [ea, ed] [] _ => x == b2N b && biB S x && chkX S a ea && chkX S d ed
    | _ => false
  | .comp tg own k as cond elt, e => match e with
    | .ListComp ee [⟨et, ei, ifs, aw⟩] scope _ => aw == 0 && blkC S.N S.sc scope (ownN S own) && tgB (S.blk scope) tg et && (tgSlots tg).all (fun i => own.elem i) && itB S k (chkXs S as) et ei && ifsB (isOm cond) (chkX (S.blk scope) cond) ifs && chkX (S.blk scope) elt ee
    | _ => false
  | .call f es ord, e => match e with
    | .Call (.Name x _) args kws _ => glB S.sc x && !(x == ("__debug__" : Str)) && chkXs S es (args ++ kwVals kws) && S.tab.any fun t => t.f == f && t.name == x && t.n == args.length && kwOk kws t.ks && ordEq t.ord ord
    | _ => false
  | .callP f es ord, e => match e with
    | .Call (.Name x _) args kws _ => glB S.sc x && !(x == ("__debug__" : Str)) && chkXs S es (args ++ kwVals kws) && S.tab.any fun t => t.f == f && t.name == x && t.n == args.length && kwOk kws t.ks && ordEq t.ord ord
    | _ => false
  | .callL f es ord, e => match e with
    | .Call (.Name x _) args kws _ => glB S.sc x && !(x == ("__debug__" : Str)) && chkXs S es (args ++ kwVals kws) && S.tab.any fun t => t.f == f && t.name == x && t.n == args.length && kwOk kws t.ks && ordEq t.ord ord
    | _ => false
  | .cel a, e => tstOk e && synOk e && chkX S a e
  | .omit, _ => false
  | .inr ng a rs, e => match e with
    | .Compare ea [eo] [.Call (.Name x _) args [] _] _ => decide (eo = if ng then .NotIn else .In) && x == ("range" : Str) && biB S "range" && chkX S a ea && chkXs S rs args && (decide (args.length = 1) || decide (args.length = 2))
    | _ => false
  | .rev a, e => match e with
    | .Subscript ea (.Slice none none (some (.UnaryOp .USub (.Constant (.int 1) _ _) _)) _) _ => chkX S a ea
    | _ => false
  | .mat tup k as, e => match e with
    | .Call (.Name x _) [.Call (.Name y _) args [] _] [] _ => x == (if tup then ("tuple" : Str) else "list") && biB S x && biB S y && chkXs S as args && (match k with
      | .rng1 => y == ("range" : Str) && decide (args.length = 1)
      | .rng2 => y == ("range" : Str) && decide (args.length = 2)
      | .enum => !tup && (y == ("enumerate" : Str) && decide (args.length = 1))
      | _ => false)
    | _ => false
  | .cidx a b, e => match e with
    | .Call (.Attribute (.Name x px) y apos) [eb] [] cpos => y == ("index" : Str) && apos.endLine == cpos.line && chkX S a (.Name x px) && chkX S b eb
    | _ => false
  | .comp2 tg own k as tg1 own1 k1 as1 cond elt, e => match e with
    | .ListComp ee [⟨et, ei, [], aw⟩, ⟨et1, ei1, ifs1, aw1⟩] scope _ => aw == 0 && aw1 == 0 && blkC S.N S.sc scope (ownN S own) && tgB (S.blk scope) tg et && tgB (S.blk scope) tg1 et1 && (tgSlots tg).all (fun i => own.elem i) && (tgSlots tg1).all (fun i => own1.elem i) && own1.all (fun i => own.elem i)
      && itB S k (chkXs S as) et ei && itB (S.blk scope) k1 (chkXs (S.blk scope) as1) et1 ei1 && ifsB (isOm cond) (chkX (S.blk scope) cond) ifs1 && chkX (S.blk scope) elt ee
    | _ => false
  | .csum .., _ => false
  | .isE bs a, e => match e with
    | .Call (.Name x _) [ea, .Name y _] [] _ => x == ("isinstance" : Str) && biB S "isinstance" && glB S.sc y && !(y == ("__debug__" : Str)) && chkX S a ea && S.ex.isa.any fun p => p.1 == y && p.2 == bs
    | _ => false
  | .fld nm ok a, e => match e with
    | .Attribute (.Name x px) n _ => n == nm && chkX S a (.Name x px) && S.ex.fld.any fun p => p.1 == nm && p.2 == ok
    | _ => false
  | .cntT a, e => match e with
    | .Call (.Attribute (.BinOp l o r p0) n apos) [.Constant (.bool true) _ _] [] cpos => n == ("count" : Str) && apos.endLine == cpos.line && chkX S a (.BinOp l o r p0)
    | _ => false
  | .outc _ q fr ks a, e => match e with
    | .Call (.Name x _) [.Lambda params body scope _] [] _ => glB S.sc x && !(x == ("__debug__" : Str)) && decide (S.lam = some q) && noArgB params && LamX.lamSB S.sc scope && chkX (S.lamb scope) a body && S.ex.out.any fun p => p.1 == x && p.2.1 == fr && p.2.2 == ks
    | _ => false
  | .rep a, e => match e with
    | .Call (.Name x _) [ea] [] _ => x == ("repr" : Str) && biB S "repr" && chkX S a ea
    | _ => false
  | .sset a, e => match e with
    | .Call (.Name x _) [.Call (.Name y _) [ea] [] _] [] _ => x == ("sorted" : Str) && biB S "sorted" && y == ("set" : Str) && biB S "set" && chkX S a ea
    | _ => false
  | .trv a, e => match e with
    | .Call (.Name x _) [.Call (.Name y _) [ea] [] _] [] _ => x == ("tuple" : Str) && biB S "tuple" && y == ("reversed" : Str) && biB S "reversed" && chkX S a ea
    | _ => false
termination_by structural x => x
def chkXs (S : Sta) : List X → List Expr → Bool
  | [], es => match es with
    | [] => true
    | _ => false
  | x :: xs, es => match es with
    | e :: es => chkX S x e && chkXs S xs es
    | [] => false
termination_by structural x => x
end
end Pv

/-! PvC2: the checker of expressions is right. -/
namespace Pv
open PySem PySem.Spec PyProof.Rows L2
section
variable {call : Nat → List Vl → Cels → FRes} {G : List D}
theorem pair_split {α β : Type} {R : α → β → Prop} : ∀ {l : List α} {a b : List β}, Paired R l (a ++ b) → ∃ l1 l2, l = l1 ++ l2 ∧ Paired R l1 a ∧ Paired R l2 b
  | l, [], b, h => ⟨[], l, rfl, .nil, h⟩
  | _, x :: a, b, h => by
    cases h with
    | cons h t =>
      obtain ⟨l1, l2, rfl, h1, h2⟩ := pair_split t
      exact ⟨_ :: l1, l2, rfl, .cons h h1, h2⟩
theorem pair_kw {c : Cn} : ∀ {l : List Sm} {kws : List Keyword}, Paired (Snd c) l (kwVals kws) → Paired (fun sm (k : Keyword) => Snd c sm k.value) l kws
  | _, [], h => by cases h; exact .nil
  | _, ⟨n, v, p⟩ :: kws, h => by
    cases h with
    | cons h t => exact .cons h (pair_kw t)
theorem itB_ok {c : Cn} {S : Sta} (o : Ok call G c S) {k : IK} {ss : List Sm} {f : List Expr → Bool} {et ei : Expr} (hf : ∀ es, f es = true → Paired (Snd c) ss es) (h : itB S k f et ei = true) : SndI c k ss et ei ∧ ∀ x, foldedSetIterable ei c.X.env x = pure x := by
  cases k with
  | seq =>
    have h : (f [ei] && synOk ei) = true := h
    rw [Bool.and_eq_true] at h
    have hp := hf _ h.1
    cases hp with
    | cons h1 t => cases t; exact ⟨sndi_seq h1, fun x => (syn_of h.2).fs _ x⟩
  | revs =>
    unfold itB at h
    split at h
    all_goals (try (rename_i hk; cases hk; done))
    all_goals (try (cases h; done))
    all_goals (split at h <;> try (cases h; done))
    simp only [Bool.and_eq_true, beq_iff_eq] at h
    obtain ⟨⟨rfl, hb⟩, ha⟩ := h
    obtain ⟨g1, g2⟩ := o.bi_of hb
    have hp := hf _ ha
    cases hp with
    | cons h1 t => cases t; exact ⟨sndi_revs g1 g2 h1, fun x => rfl⟩
  | rng1 =>
    unfold itB at h
    split at h
    all_goals (try (rename_i hk; cases hk; done))
    all_goals (try (cases h; done))
    all_goals (split at h <;> try (cases h; done))
    simp only [Bool.and_eq_true, beq_iff_eq] at h
    obtain ⟨⟨rfl, hb⟩, ha⟩ := h
    obtain ⟨g1, g2⟩ := o.bi_of hb
    have hp := hf _ ha
    cases hp with
    | cons h1 t => cases t; exact ⟨sndi_rng1 g1 g2 h1, fun x => rfl⟩
  | rng2 =>
    unfold itB at h
    split at h
    all_goals (try (rename_i hk; cases hk; done))
    all_goals (try (cases h; done))
    all_goals (split at h <;> try (cases h; done))
    simp only [Bool.and_eq_true, beq_iff_eq] at h
    obtain ⟨⟨rfl, hb⟩, ha⟩ := h
    obtain ⟨g1, g2⟩ := o.bi_of hb
    have hp := hf _ ha
    cases hp with
    | cons h1 t =>
      cases t with
      | cons h2 t => cases t; exact ⟨sndi_rng2 g1 g2 h1 h2, fun x => rfl⟩
  | rng3 =>
    unfold itB at h
    split at h
    all_goals (try (rename_i hk; cases hk; done))
    all_goals (try (cases h; done))
    all_goals (split at h <;> try (cases h; done))
    simp only [Bool.and_eq_true, beq_iff_eq] at h
    obtain ⟨⟨rfl, hb⟩, ha⟩ := h
    obtain ⟨g1, g2⟩ := o.bi_of hb
    have hp := hf _ ha
    cases hp with
    | cons h1 t =>
      cases t with
      | cons h2 t =>
        cases t with
        | cons h3 t => cases t; exact ⟨sndi_rng3 g1 g2 h1 h2 h3, fun x => rfl⟩
  | enum =>
    unfold itB at h
    split at h
    all_goals (try (rename_i hk; cases hk; done))
    all_goals (try (cases h; done))
    all_goals (split at h <;> try (cases h; done))
    simp only [Bool.and_eq_true, beq_iff_eq] at h
    obtain ⟨⟨rfl, hb⟩, ha⟩ := h
    obtain ⟨g1, g2⟩ := o.bi_of hb
    have hp := hf _ ha
    cases hp with
    | cons h1 t => cases t; exact ⟨sndi_enum g1 g2 h1, fun x => rfl⟩
  | zip =>
    unfold itB at h
    split at h
    all_goals (try (rename_i hk; cases hk; done))
    all_goals (try (cases h; done))
    all_goals (split at h <;> try (cases h; done))
    simp only [Bool.and_eq_true, beq_iff_eq] at h
    obtain ⟨⟨rfl, hb⟩, ha⟩ := h
    obtain ⟨g1, g2⟩ := o.bi_of hb
    have hp := hf _ ha
    cases hp with
    | cons h1 t =>
      cases t with
      | cons h2 t => cases t; exact ⟨sndi_zip g1 g2 h1 h2, fun x => rfl⟩
theorem itB_fs {S : Sta} {k : IK} {f : List Expr → Bool} {et ei : Expr} (h : itB S k f et ei = true) : ∀ env x, foldedSetIterable ei env x = pure x := by
  cases k with
  | seq =>
    have h : (f [ei] && synOk ei) = true := h
    rw [Bool.and_eq_true] at h
    exact fun env x => (syn_of h.2).fs env x
  | _ =>
    unfold itB at h
    split at h
    all_goals (try (rename_i hk; cases hk; done))
    all_goals (try (cases h; done))
    all_goals (split at h <;> try (cases h; done))
    all_goals exact fun _ _ => rfl
theorem snd_andN {c : Cn} {sa sb : Sm} {a b b2 : Expr} {r : List Expr} {pos : Pos} (ha : Snd c sa a) (hb : Snd c sb (.BoolOp .And (b :: b2 :: r) pos)) (ia : isIf a = false) : Snd c ⟨andV sa sb, andT sa sb, none, false⟩ (.BoolOp .And (a :: b :: b2 :: r) pos) := by
  have hw : ∀ {t : TT}, PT c.X (.BoolOp .And (b :: b2 :: r) pos) t → PW c.X (.BoolOp .And (b :: b2 :: r) pos) t := fun h => ⟨fun wh pins s σ H Q I q => h.run pins s σ H Q I q⟩
  refine ⟨fun σ p e m Q s hp => pe.we (pe_and pe_we pe_we) ?_, fun _ σ p e m Q s hp => pt.wt (PW.pt (pw_and pt_wt (hw pt_wt))) ?_, syn_of rfl, (fun i z => nomatch z), rfl⟩
  · refine ha.v σ p e m _ s (Post.bind hp fun v e1 m1 hp x q1 s1 x1 r1 => ?_)
    have hp := Post.reV x1 (hp.shift s x1 fun _ _ _ _ _ r => r)
    split at hp
    · cases r1.1
      exact ⟨true, rfl, iteT (then_bool hb s1 hp)⟩
    · cases r1.1
      exact ⟨false, rfl, iteF (hp _ q1 s1 Ext.refl ⟨.bl _, fun _ => ⟨True.intro, True.intro⟩⟩)⟩
    · exact hp.elim
  · refine ha.t ia σ p e m _ s (Post.bind hp fun k e1 m1 hk b' q s1 x1 r => ?_)
    subst r
    have hk := Post.shiftB s x1 hk
    cases b' with
    | true => exact iteT (hb.t rfl σ q e1 m1 _ s1 hk)
    | false => exact iteF (hk _ q s1 Ext.refl rfl)
theorem snd_orN {c : Cn} {sa sb : Sm} {a b b2 : Expr} {r : List Expr} {pos : Pos} (ha : Snd c sa a) (hb : Snd c sb (.BoolOp .Or (b :: b2 :: r) pos)) (ia : isIf a = false) : Snd c ⟨orV sa sb, orT sa sb, none, false⟩ (.BoolOp .Or (a :: b :: b2 :: r) pos) := by
  have hw : ∀ {t : TT}, PT c.X (.BoolOp .Or (b :: b2 :: r) pos) t → PW c.X (.BoolOp .Or (b :: b2 :: r) pos) t := fun h => ⟨fun wh pins s σ H Q I q => h.run pins s σ H Q I q⟩
  refine ⟨fun σ p e m Q s hp => pe.we (pe_or pe_we pe_we) ?_, fun _ σ p e m Q s hp => pt.wt (PW.pt (pw_or pt_wt (hw pt_wt))) ?_, syn_of rfl, (fun i z => nomatch z), rfl⟩
  · refine ha.v σ p e m _ s (Post.bind hp fun v e1 m1 hp x q1 s1 x1 r1 => ?_)
    have hp := Post.reV x1 (hp.shift s x1 fun _ _ _ _ _ r => r)
    split at hp
    · cases r1.1
      exact ⟨true, rfl, iteT (hp _ q1 s1 Ext.refl ⟨.bl _, fun _ => ⟨True.intro, True.intro⟩⟩)⟩
    · cases r1.1
      exact ⟨false, rfl, iteF (then_bool hb s1 hp)⟩
    · exact hp.elim
  · refine ha.t ia σ p e m _ s (Post.bind hp fun k e1 m1 hk b' q s1 x1 r => ?_)
    subst r
    have hk := Post.shiftB s x1 hk
    cases b' with
    | false => exact iteF (hb.t rfl σ q e1 m1 _ s1 hk)
    | true => exact iteT (hk _ q s1 Ext.refl rfl)
theorem om_sem : ∀ {x : X}, isOm x = true → (sem G call x).om = true
  | .omit, _ => rfl
theorem optB_ok {c : Cn} {x : X} {f : Expr → Bool} {oe : Option Expr} (hf : ∀ e, f e = true → Snd c (sem G call x) e) (h : optB (isOm x) f oe = true) : SndO c (sem G call x) oe := by
  cases oe with
  | none => exact .inl ⟨rfl, om_sem h⟩
  | some e => exact .inr ⟨e, rfl, hf e h⟩
theorem any_ex {α : Type} {l : List α} {f : α → Bool} (h : l.any f = true) : ∃ a ∈ l, f a = true := by simpa using h
theorem not_f {b : Bool} (h : (!b) = true) : b = false := by cases b <;> first | rfl | cases h
mutual
theorem chkX_ok : ∀ (x : X) {c : Cn} {S : Sta} {ex : Expr}, Ok call G c S → chkX S x ex = true → Snd c (sem G call x) ex
  | .omit, c, S, ex, o, h => by unfold chkX at h; cases h
  | .inr ng a rs, c, S, ex, o, h => by
    unfold chkX at h
    split at h
    · rename_i ea eo x pn args p2 pos
      simp only [Bool.and_eq_true, decide_eq_true_eq, beq_iff_eq, Bool.or_eq_true] at h
      obtain ⟨⟨⟨⟨⟨rfl, rfl⟩, hb⟩, ha⟩, hs⟩, hl⟩ := h
      obtain ⟨g1, g2⟩ := o.bi_of hb
      have hp := chkXs_ok rs o hs
      have ha' := chkX_ok a o ha
      show Snd c (.mk' (inrV ng (sem G call a) (sems G call rs))) _
      generalize sems G call rs = ss at hp
      cases hp with
      | nil => rcases hl with hl | hl <;> cases hl
      | cons h1 t =>
        cases t with
        | nil => exact snd_inr1 ng g1 g2 ha' h1
        | cons h2 t =>
          cases t with
          | nil => exact snd_inr2 ng g1 g2 ha' h1 h2
          | cons h3 t => rcases hl with hl | hl <;> simp at hl
    · cases h
  | .rev a, c, S, ex, o, h => by
    unfold chkX at h
    split at h
    · exact snd_revL (chkX_ok a o h)
    · cases h
  | .rep a, c, S, ex, o, h => by
    unfold chkX at h
    split at h
    · simp only [Bool.and_eq_true, beq_iff_eq] at h
      obtain ⟨⟨rfl, hb⟩, ha⟩ := h
      obtain ⟨g1, g2⟩ := o.bi_of hb
      exact snd_rep o.gd o.un g1 g2 (chkX_ok a o ha)
    · cases h
  | .sset a, c, S, ex, o, h => by
    unfold chkX at h
    split at h
    · simp only [Bool.and_eq_true, beq_iff_eq] at h
      obtain ⟨⟨⟨⟨rfl, hb⟩, rfl⟩, hb2⟩, ha⟩ := h
      obtain ⟨g1, g2⟩ := o.bi_of hb
      obtain ⟨g3, g4⟩ := o.bi_of hb2
      exact snd_sset o.calm g1 g2 g3 g4 (chkX_ok a o ha)
    · cases h
  | .trv a, c, S, ex, o, h => by
    unfold chkX at h
    split at h
    · simp only [Bool.and_eq_true, beq_iff_eq] at h
      obtain ⟨⟨⟨⟨rfl, hb⟩, rfl⟩, hb2⟩, ha⟩ := h
      obtain ⟨g1, g2⟩ := o.bi_of hb
      obtain ⟨g3, g4⟩ := o.bi_of hb2
      exact snd_trv o.calm g1 g2 g3 g4 (chkX_ok a o ha)
    · cases h
  | .cidx a b, c, S, ex, o, h => by
    unfold chkX at h
    split at h
    · simp only [Bool.and_eq_true, beq_iff_eq] at h
      obtain ⟨⟨⟨rfl, hl⟩, ha⟩, hb⟩ := h
      exact snd_cidx (chkX_ok a o ha) (chkX_ok b o hb) (beq_iff_eq.mpr hl)
    · cases h
  | .comp2 tg own k as tg1 own1 k1 as1 cond elt, c, S, ex, o, h => by
    unfold chkX at h
    split at h
    · rename_i ee et ei aw et1 ei1 ifs aw1 scope pos
      simp only [Bool.and_eq_true, beq_iff_eq] at h
      obtain ⟨⟨⟨⟨⟨⟨⟨⟨⟨⟨⟨rfl, rfl⟩, hk⟩, ht⟩, ht1⟩, hS⟩, hS1⟩, hv1⟩, hi⟩, hi1⟩, hc⟩, he⟩ := h
      obtain ⟨i1, i2⟩ := itB_ok o (fun es hes => chkXs_ok as o hes) hi
      have ob := o.blk scope
      have hcond : CondOk c scope (sem G call cond) ifs := by
        cases ifs with
        | nil => exact .inl ⟨rfl, om_sem hc⟩
        | cons e1 r =>
          cases r with
          | nil =>
            have hc : (chkX (S.blk scope) cond e1 && !isIf e1) = true := hc
            rw [Bool.and_eq_true] at hc
            refine .inr ⟨e1, rfl, not_f hc.2, ?_, fun s H C cl fp => chkX_ok cond (ob s H C cl fp) hc.1⟩
            cases cond <;> first | rfl | (have := hc.1; unfold chkX at this; cases this)
          | cons _ _ => cases hc
      have r := snd_comp2 (own := ownN S own) (tg := tg) (tg1 := tg1) (own1 := own1) (pos := pos) o.calm o.ndX i1 (fun s H C cl fp => (itB_ok (ob s H C cl fp) (fun es hes => chkXs_ok as1 (ob s H C cl fp) hes) hi1).1) i2 (itB_fs hi1) (by rw [o.N, o.sc]; exact blkOk_by hk) (fun s H C cl fp => tgB_ok (ob s H C cl fp) ht) (fun s H C cl fp => tgB_ok (ob s H C cl fp) ht1)
        (fun i hi => by rw [ownN_snd]; exact List.elem_iff.mp (List.all_eq_true.mp hS i hi)) (fun i hi => List.elem_iff.mp (List.all_eq_true.mp hS1 i hi)) (fun i hi => by rw [ownN_snd]; exact List.elem_iff.mp (List.all_eq_true.mp hv1 i hi)) hcond (fun s H C cl fp => chkX_ok elt (ob s H C cl fp) he)
      rw [ownN_snd] at r
      exact r
    · cases h
  | .csum _, c, S, ex, o, h => by unfold chkX at h; cases h
  | .mat tup k as, c, S, ex, o, h => by
    unfold chkX at h
    split at h
    · rename_i x pn y pp args p2 pos
      simp only [Bool.and_eq_true, beq_iff_eq] at h
      obtain ⟨⟨⟨⟨h1, hb⟩, hb2⟩, hs⟩, hk⟩ := h
      obtain ⟨g1, g2⟩ := o.bi_of hb
      obtain ⟨g3, g4⟩ := o.bi_of hb2
      have hp := chkXs_ok as o hs
      show Snd c (.mk' (matV tup k (sems G call as))) _
      generalize sems G call as = ss at hp
      split at hk
      · simp only [Bool.and_eq_true, beq_iff_eq, decide_eq_true_eq] at hk
        obtain ⟨rfl, hl⟩ := hk
        cases hp with
        | nil => cases hl
        | cons h2 t =>
          cases t with
          | nil => exact snd_mat1 o.calm tup (by rw [h1]; cases tup <;> rfl) g1 g2 g3 g4 h2
          | cons h3 t => simp at hl
      · simp only [Bool.and_eq_true, beq_iff_eq, decide_eq_true_eq] at hk
        obtain ⟨rfl, hl⟩ := hk
        cases hp with
        | nil => cases hl
        | cons h2 t =>
          cases t with
          | nil => simp at hl
          | cons h3 t =>
            cases t with
            | nil => exact snd_mat2 o.calm tup (by rw [h1]; cases tup <;> rfl) g1 g2 g3 g4 h2 h3
            | cons h4 t => simp at hl
      · simp only [Bool.and_eq_true, beq_iff_eq, decide_eq_true_eq, Bool.not_eq_true'] at hk
        obtain ⟨rfl, rfl, hl⟩ := hk
        cases hp with
        | nil => cases hl
        | cons h2 t =>
          cases t with
          | nil =>
            have h1 : x = ("list" : Str) := h1
            subst h1
            exact snd_matE o.calm g1 g2 g3 g4 h2
          | cons h3 t => simp at hl
      · cases hk
    · cases h
  | .var i, c, S, ex, o, h => by
    unfold chkX at h
    split at h
    · simp only [Bool.and_eq_true, decide_eq_true_eq] at h
      obtain ⟨⟨⟨h1, h2⟩, h3⟩, h4⟩ := h
      exact snd_var (by rw [o.N]; exact h1) (o.vis_of h2) (not_f h3) (not_f h4)
    · cases h
  | .non, c, S, ex, o, h => by
    unfold chkX at h
    split at h
    · exact snd_const pe_non (fun _ _ => .non) rfl rfl
    · cases h
  | .bl b, c, S, ex, o, h => by
    unfold chkX at h
    split at h
    · have e := beq_iff_eq.mp h
      subst e
      exact snd_const pe_bl (fun _ _ => .bl _) rfl rfl
    · cases h
  | .int i, c, S, ex, o, h => by
    unfold chkX at h
    split at h
    · have e := beq_iff_eq.mp h
      subst e
      exact snd_const pe_int (fun _ _ => .int _) rfl rfl
    · cases h
  | .str x, c, S, ex, o, h => by
    unfold chkX at h
    split at h
    · have e := beq_iff_eq.mp h
      subst e
      exact snd_const pe_str (fun _ _ => .str _) rfl rfl
    · cases h
  | .glob k, c, S, ex, o, h => by
    unfold chkX at h
    split at h
    · rename_i x pos
      simp only [Bool.and_eq_true] at h
      obtain ⟨⟨h1, h2⟩, h3⟩ := h
      split at h1
      · rename_i y d hk
        have e := beq_iff_eq.mp h1
        subst e
        obtain ⟨g1, u, v, g2, g3, g4⟩ := o.gl k y d hk
        have e2 : sem G call (.glob k) = .mk' fun e m => .ok (.d d) e m := by
          show Sm.mk' (fun e m => Res.of ((G[k]?).map Vl.d) e m) = _
          rw [g1]; rfl
        rw [e2]
        exact snd_const (pe_glob (o.gl_of h2) g2 g3 (not_f h3)) g4 rfl rfl
      · cases h1
    · cases h
  | .op op a b, c, S, ex, o, h => by
    unfold chkX at h
    split at h
    · simp only [Bool.and_eq_true, decide_eq_true_eq] at h
      obtain ⟨⟨rfl, ha⟩, hb⟩ := h
      exact snd_op op (chkX_ok a o ha) (chkX_ok b o hb)
    · cases h
  | .cmp op a b, c, S, ex, o, h => by
    unfold chkX at h
    split at h
    · simp only [Bool.and_eq_true, decide_eq_true_eq] at h
      obtain ⟨⟨rfl, ha⟩, hb⟩ := h
      exact snd_cmp o.un op (chkX_ok a o ha) (chkX_ok b o hb)
    · cases h
  | .chain p q a b d, c, S, ex, o, h => by
    unfold chkX at h
    split at h
    · simp only [Bool.and_eq_true, decide_eq_true_eq] at h
      obtain ⟨⟨⟨⟨rfl, rfl⟩, ha⟩, hb⟩, hd⟩ := h
      exact snd_chain o.un p q (chkX_ok a o ha) (chkX_ok b o hb) (chkX_ok d o hd)
    · cases h
  | .neg a, c, S, ex, o, h => by
    unfold chkX at h
    split at h
    · exact snd_neg (chkX_ok a o h)
    · cases h
  | .not a, c, S, ex, o, h => by
    unfold chkX at h
    split at h
    · simp only [Bool.and_eq_true] at h
      exact snd_not (chkX_ok a o h.1) (not_f h.2)
    · cases h
  | .and a b, c, S, ex, o, h => by
    unfold chkX at h
    split at h
    · simp only [Bool.and_eq_true] at h
      obtain ⟨⟨ha, h1⟩, h⟩ := h
      split at h
      · cases h
      · simp only [Bool.and_eq_true] at h
        exact snd_and (chkX_ok a o ha) (chkX_ok b o h.1) (not_f h1) (not_f h.2)
      · exact snd_andN (chkX_ok a o ha) (chkX_ok b o h) (not_f h1)
    · cases h
  | .or a b, c, S, ex, o, h => by
    unfold chkX at h
    split at h
    · simp only [Bool.and_eq_true] at h
      obtain ⟨⟨ha, h1⟩, h⟩ := h
      split at h
      · cases h
      · simp only [Bool.and_eq_true] at h
        exact snd_or (chkX_ok a o ha) (chkX_ok b o h.1) (not_f h1) (not_f h.2)
      · exact snd_orN (chkX_ok a o ha) (chkX_ok b o h) (not_f h1)
    · cases h
  | .ite t a b, c, S, ex, o, h => by
    unfold chkX at h
    split at h
    · simp only [Bool.and_eq_true] at h
      obtain ⟨⟨⟨ht, ha⟩, hb⟩, h1⟩ := h
      exact snd_ite (chkX_ok t o ht) (chkX_ok a o ha) (chkX_ok b o hb) (not_f h1)
    · cases h
  | .tup es, c, S, ex, o, h => by
    unfold chkX at h
    split at h
    · exact snd_tup (chkXs_ok es o h)
    · cases h
  | .lst es, c, S, ex, o, h => by
    unfold chkX at h
    split at h
    · exact snd_lst (chkXs_ok es o h)
    · cases h
  | .ix a i, c, S, ex, o, h => by
    unfold chkX at h
    split at h
    · simp only [Bool.and_eq_true] at h
      exact snd_ix (chkX_ok a o h.1) (chkX_ok i o h.2)
    · cases h
  | .sl a lo hi, c, S, ex, o, h => by
    unfold chkX at h
    split at h
    · simp only [Bool.and_eq_true] at h
      obtain ⟨⟨ha, hl⟩, hh⟩ := h
      exact snd_sl (chkX_ok a o ha) (optB_ok (fun e he => chkX_ok lo o he) hl) (optB_ok (fun e he => chkX_ok hi o he) hh)
    · cases h
  | .isi k a, c, S, ex, o, h => by
    unfold chkX at h
    split at h
    · rename_i x p1 ea et p2
      simp only [Bool.and_eq_true, beq_iff_eq] at h
      obtain ⟨⟨⟨rfl, hb⟩, ha⟩, ht⟩ := h
      obtain ⟨g1, g2⟩ := o.bi_of hb
      split at ht
      · simp only [Bool.and_eq_true, beq_iff_eq] at ht
        obtain ⟨⟨⟨rfl, rfl⟩, b1⟩, b2⟩ := ht
        obtain ⟨g3, g4⟩ := o.bi_of b1
        obtain ⟨g5, g6⟩ := o.bi_of b2
        exact snd_isi2 g1 g2 g3 g4 g5 g6 (chkX_ok a o ha)
      · rename_i y pp hne
        simp only [Bool.and_eq_true] at ht
        obtain ⟨b1, b2⟩ := ht
        obtain ⟨g3, g4⟩ := o.bi_of b2
        cases k with
        | int => exact snd_isi (n := "int") rfl (beq_iff_eq.mp b1) g1 g2 g3 g4 (chkX_ok a o ha)
        | bool => exact snd_isi (n := "bool") rfl (beq_iff_eq.mp b1) g1 g2 g3 g4 (chkX_ok a o ha)
        | str => exact snd_isi (n := "str") rfl (beq_iff_eq.mp b1) g1 g2 g3 g4 (chkX_ok a o ha)
        | list => exact snd_isi (n := "list") rfl (beq_iff_eq.mp b1) g1 g2 g3 g4 (chkX_ok a o ha)
        | tuple => exact snd_isi (n := "tuple") rfl (beq_iff_eq.mp b1) g1 g2 g3 g4 (chkX_ok a o ha)
        | listtuple => cases b1
      · cases ht
    · cases h
  | .b1 b a, c, S, ex, o, h => by
    unfold chkX at h
    split at h
    · simp only [Bool.and_eq_true, beq_iff_eq] at h
      obtain ⟨⟨h1, hb⟩, ha⟩ := h
      obtain ⟨g1, g2⟩ := o.bi_of hb
      exact snd_b1 o.calm b h1 g1 g2 (chkX_ok a o ha)
    · cases h
  | .b2 b a d, c, S, ex, o, h => by
    unfold chkX at h
    split at h
    · simp only [Bool.and_eq_true, beq_iff_eq] at h
      obtain ⟨⟨⟨h1, hb⟩, ha⟩, hd⟩ := h
      obtain ⟨g1, g2⟩ := o.bi_of hb
      exact snd_b2 o.calm b h1 g1 g2 (chkX_ok a o ha) (chkX_ok d o hd)
    · cases h
  | .comp tg own k as cond elt, c, S, ex, o, h => by
    unfold chkX at h
    split at h
    · rename_i ee et ei ifs aw scope pos
      simp only [Bool.and_eq_true, beq_iff_eq] at h
      obtain ⟨⟨⟨⟨⟨⟨rfl, hk⟩, ht⟩, hS⟩, hi⟩, hc⟩, he⟩ := h
      obtain ⟨i1, i2⟩ := itB_ok o (fun es hes => chkXs_ok as o hes) hi
      have ob := o.blk scope
      have hcond : CondOk c scope (sem G call cond) ifs := by
        cases ifs with
        | nil => exact .inl ⟨rfl, om_sem hc⟩
        | cons e1 r =>
          cases r with
          | nil =>
            have hc : (chkX (S.blk scope) cond e1 && !isIf e1) = true := hc
            rw [Bool.and_eq_true] at hc
            refine .inr ⟨e1, rfl, not_f hc.2, ?_, fun s H C cl fp => chkX_ok cond (ob s H C cl fp) hc.1⟩
            cases cond <;> first | rfl | (have := hc.1; unfold chkX at this; cases this)
          | cons _ _ => cases hc
      have r := snd_comp (own := ownN S own) (tg := tg) (pos := pos) o.calm o.ndX i1 i2 (by rw [o.N, o.sc]; exact blkOk_by hk) (fun s H C cl fp => tgB_ok (ob s H C cl fp) ht)
        (fun i hi => by rw [ownN_snd]; exact List.elem_iff.mp (List.all_eq_true.mp hS i hi)) hcond (fun s H C cl fp => chkX_ok elt (ob s H C cl fp) he)
      rw [ownN_snd] at r
      exact r
    · cases h
  | .call f es ord, c, S, ex, o, h => by
    unfold chkX at h
    split at h
    · rename_i x pn args kws pos
      simp only [Bool.and_eq_true] at h
      obtain ⟨⟨⟨h1, h2⟩, h3⟩, h4⟩ := h
      obtain ⟨t, ht, h5⟩ := any_ex h4
      simp only [Bool.and_eq_true, beq_iff_eq] at h5
      obtain ⟨⟨⟨⟨e1, e2⟩, e3⟩, hk⟩, e5⟩ := h5
      obtain ⟨l1, l2, e, p1, p2⟩ := pair_split (chkXs_ok es o h3)
      have C := o.callee h1 (not_f h2) t ht e1 e2 e3 rfl (ordEq_eq e5)
      have r := snd_call (pn := pn) (pos := pos) C p1 (pair_kw p2) rfl hk
      rw [← e] at r
      exact r
    · cases h
  | .callP f es ord, c, S, ex, o, h => by
    unfold chkX at h
    split at h
    · rename_i x pn args kws pos
      simp only [Bool.and_eq_true] at h
      obtain ⟨⟨⟨h1, h2⟩, h3⟩, h4⟩ := h
      obtain ⟨t, ht, h5⟩ := any_ex h4
      simp only [Bool.and_eq_true, beq_iff_eq] at h5
      obtain ⟨⟨⟨⟨e1, e2⟩, e3⟩, hk⟩, e5⟩ := h5
      obtain ⟨l1, l2, e, p1, p2⟩ := pair_split (chkXs_ok es o h3)
      have C := o.callee h1 (not_f h2) t ht e1 e2 e3 rfl (ordEq_eq e5)
      have r := snd_callP (pn := pn) (pos := pos) C p1 (pair_kw p2) rfl hk
      rw [← e] at r
      exact r
    · cases h
  | .callL f es ord, c, S, ex, o, h => by
    unfold chkX at h
    split at h
    · rename_i x pn args kws pos
      simp only [Bool.and_eq_true] at h
      obtain ⟨⟨⟨h1, h2⟩, h3⟩, h4⟩ := h
      obtain ⟨t, ht, h5⟩ := any_ex h4
      simp only [Bool.and_eq_true, beq_iff_eq] at h5
      obtain ⟨⟨⟨⟨e1, e2⟩, e3⟩, hk⟩, e5⟩ := h5
      obtain ⟨l1, l2, e, p1, p2⟩ := pair_split (chkXs_ok es o h3)
      have C := o.callee h1 (not_f h2) t ht e1 e2 e3 rfl (ordEq_eq e5)
      have r := snd_callL (pn := pn) (pos := pos) C p1 (pair_kw p2) rfl hk
      rw [← e] at r
      exact r
    · cases h
  | .isE bs a, c, S, ex, o, h => by
    unfold chkX at h
    split at h
    · simp only [Bool.and_eq_true, beq_iff_eq] at h
      obtain ⟨⟨⟨⟨⟨rfl, h1⟩, h2⟩, h3⟩, h4⟩, h5⟩ := h
      obtain ⟨p, hp, h6⟩ := any_ex h5
      simp only [Bool.and_eq_true, beq_iff_eq] at h6
      obtain ⟨e1, e2⟩ := h6
      obtain ⟨g1, g2⟩ := o.bi_of h1
      exact snd_isE g1 g2 (o.isa_of h2 (not_f h3) (by rw [← e1, ← e2]; exact hp)) (chkX_ok a o h4)
    · cases h
  | .fld nm ok a, c, S, ex, o, h => by
    unfold chkX at h
    split at h
    · simp only [Bool.and_eq_true, beq_iff_eq] at h
      obtain ⟨⟨rfl, h1⟩, h2⟩ := h
      obtain ⟨p, hp, h6⟩ := any_ex h2
      simp only [Bool.and_eq_true, beq_iff_eq] at h6
      obtain ⟨e1, e2⟩ := h6
      have := o.fld p hp
      rw [e1, e2] at this
      exact snd_fld this (chkX_ok a o h1)
    · cases h
  | .cntT a, c, S, ex, o, h => by
    unfold chkX at h
    split at h
    · simp only [Bool.and_eq_true] at h
      obtain ⟨⟨h0, h1⟩, h2⟩ := h
      have e0 := beq_iff_eq.mp h0
      subst e0
      exact snd_cntT o.un (chkX_ok a o h2) h1
    · cases h
  | .outc t q fr ks a, c, S, ex, o, h => by
    unfold chkX at h
    split at h
    · simp only [Bool.and_eq_true, decide_eq_true_eq] at h
      obtain ⟨⟨⟨⟨⟨⟨h1, h2⟩, h3⟩, h4⟩, h5⟩, h6⟩, h7⟩ := h
      obtain ⟨p, hp, h8⟩ := any_ex h7
      simp only [Bool.and_eq_true, beq_iff_eq] at h8
      obtain ⟨⟨e1, e2⟩, e3⟩ := h8
      obtain ⟨hd, la, room, ho⟩ := o.lam q h3
      obtain ⟨k, O, rk⟩ := ho p hp
      rw [e1, e2, e3] at O
      rw [noArg_eq h4]
      exact snd_outc (k2 := 0) O (o.gl_of h1) (not_f h2) rk room o.gd la (LamX.lamS_by (by rw [o.sc]; exact h5)) fun g cd qg sg s0 st Hs E f c' rm => (chkX_ok a (o.lamb h3 _ g cd qg sg s0 st Hs E f c') h6).v
    · cases h
  | .cel a, c, S, ex, o, h => by
    unfold chkX at h
    simp only [Bool.and_eq_true] at h
    obtain ⟨⟨h1, h2⟩, h3⟩ := h
    exact snd_cel (chkX_ok a o h3) h1 h2
theorem chkXs_ok : ∀ (xs : List X) {c : Cn} {S : Sta} {es : List Expr}, Ok call G c S → chkXs S xs es = true → Paired (Snd c) (sems G call xs) es
  | [], c, S, es, o, h => by
    unfold chkXs at h
    split at h
    · exact .nil
    · cases h
  | x :: xs, c, S, es, o, h => by
    unfold chkXs at h
    split at h
    · simp only [Bool.and_eq_true] at h
      exact .cons (chkX_ok x o h.1) (chkXs_ok xs o h.2)
    · cases h
end
end
end Pv

/-! PvC3: the checker of statements, and that it is right. -/
namespace Pv
open PySem PySem.Spec PyProof.Rows L2

/-! ### how a pair of names takes a pair of values -/
inductive SwR where
  | none
  | names (l : List Str)
  | out
def isStar : Expr → Bool
  | .Starred .. => true
  | _ => false
def locName (sc : Scope) (line : Nat) : Expr → Option Str
  | .Name id pos => if sc.names.lookup id == some .local && pos.line == line then some id else Option.none
  | _ => Option.none
def swP (sc : Scope) (ts vs : List Expr) : SwR :=
  if !(ts.length == 2 || ts.length == 3) || vs.length != ts.length then .none else
  if vs.any isStar then .none else
  let names := ts.filterMap (locName sc ((ts.head?.map (·.pos.line)).getD 0))
  if names.length != ts.length || names.eraseDups.length != names.length then .none else
  if vs.all (foldedForSure 8) then .none else
  if vs.all (constantsAlone 8) then .out else .names names
theorem block_fun {env : PySem.Env} (h : env.scope.kind = .function) : env.blockKind = .function := by unfold Env.blockKind; rw [h]; rfl
theorem star_eq : (fun e : Expr => match e with
    | .Starred .. => true
    | _ => false) = isStar := by
  funext e
  cases e <;> rfl
theorem sw_eq {env : PySem.Env} (hk : env.scope.kind = .function) {ts vs : List Expr} {k k2 : Nat} {p p2 : Pos} : (match swP env.scope ts vs with
    | .none => swappedStores [.Tuple ts k p] (.Tuple vs k2 p2) env = pure none
    | .names l => swappedStores [.Tuple ts k p] (.Tuple vs k2 p2) env = pure (some l)
    | .out => True) := by
  have hb := block_fun hk
  have e0 : swappedStores [.Tuple ts k p] (.Tuple vs k2 p2) env = (do
      if !(ts.length == 2 || ts.length == 3) || vs.length != ts.length || env.blockKind != .function then return none
      if vs.any isStar then return none
      if (ts.filterMap (locName env.scope ((ts.head?.map (·.pos.line)).getD 0))).length != ts.length || (ts.filterMap (locName env.scope ((ts.head?.map (·.pos.line)).getD 0))).eraseDups.length != (ts.filterMap (locName env.scope ((ts.head?.map (·.pos.line)).getD 0))).length then return none
      if vs.all (foldedForSure 8) then return none
      if vs.all (constantsAlone 8) then unsupported "assign.tuple-of-constant-expressions:order-of-the-stores"
      return some (ts.filterMap (locName env.scope ((ts.head?.map (·.pos.line)).getD 0)))) := by
    have en : (fun e : Expr => match e with
        | .Name id pos => if env.kindOf id == some .local && pos.line == ((ts.head?.map (·.pos.line)).getD 0) then some id else none
        | _ => none) = locName env.scope ((ts.head?.map (·.pos.line)).getD 0) := by
      funext e
      cases e <;> rfl
    rw [← en, ← star_eq]
    rfl
  rw [e0]
  unfold swP
  have h0 : (env.blockKind != .function) = false := by rw [hb]; rfl
  rw [h0, Bool.or_false]
  generalize ts.filterMap (locName env.scope ((ts.head?.map (·.pos.line)).getD 0)) = nm
  by_cases h1 : (!(ts.length == 2 || ts.length == 3) || vs.length != ts.length) = true
  · rw [if_pos h1, if_pos h1]
  · rw [if_neg h1]
    by_cases h2 : vs.any isStar = true
    · rw [if_pos h2]
      dsimp only
      rw [if_neg h1, if_pos h2]
    · rw [if_neg h2]
      dsimp only
      by_cases h3 : (nm.length != ts.length || nm.eraseDups.length != nm.length) = true
      · rw [if_pos h3]
        dsimp only
        rw [if_neg h1, if_neg h2, if_pos h3]
      · rw [if_neg h3]
        by_cases h4 : vs.all (foldedForSure 8) = true
        · rw [if_pos h4]
          dsimp only
          rw [if_neg h1, if_neg h2, if_neg h3, if_pos h4]
        · rw [if_neg h4]
          by_cases h5 : vs.all (constantsAlone 8) = true
          · rw [if_pos h5]
            trivial
          · rw [if_neg h5]
            dsimp only
            rw [if_neg h1, if_neg h2, if_neg h3, if_neg h4, if_neg h5]

/-! ### x = [..] -/
def isLc : Expr → Bool
  | .ListComp .. => true
  | _ => false
/-- the comprehension stores by itself -/
def lcSw (sc : Scope) (y : Str) (py : Pos) : Expr → Bool
  | .ListComp _ _ scope cpos => decide (sc.names.lookup y = some .local) && py.line == cpos.line && !(scope.names.any fun (n, k) => n == y && (k == .local || k == .cell))
  | _ => false
theorem lc_false {env : PySem.Env} {e : Expr} {y : Str} {py : Pos} {l : Nat} (hs : Syn e) (h : lcSw env.scope y py e = false) : swapsWith e (some (.Name y py)) l env = pure false := by
  rcases hs.sw with hs | ⟨a, b, scope, cpos, rfl⟩
  · exact hs _ _ _
  · unfold swapsWith
    have h : (decide (env.scope.names.lookup y = some .local) && py.line == cpos.line && !(scope.names.any fun (n, k) => n == y && (k == .local || k == .cell))) = false := h
    show (pure (env.blockKind == .function && env.kindOf y == some .local && py.line == cpos.line && !(scope.names.any fun (n, k) => n == y && (k == .local || k == .cell))) : Sem Bool) = pure false
    congr 1
    have e1 : (env.kindOf y == some .local) = decide (env.scope.names.lookup y = some .local) := by
      show (env.scope.names.lookup y == some .local) = _
      cases q : env.scope.names.lookup y with
      | none => rfl
      | some k => cases k <;> rfl
    rw [e1, Bool.and_assoc, Bool.and_assoc, ← Bool.and_assoc (decide _), h, Bool.and_false]
theorem lc_true {env : PySem.Env} {elt : Expr} {gs : List Comprehension} {scope : Scope} {cpos py : Pos} {y : Str} {l : Nat} (hk : env.scope.kind = .function) (h : lcSw env.scope y py (.ListComp elt gs scope cpos) = true) :
    swapsWith (.ListComp elt gs scope cpos) (some (.Name y py)) l env = pure true ∧ env.scope.names.lookup y = some .local := by
  have h : (decide (env.scope.names.lookup y = some .local) && py.line == cpos.line && !(scope.names.any fun (n, k) => n == y && (k == .local || k == .cell))) = true := h
  simp only [Bool.and_eq_true, decide_eq_true_eq] at h
  obtain ⟨⟨h1, h2⟩, h3⟩ := h
  exact ⟨sw_true hk h1 h2 (not_f h3), h1⟩
theorem sole_false {env : PySem.Env} {e t : Expr} {l : Nat} (hs : Syn e) (ht : nameOf t = none) : swapsWithSole [t] e l env = pure false := by
  show swapsWith e (some t) l env = pure false
  rcases hs.sw with hs | ⟨a, b, scope, cpos, rfl⟩
  · exact hs _ _ _
  · cases t <;> first | rfl | cases ht
def isTupE : Expr → Bool
  | .Tuple .. => true
  | _ => false
theorem stores_none {env : PySem.Env} {e t : Expr} (he : isTupE e = false) : swappedStores [t] e env = pure none := by
  cases e <;> first
    | (cases he; done)
    | (cases t <;> rfl)
theorem stores_none_sub {env : PySem.Env} {e a b : Expr} {p : Pos} : swappedStores [.Subscript a b p] e env = pure none := by
  cases e <;> rfl
theorem sub_assign {a b : Expr} {p : Pos} (hb : synOk b = true) {env : PySem.Env} (v : Value) : assign (.Subscript a b p) env v = (do
      let ov ← holding [v] (eval a env)
      let iv ← holding [v, ov] (eval b env)
      standAt p
      holding [v, ov, iv] (setItem ov iv v)
      release [v, ov, iv] []) := by
  cases b <;> first | (cases hb; done) | rfl

/-! ### the checker -/
def isComp : X → Bool
  | .comp .. => true
  | _ => false
theorem isComp_ex : ∀ {x : X}, isComp x = true → ∃ tg own k as cond elt, x = .comp tg own k as cond elt
  | .comp tg own k as cond elt, _ => ⟨tg, own, k, as, cond, elt, rfl⟩
/-- x.m(e): the name, the method, the argument, on one line -/
def methB (T : Sta) (i : Nat) (m : Str) : Expr → Option Expr
  | .Call (.Attribute (.Name y _) attr apos) [a] [] cpos => if decide (T.N[i]? = some y) && visB T.sc y && !(y == ("__debug__" : Str)) && !(y == ("__classdict__" : Str)) && attr == m && apos.endLine == cpos.line then some a else none
  | _ => none
def methB2 (T : Sta) (i : Nat) (m : Str) : Expr → Option (Expr × Expr)
  | .Call (.Attribute (.Name y _) attr apos) [a, b] [] cpos => if decide (T.N[i]? = some y) && visB T.sc y && !(y == ("__debug__" : Str)) && !(y == ("__classdict__" : Str)) && attr == m && apos.endLine == cpos.line then some (a, b) else none
  | _ => none
mutual
def chkS (T : Sta) : S → Stmt → Bool
  | .asg tg x, st => match st with
    | .Assign [t] v _ => chkX T x v && (match tg, t with
      | .v i, .Name y py => decide (T.N[i]? = some y) && locB T y && (!(isLc v) || !(lcSw T.sc y py v) || isComp x)
      | .t ts, .Tuple es _ _ => tgsB T ts es && (match v with
        | .Tuple vs _ _ => (match swP T.sc es vs with
          | .none => true
          | _ => false)
        | _ => true)
      | _, _ => false)
    | _ => false
  | .par is xs, st => (match is, xs, st with
    | [i, j], [x, y], .Assign [.Tuple [.Name a p1, .Name b p2] _ _] (.Tuple [ea, eb] _ _) _ => decide (T.N[i]? = some a) && decide (T.N[j]? = some b) && !(i == j) && decide (T.sc.names.lookup a = some .local) && decide (T.sc.names.lookup b = some .local) && chkX T x ea && chkX T y eb &&
      (match swP T.sc [.Name a p1, .Name b p2] [ea, eb] with
        | .names l => l == [a, b]
        | _ => false)
    | [i, j, k], [x, y, z], .Assign [.Tuple [.Name a p1, .Name b p2, .Name d p3] _ _] (.Tuple [ea, eb, ed] _ _) _ => decide (T.N[i]? = some a) && decide (T.N[j]? = some b) && decide (T.N[k]? = some d) && !(i == j) && !(i == k) && !(j == k) &&
      decide (T.sc.names.lookup a = some .local) && decide (T.sc.names.lookup b = some .local) && decide (T.sc.names.lookup d = some .local) && chkX T x ea && chkX T y eb && chkX T z ed &&
      (match swP T.sc [.Name a p1, .Name b p2, .Name d p3] [ea, eb, ed] with
        | .names l => l == [a, b, d]
        | _ => false)
    | _, _, _ => false) || (match st with
    | .Assign [.Tuple ts _ _] (.Tuple vs _ _) _ => tgsB T (is.map .v) ts && chkXs T xs vs && decide (is.length ≤ 10) && (match swP T.sc ts vs with
      | .none => true
      | _ => false)
    | _ => false)
  | .aug i o x, st => match st with
    | .AugAssign (.Name y _) eo v _ => decide (T.N[i]? = some y) && locB T y && decide (opA o = eo) && chkX T x v
    | _ => false
  | .app i x, st => match st with
    | .Expr e _ => (match methB T i "append" e with
      | some a => chkX T x a
      | none => false)
    | _ => false
  | .ext i x, st => match st with
    | .Expr e _ => (match methB T i "extend" e with
      | some a => chkX T x a
      | none => false)
    | _ => false
  | .appPop i j x, st => match st with
    | .Expr e _ => (match methB T i "append" e with
      | some a => (match methB T j "pop" a with
        | some b => chkX T x b
        | none => false)
      | none => false)
    | _ => false
  | .popAt i x, st => match st with
    | .Expr e _ => (match methB T i "pop" e with
      | some a => chkX T x a
      | none => false)
    | _ => false
  | .ins i k x, st => match st with
    | .Expr e _ => (match methB2 T i "insert" e with
      | some (a, b) => chkX T k a && chkX T x b
      | none => false)
    | _ => false
  | .setSl i lo hi x, st => match st with
    | .Assign [.Subscript (.Name y _) (.Slice (some el) (some eh) none _) _] v _ => decide (T.N[i]? = some y) && visB T.sc y && !(y == ("__debug__" : Str)) && !(y == ("__classdict__" : Str)) && chkX T lo el && chkX T hi eh && chkX T x v
    | _ => false
  | .setIx i k x, st => match st with
    | .Assign [.Subscript (.Name y _) ek _] v _ => decide (T.N[i]? = some y) && visB T.sc y && !(y == ("__debug__" : Str)) && !(y == ("__classdict__" : Str)) && synOk ek && chkX T k ek && chkX T x v
    | _ => false
  | .expr x, st => match st with
    | .Expr e _ => chkX T x e && !isLc e
    | _ => false
  | .ite t a b, st => match st with
    | .If et sa sb _ => chkX T t et && !isIf et && chkSs T a sa && chkSs T b sb
    | _ => false
  | .for tg k as body, st => match st with
    | .For et ei sts [] _ => tgB T tg et && itB T k (chkXs T as) et ei && chkSs T body sts
    | _ => false
  | .while _ t body, st => match st with
    | .While et sts [] _ => chkX T t et && !isIf et && chkSs T body sts
    | _ => false
  | .ret x, st => match st with
    | .Return (some v) _ => chkX T x v
    | .Return none _ => (match x with
      | .non => true
      | _ => false)
    | _ => false
  | .pass, st => match st with
    | .Pass _ => true
    | _ => false
  | .brk, st => match st with
    | .Break _ => true
    | _ => false
  | .cont, st => match st with
    | .Continue _ => true
    | _ => false
  | .raise k x, st => match st with
    | .Raise (some (.Call (.Name y _) [ea] [] _)) none _ => glB T.sc y && !(y == ("__debug__" : Str)) && decide (T.ex.rs[k]? = some y) && chkX T x ea
    | _ => false
  | .never, _ => true
termination_by structural x => x
def chkSs (T : Sta) : List S → List Stmt → Bool
  | [], l => match l with
    | [] => true
    | _ => false
  | s :: r, l => match l with
    | st :: sts => chkS T s st && chkSs T r sts
    | [] => false
termination_by structural x => x
end

section
variable {call : Nat → List Vl → Cels → FRes} {G : List D}
structure OkS (call : Nat → List Vl → Cels → FRes) (G : List D) (c : Cn) (T : Sta) : Prop where
  ok : Ok call G c T
  kd : T.sc.kind = .function
  po : PassesOwn (model c.X.prog c.X.w) c.X.A c.X.env c.X.xe
  rs : ∀ (k : Nat) (x : Str), T.ex.rs[k]? = some x → Gl c.X x → (x == ("__debug__" : Str)) = false → RaiseX c k x
theorem meth_ok {c : Cn} {T : Sta} (o : Ok call G c T) {i : Nat} {m : Str} {e a : Expr} (h : methB T i m e = some a) : ∃ y px apos cpos, e = .Call (.Attribute (.Name y px) m apos) [a] [] cpos ∧ c.X.N[i]? = some y ∧ Vis c.X.env.scope y ∧ (y == ("__debug__" : Str)) = false ∧ (y == ("__classdict__" : Str)) = false ∧ (apos.endLine == cpos.line) = true := by
  unfold methB at h
  split at h
  · split at h
    · rename_i hb
      cases h
      simp only [Bool.and_eq_true, decide_eq_true_eq] at hb
      obtain ⟨⟨⟨⟨⟨h1, h2⟩, h3⟩, h4⟩, h5⟩, h6⟩ := hb
      have e5 := beq_iff_eq.mp h5
      subst e5
      exact ⟨_, _, _, _, rfl, by rw [o.N]; exact h1, o.vis_of h2, not_f h3, not_f h4, h6⟩
    · cases h
  · cases h
theorem meth2_ok {c : Cn} {T : Sta} (o : Ok call G c T) {i : Nat} {m : Str} {e a b : Expr} (h : methB2 T i m e = some (a, b)) : ∃ y px apos cpos, e = .Call (.Attribute (.Name y px) m apos) [a, b] [] cpos ∧ c.X.N[i]? = some y ∧ Vis c.X.env.scope y ∧ (y == ("__debug__" : Str)) = false ∧ (y == ("__classdict__" : Str)) = false ∧ (apos.endLine == cpos.line) = true := by
  unfold methB2 at h
  split at h
  · split at h
    · rename_i hb
      cases h
      simp only [Bool.and_eq_true, decide_eq_true_eq] at hb
      obtain ⟨⟨⟨⟨⟨h1, h2⟩, h3⟩, h4⟩, h5⟩, h6⟩ := hb
      have e5 := beq_iff_eq.mp h5
      subst e5
      exact ⟨_, _, _, _, rfl, by rw [o.N]; exact h1, o.vis_of h2, not_f h3, not_f h4, h6⟩
    · cases h
  · cases h
mutual
theorem chkS_ok : ∀ (s : S) {c : Cn} {T : Sta} {st : Stmt}, OkS call G c T → chkS T s st = true → SndS c (exec G call s) st
  | .never, c, T, st, o, h => snds_never
  | .appPop i j x, c, T, st, o, h => by
    unfold chkS at h
    split at h
    · split at h
      · rename_i a hm
        split at h
        · rename_i b hm2
          obtain ⟨y, px, apos, cpos, rfl, h1, h2, h3, h4, h5⟩ := meth_ok o.ok hm
          obtain ⟨z, pz, apos2, cpos2, rfl, k1, k2, k3, k4, k5⟩ := meth_ok o.ok hm2
          exact snds_appPop h1 h2 h3 h4 h5 k1 k2 k3 k4 k5 (chkX_ok x o.ok h)
        · cases h
      · cases h
    · cases h
  | .asg tg x, c, T, st, o, h => by
    unfold chkS at h
    split at h
    · rename_i t v pos
      rw [Bool.and_eq_true] at h
      obtain ⟨hx, h⟩ := h
      have sx := chkX_ok x o.ok hx
      have hk : c.X.env.scope.kind = .function := by rw [o.ok.sc]; exact o.kd
      split at h
      · rename_i i y py
        simp only [Bool.and_eq_true, decide_eq_true_eq] at h
        obtain ⟨⟨h1, h2⟩, h3⟩ := h
        cases hsw : lcSw T.sc y py v with
        | false => exact snds_asg o.ok.ndX (by rw [o.ok.N]; exact h1) (o.ok.loc_of h2) sx (lc_false sx.sy (by rw [o.ok.sc]; exact hsw))
        | true =>
          cases v <;> first
            | (cases hsw; done)
            | skip
          rename_i elt gens scope cpos
          rw [hsw] at h3
          have h3 : isComp x = true := by simpa [isLc] using h3
          obtain ⟨tg, own, k, as, cond, elt', rfl⟩ := isComp_ex h3
          · unfold chkX at hx
            split at hx
            · rename_i ee et ei ifs aw scope' pos' heq
              cases heq
              simp only [Bool.and_eq_true, beq_iff_eq] at hx
              obtain ⟨⟨⟨⟨⟨⟨rfl, hk1⟩, ht⟩, hS⟩, hi⟩, hc⟩, he⟩ := hx
              obtain ⟨i1, i2⟩ := itB_ok o.ok (fun es hes => chkXs_ok as o.ok hes) hi
              have ob := o.ok.blk scope
              have hcond : CondOk c scope (sem G call cond) ifs := by
                cases ifs with
                | nil => exact .inl ⟨rfl, om_sem hc⟩
                | cons e1 r =>
                  cases r with
                  | nil =>
                    have hc : (chkX (T.blk scope) cond e1 && !isIf e1) = true := hc
                    rw [Bool.and_eq_true] at hc
                    refine .inr ⟨e1, rfl, not_f hc.2, ?_, fun s H C cl fp => chkX_ok cond (ob s H C cl fp) hc.1⟩
                    cases cond <;> first | rfl | (have := hc.1; unfold chkX at this; cases this)
                  | cons _ _ => cases hc
              obtain ⟨w1, w2⟩ := lc_true (l := pos.line) hk (by rw [o.ok.sc]; exact hsw)
              have r := snds_asgLc (own := ownN T own) (tg := tg) (pos := pos) (i := i) (py := py) o.ok.calm o.ok.ndX (by rw [o.ok.N]; exact h1) w2 w1 i1 i2 (by rw [o.ok.N, o.ok.sc]; exact blkOk_by hk1) (fun s H C cl fp => tgB_ok (ob s H C cl fp) ht)
                (fun i hi => by rw [ownN_snd]; exact List.elem_iff.mp (List.all_eq_true.mp hS i hi)) hcond (fun s H C cl fp => chkX_ok elt' (ob s H C cl fp) he)
              rw [ownN_snd] at r
              exact r
            · cases hx
      · rename_i ts es kk pp
        rw [Bool.and_eq_true] at h
        obtain ⟨h1, h2⟩ := h
        refine snds_asgT o.ok.calm o.ok.ndX (.t (tgsB_ok o.ok h1)) (fun i z => nomatch z) sx (sole_false sx.sy rfl) ?_ rfl
        split at h2
        · rename_i vs k2 p2
          have q := sw_eq (env := c.X.env) hk (ts := es) (vs := vs) (k := kk) (k2 := k2) (p := pp) (p2 := p2)
          rw [o.ok.sc] at q
          split at h2
          · rename_i hq
            rw [hq] at q
            exact q
          · cases h2
        · rename_i hne
          exact stores_none (by cases v <;> first | rfl | exact (hne _ _ _ rfl).elim)
      · cases h
    · cases h
  | .par is xs, c, T, st, o, h => by
    have hk : c.X.env.scope.kind = .function := by rw [o.ok.sc]; exact o.kd
    unfold chkS at h
    rcases (Bool.or_eq_true _ _).mp h with h | h
    · split at h
      · rename_i i j x y a p1 b p2 kt pt ea eb k2 pt2 pos zz
        simp only [Bool.and_eq_true, decide_eq_true_eq] at h
        obtain ⟨⟨⟨⟨⟨⟨⟨h1, h2⟩, h3⟩, h4⟩, h5⟩, h6⟩, h7⟩, h8⟩ := h
        have q := sw_eq (env := c.X.env) hk (ts := [.Name a p1, .Name b p2]) (vs := [ea, eb]) (k := kt) (k2 := k2) (p := pt) (p2 := pt2)
        rw [o.ok.sc] at q
        split at h8
        · rename_i l hq
          rw [hq] at q
          have e8 := beq_iff_eq.mp h8
          subst e8
          exact snds_par2 o.ok.calm o.ok.ndX (by rw [o.ok.N]; exact h1) (by rw [o.ok.N]; exact h2) (fun z => by subst z; simp at h3) (by rw [o.ok.sc]; exact h4) (by rw [o.ok.sc]; exact h5) (chkX_ok x o.ok h6) (chkX_ok y o.ok h7) q
        · cases h8
      · rename_i i j k x y z a p1 b p2 d p3 kt pt ea eb ed k2 pt2 pos zz
        simp only [Bool.and_eq_true, decide_eq_true_eq] at h
        obtain ⟨⟨⟨⟨⟨⟨⟨⟨⟨⟨⟨⟨h1, h2⟩, h3⟩, n1⟩, n2⟩, n3⟩, h4⟩, h5⟩, h6⟩, h7⟩, h8⟩, h9⟩, h10⟩ := h
        have q := sw_eq (env := c.X.env) hk (ts := [.Name a p1, .Name b p2, .Name d p3]) (vs := [ea, eb, ed]) (k := kt) (k2 := k2) (p := pt) (p2 := pt2)
        rw [o.ok.sc] at q
        split at h10
        · rename_i l hq
          rw [hq] at q
          have e8 := beq_iff_eq.mp h10
          subst e8
          exact snds_par3 o.ok.calm o.ok.ndX (by rw [o.ok.N]; exact h1) (by rw [o.ok.N]; exact h2) (by rw [o.ok.N]; exact h3) (fun z => by subst z; simp at n1) (fun z => by subst z; simp at n2) (fun z => by subst z; simp at n3) (by rw [o.ok.sc]; exact h4) (by rw [o.ok.sc]; exact h5) (by rw [o.ok.sc]; exact h6)
            (chkX_ok x o.ok h7) (chkX_ok y o.ok h8) (chkX_ok z o.ok h9) q
        · cases h10
      · cases h
    · split at h
      · rename_i ts kt pt vs k2 pt2 pos zz
        simp only [Bool.and_eq_true, decide_eq_true_eq] at h
        obtain ⟨⟨⟨h1, h2⟩, h3⟩, h4⟩ := h
        have q := sw_eq (env := c.X.env) hk (ts := ts) (vs := vs) (k := kt) (k2 := k2) (p := pt) (p2 := pt2)
        rw [o.ok.sc] at q
        split at h4
        · rename_i hq
          rw [hq] at q
          exact snds_parT o.ok.calm o.ok.ndX (.t (tgsB_ok o.ok h1)) (chkXs_ok xs o.ok h2) h3 q rfl
        · cases h4
      · cases h
  | .aug i op x, c, T, st, o, h => by
    unfold chkS at h
    split at h
    · simp only [Bool.and_eq_true, decide_eq_true_eq] at h
      obtain ⟨⟨⟨h1, h2⟩, rfl⟩, h4⟩ := h
      exact snds_aug op o.ok.ndX (by rw [o.ok.N]; exact h1) (o.ok.loc_of h2) (chkX_ok x o.ok h4)
    · cases h
  | .app i x, c, T, st, o, h => by
    unfold chkS at h
    split at h
    · split at h
      · rename_i a hm
        obtain ⟨y, px, apos, cpos, rfl, h1, h2, h3, h4, h5⟩ := meth_ok o.ok hm
        exact snds_app h1 h2 h3 h4 h5 (chkX_ok x o.ok h)
      · cases h
    · cases h
  | .ext i x, c, T, st, o, h => by
    unfold chkS at h
    split at h
    · split at h
      · rename_i a hm
        obtain ⟨y, px, apos, cpos, rfl, h1, h2, h3, h4, h5⟩ := meth_ok o.ok hm
        exact snds_ext h1 h2 h3 h4 h5 (chkX_ok x o.ok h)
      · cases h
    · cases h
  | .popAt i x, c, T, st, o, h => by
    unfold chkS at h
    split at h
    · split at h
      · rename_i a hm
        obtain ⟨y, px, apos, cpos, rfl, h1, h2, h3, h4, h5⟩ := meth_ok o.ok hm
        exact snds_popAt h1 h2 h3 h4 h5 (chkX_ok x o.ok h)
      · cases h
    · cases h
  | .ins i k x, c, T, st, o, h => by
    unfold chkS at h
    split at h
    · split at h
      · rename_i a b hm
        obtain ⟨y, px, apos, cpos, rfl, h1, h2, h3, h4, h5⟩ := meth2_ok o.ok hm
        rw [Bool.and_eq_true] at h
        exact snds_ins h1 h2 h3 h4 h5 (chkX_ok k o.ok h.1) (chkX_ok x o.ok h.2)
      · cases h
    · cases h
  | .setSl i lo hi x, c, T, st, o, h => by
    unfold chkS at h
    split at h
    · simp only [Bool.and_eq_true, decide_eq_true_eq] at h
      obtain ⟨⟨⟨⟨⟨⟨h1, h2⟩, h3⟩, h4⟩, h5⟩, h6⟩, h7⟩ := h
      have sx := chkX_ok x o.ok h7
      exact snds_setSl (by rw [o.ok.N]; exact h1) (o.ok.vis_of h2) (not_f h3) (not_f h4) sx (chkX_ok lo o.ok h5) (chkX_ok hi o.ok h6) (sole_false sx.sy rfl) stores_none_sub
    · cases h
  | .setIx i k x, c, T, st, o, h => by
    unfold chkS at h
    split at h
    · simp only [Bool.and_eq_true, decide_eq_true_eq] at h
      obtain ⟨⟨⟨⟨⟨⟨h1, h2⟩, h3⟩, h4⟩, h5⟩, h6⟩, h7⟩ := h
      have sx := chkX_ok x o.ok h7
      exact snds_setIx (by rw [o.ok.N]; exact h1) (o.ok.vis_of h2) (not_f h3) (not_f h4) sx (chkX_ok k o.ok h6) (sole_false sx.sy rfl) stores_none_sub fun v => sub_assign h5 v
    · cases h
  | .expr x, c, T, st, o, h => by
    unfold chkS at h
    split at h
    · simp only [Bool.and_eq_true] at h
      obtain ⟨h1, h2⟩ := h
      have sx := chkX_ok x o.ok h1
      refine snds_expr sx ?_
      rcases sx.sy.sw with hs | ⟨a, b, s, q, rfl⟩
      · exact hs _ _ _
      · cases h2
    · cases h
  | .ite t a b, c, T, st, o, h => by
    unfold chkS at h
    split at h
    · simp only [Bool.and_eq_true] at h
      obtain ⟨⟨⟨h1, h2⟩, h3⟩, h4⟩ := h
      exact snds_if (chkX_ok t o.ok h1) (not_f h2) (chkSs_ok a o h3) (chkSs_ok b o h4)
    · cases h
  | .for tg k as body, c, T, st, o, h => by
    unfold chkS at h
    split at h
    · simp only [Bool.and_eq_true] at h
      obtain ⟨⟨h1, h2⟩, h3⟩ := h
      obtain ⟨i1, i2⟩ := itB_ok o.ok (fun es hes => chkXs_ok as o.ok hes) h2
      exact snds_for o.ok.calm o.ok.ndX o.po i1 i2 (tgB_ok o.ok h1) (chkSs_ok body o h3)
    · cases h
  | .while n t body, c, T, st, o, h => by
    unfold chkS at h
    split at h
    · simp only [Bool.and_eq_true] at h
      obtain ⟨⟨h1, h2⟩, h3⟩ := h
      exact snds_while o.po (chkX_ok t o.ok h1) (not_f h2) (chkSs_ok body o h3)
    · cases h
  | .ret x, c, T, st, o, h => by
    unfold chkS at h
    split at h
    · exact snds_ret (chkX_ok x o.ok h)
    · split at h
      · exact snds_retN
      · cases h
    · cases h
  | .pass, c, T, st, o, h => by
    unfold chkS at h
    split at h
    · exact snds_pass
    · cases h
  | .brk, c, T, st, o, h => by
    unfold chkS at h
    split at h
    · exact snds_brk
    · cases h
  | .cont, c, T, st, o, h => by
    unfold chkS at h
    split at h
    · exact snds_cont
    · cases h
  | .raise k x, c, T, st, o, h => by
    unfold chkS at h
    split at h
    · simp only [Bool.and_eq_true, decide_eq_true_eq] at h
      obtain ⟨⟨⟨h1, h2⟩, h3⟩, h4⟩ := h
      exact snds_raise o.ok.calm o.ok.tk (o.rs k _ h3 (o.ok.gl_of h1) (not_f h2)) (chkX_ok x o.ok h4)
    · cases h
theorem chkSs_ok : ∀ (ss : List S) {c : Cn} {T : Sta} {sts : List Stmt}, OkS call G c T → chkSs T ss sts = true → SndSs c (execs G call ss) sts
  | [], c, T, sts, o, h => by
    unfold chkSs at h
    split at h
    · exact sndss_nil
    · cases h
  | s :: r, c, T, sts, o, h => by
    unfold chkSs at h
    split at h
    · simp only [Bool.and_eq_true] at h
      exact sndss_cons (chkS_ok s o h.1) (chkSs_ok r o h.2)
    · cases h
end
end
end Pv

/-! PvC4: the defs of a module keep what the evaluator says of them. -/
namespace Pv
open PySem PySem.Spec PyProof.Rows L2

/-- a def's body, walked where no repr is under way, keeps the def's promise -/
theorem FunD.okG {P : Program} {w : World} {K : PySem.W.Frag} {mg : Str → Option Value} {base : Heap} {x qual : Str} {params : Arguments} {body : List Stmt} {scope : Scope} {dvs : List V} {kws : List (Str × V)} {f : Addr} {fd : FuncData} {CX : CXT} {N ps : List Str} {n : Nat} {sp : Sp}
    (D : FunD K x qual params body scope dvs kws f fd) (S : FnScope N ps scope) (len : ∀ vs H Q E, sp vs H Q E → vs.length = ps.length)
    (walk : ∀ (cd : Value) (A : Around) (outer : List PySem.Env) (s : Shared) (H : Hp) (vs : List V) (Q : VK) (E : XK), (∃ (dV kV doc pm : Value) (an : Option Addr) (ct : Value), fd = PySem.W.fnOf x qual params body scope dV kV doc pm an cd ct) → Room n (A.deeper (envOfC qual scope s.heap.objs.size f cd)) → A.guards = some [] → sp vs H Q E →
      ∃ t, PSs (cxOf CX P w K mg base N qual scope f cd A outer s H E) body t ∧ t { nx := fun _ H' => Q .non H', rt := Q } (L2.start N vs) H) : FnG P w K mg base CX (n + 1) f fd ps sp := by
  obtain ⟨oc, od, dV, kV, doc, pm, an, cd, ct, osl, rfl, atF, code, _, _⟩ := D.ex
  refine ⟨len, fun A outer s H args us vs Q E room gd env bind rel prom => ?_⟩
  have ext : ∀ b o, base.get? b = some o → s.heap.get? b = some o := fun b o e => (env.bs b o e).1
  have inK : K.In s.heap := env.mod.kin.keeps ext
  have noLim : s.heap.NoLimit := env.mod.nolimit.keeps ext
  refine codeAny_call_function room.depth (inK _ _ atF) rfl S.co S.gen rfl (PySem.W.codeRec_of inK code) (bind _ _ _ _ ?_)
  refine wpAny_newFunctionEnv_cells S.kind (fun y hy => ?_) fun e he s1 inCall => ?_
  · obtain ⟨z, v⟩ := y
    exact (S.par z (List.of_mem_zip hy).1).imp id fun q => ⟨q, PySem.W.cellsFrom_some _ _ _ (.inl q)⟩
  · subst he
    obtain ⟨t, ht, hq⟩ := walk cd A outer s H vs Q E ⟨dV, kV, doc, pm, an, ct, rfl⟩ (room.deeper _) gd prom
    have start : Inv (cxOf CX P w K mg base N qual scope f cd A outer s H E) [] (L2.start N vs) H s1 := inv_start S room.hd env (len _ _ _ _ prom) rel inCall
    refine ⟨noLim.keeps inCall.toInCall.keep, codeAny_func (wpAny_mono (ht.run [] s1 (L2.start N vs) H _ start hq) (fun fl s' done => ?_) fun e s' out => out)⟩
    cases fl with
    | ret u => exact let ⟨v, _, H', J, rv, q⟩ := done; ⟨v, H', J.os, J.bare, J.base, J.hok, rv, q⟩
    | next => exact let ⟨_, H', J, q⟩ := done; ⟨.non, H', J.os, J.bare, J.base, J.hok, rfl, q⟩
    | brk => exact let ⟨_, _, _, q⟩ := done; q.elim
    | cont => exact let ⟨_, _, _, q⟩ := done; q.elim

structure DefI where
  name : Str
  qual : Str
  params : Arguments
  body : List Stmt
  scope : Scope
  ps : List Str
  N : List Str
  lam : Option Str
def staOf (d : DefI) (bl : List Str) (tab : List CallT) (gt : List (Str × D)) (ex : ExT) : Sta := ⟨d.N, d.scope, fun _ => true, bl, tab, gt, ex, d.lam, 2⟩
structure ModH (M : Mo) (G : List D) (K : PySem.W.Frag) (mg : Str → Option Value) (dfs : List DefI) (F : List Fn) (fa : Nat → Addr) (fd : Nat → FuncData) (bl : List Str) (tab : List CallT) (gt : List (Str × D)) (ex : ExT) (cs : List (Addr × Addr)) : Prop where
  hdef : ∀ (f : Nat) (d : DefI), dfs[f]? = some d → ∃ dvs, FunD K d.name d.qual d.params d.body d.scope dvs [] (fa f) (fd f)
  hmg : ∀ (f : Nat) (d : DefI), dfs[f]? = some d → mg d.name = some (.ref (fa f))
  hsc : ∀ (f : Nat) (d : DefI), dfs[f]? = some d → FnScope d.N d.ps d.scope
  hbl : ∀ x ∈ bl, mg x = none
  htab : ∀ t ∈ tab, ∃ (d : DefI) (o1 : List (Nat ⊕ V)) (o0 : List (Nat ⊕ Value)), dfs[t.f]? = some d ∧ t.name = d.name ∧ KBn K (fd t.f) d.ps t.n t.ks (fun us ws => pick (us ++ ws) o0) (fun vs zs => pick (vs ++ zs) o1) ∧ OrdR (KD K) o1 t.ord ∧ t.ord.length = d.ps.length
  hgl : ∀ (k : Nat) (x : Str) (d : D), gt[k]? = some (x, d) → G[k]? = some d ∧ ∃ u v, mg x = some u ∧ RelV v u ∧ KD K v d
  hchk : ∀ (f : Nat) (d : DefI) (fn : Fn), dfs[f]? = some d → F[f]? = some fn → fn.slots = d.N.length ∧ chkSs (staOf d bl tab gt ex) fn.body d.body = true
  hisa : ∀ p ∈ ex.isa, IsaM M K mg p.1 p.2
  hfld : ∀ p ∈ ex.fld, ∀ k ∈ p.2, ∃ C, M.excs[k]? = some (C, some p.1) ∧ XfC K C ∧ PySem.W.findIn K (.ref C) p.1 = some none
  hrs : ∀ (k : Nat) (x : Str), ex.rs[k]? = some x → ∀ c : Cn, c.M = M → c.X.K = K → c.X.mg = mg → Room 2 c.X.A → c.X.A.guards = some [] → Gl c.X x → (x == ("__debug__" : Str)) = false → RaiseX c k x
  hlam : ∀ (f : Nat) (d : DefI) (q : Str), dfs[f]? = some d → d.lam = some q → d.qual ++ ".<locals>." ++ "<lambda>" = q ∧ ∀ cd, (∃ (dV kV doc pm : Value) (an : Option Addr) (ct : Value), fd f = PySem.W.fnOf d.name d.qual d.params d.body d.scope dV kV doc pm an cd ct) → ∃ p ∈ cs, cd = .ref p.1 ∧ M.tab q = some p.2
  hout : ∀ p ∈ ex.out, ∃ d, dfs[p.2.1]? = some d ∧ ∀ (P : Program) (w : World) (base : Heap) (fc : FC) (k : Nat), FnG P w K mg base (L2.CX P w) k (fa p.2.1) (fd p.2.1) d.ps (FnSp M K fc d.ps.length) → OutD M P w K mg base fc k p.1 p.2.2

theorem start_at {N : List Str} {us : List V} {i : Nat} {u : V} (h : us[i]? = some u) : (L2.start N us)[i]? = some (some u) := by
  unfold L2.start
  have hi : i < us.length := (List.getElem?_eq_some_iff.mp h).1
  rw [List.getElem?_append_left (by rw [List.length_map]; exact hi), List.getElem?_map, h]
  rfl
theorem startE_at {n : Nat} {vs : List Vl} {i : Nat} {v : Vl} (h : (startE n vs)[i]? = some (some v)) : vs[i]? = some v := by
  unfold startE at h
  by_cases hi : i < vs.length
  · rw [List.getElem?_append_left (by rw [List.length_map]; exact hi), List.getElem?_map] at h
    cases q : vs[i]? with
    | none => rw [q] at h; cases h
    | some w => rw [q] at h; cases h; rfl
  · rw [List.getElem?_append_right (by rw [List.length_map]; omega), List.getElem?_replicate] at h
    split at h <;> cases h
theorem sr_start {M : Mo} {K : PySem.W.Frag} {H : Hp} {W : Addr → Prop} {μ : List Addr} {m : Cels} {N : List Str} {us : List V} {vs : List Vl} (st : StR M K H W μ m) (pr : Paired (fun u v => LR K H W μ u v ∧ isOwn v = false) us vs) (hl : us.length ≤ N.length) :
    ∃ B : Bs, B.H = H ∧ B.W = W ∧ B.μ = μ ∧ SR M K B (L2.start N us) H W μ (startE N.length vs) m := by
  have hlen := Paired.len pr
  have noown : ∀ {i : Nat} {xs : List D}, (startE N.length vs)[i]? = some (some (.own xs)) → False := fun {i xs} h => by
    obtain ⟨u, _, _, h2⟩ := Paired.get1 pr (startE_at h)
    cases h2
  refine ⟨⟨H, μ, W, fun a h z => ?_⟩, rfl, rfl, rfl, st, fun _ _ h _ => h, fun _ h => h, fun _ h => h, fun _ _ h => h, ⟨[], by simp⟩, fun _ h => .inl h, ?_, fun i v h => ?_, fun a ⟨i, xs, h, _⟩ => (noown h).elim, fun i j xs ys a _ h => (noown h).elim⟩
  · obtain ⟨o, e, _⟩ := st.wok a h
    rw [e] at z; cases z
  · unfold startE L2.start
    simp only [List.length_append, List.length_map, List.length_replicate]
    omega
  · obtain ⟨u, h1, h2, _⟩ := Paired.get1 pr (startE_at h)
    exact ⟨u, start_at h1, h2⟩

section
variable {M : Mo} {G : List D} {K : PySem.W.Frag} {mg : Str → Option Value} {dfs : List DefI} {F : List Fn} {fa : Nat → Addr} {fd : Nat → FuncData} {bl : List Str} {tab : List CallT} {gt : List (Str × D)} {ex : ExT} {cs : List (Addr × Addr)} {P : Program} {w : World} {base : Heap}
theorem mod_fn (h : ModH M G K mg dfs F fa fd bl tab gt ex cs) (tbs : ∀ p ∈ cs, LamX.TabB base mg p.1 p.2) : ∀ (n f : Nat) (d : DefI), dfs[f]? = some d → FnG P w K mg base (L2.CX P w) (3 * n) (fa f) (fd f) d.ps (FnSp M K (callD G F n f) d.ps.length)
  | 0, f, d, hd => ⟨fun vs H Q E h => h.1, fun A outer s H args us vs Q E hr hg e0 hb hv hs => by
    obtain ⟨_, _, _, _, _, _, _, z⟩ := hs
    exact z.elim⟩
  | n + 1, f, d, hd => by
    obtain ⟨dvs, FD⟩ := h.hdef f d hd
    have sc := h.hsc f d hd
    refine FunD.okG (n := 3 * n + 2) FD sc (fun vs H Q E h => h.1) fun cdv A outer s H us Q E hcd hr hg hs => ⟨_, pss_wss, ?_⟩
    obtain ⟨hl, vs, m, W, μ, st, pr, hf⟩ := hs
    have hN : us.length ≤ d.N.length := by
      have := congrArg List.length sc.pre
      rw [List.length_take] at this
      omega
    obtain ⟨B, rfl, rfl, rfl, sr⟩ := sr_start st pr hN
    have hf : FRet M K B.H B.W B.μ (match F[f]? with
      | some fn => if vs.length ≤ fn.slots then outcome (execs G (callD G F n) fn.body (startE fn.slots vs) m) else .stuck
      | none => .stuck) Q E := hf
    cases hF : F[f]? with
    | none => rw [hF] at hf; exact hf.elim
    | some fn =>
      rw [hF] at hf
      dsimp only at hf
      obtain ⟨c1, c2⟩ := h.hchk f d fn hd hF
      have hlen := Paired.len pr
      rw [if_pos (by rw [c1, ← hlen]; exact hN), c1] at hf
      let X : Cx := cxOf (L2.CX P w) P w K mg base d.N d.qual d.scope (fa f) cdv A outer s B.H E
      let c : Cn := ⟨M, X, B, fun cls dx _ H => E cls dx H⟩
      have o : OkS (callD G F n) G c (staOf d bl tab gt ex) := by
        refine ⟨⟨rfl, rfl, sc.nd, fun _ _ => rfl, rfl, hr.units, hg, h.hbl, fun t ht => ?_, takes_of rfl rfl rfl rfl, h.hgl, h.hisa, fun p hp k hk => h.hfld p hp k hk, fun q hq => ?_⟩, sc.kind, passes_of rfl, fun k x hx g hdb => h.hrs k x hx c rfl rfl rfl (hr.mono (by omega)) hg g hdb⟩
        · obtain ⟨d', o1, o0, e1, e2, e3, e4, e5⟩ := h.htab t ht
          obtain ⟨dvs', FD'⟩ := h.hdef t.f d' e1
          exact ⟨3 * n, fa t.f, fd t.f, d'.ps, o1, o0, mod_fn h tbs n t.f d' e1, ⟨hr, hg⟩, by rw [e2]; exact h.hmg t.f d' e1, FD'.kp, e3, e4, e5⟩
        · obtain ⟨hq1, hq2⟩ := h.hlam f d q hd hq
          obtain ⟨p, hp, e1, e2⟩ := hq2 cdv hcd
          refine ⟨rfl, ⟨hq1, p.1, p.2, e2, tbs p hp, e1⟩, hr.mono (by omega), fun r hr' => ?_⟩
          obtain ⟨d', e3, e4⟩ := h.hout r hr'
          exact ⟨3 * n, e4 P w base _ _ (mod_fn h tbs n r.2.1 d' e3), hr.mono (by omega)⟩
      have S := chkSs_ok fn.body o c2
      refine S (L2.start d.N us) ⟨B.H, B.W, B.μ⟩ (startE d.N.length vs) m { nx := fun _ H' => Q .non H', rt := Q } sr ?_
      have ext : ∀ {σ' : L2.St} {q : Po} {e' : Slots} {m' : Cels}, Sr c σ' q e' m' → Ext [] B.H B.W B.μ [] q.H q.W q.μ [] := fun {σ' q e' m'} s' =>
        ⟨s'.keep, s'.bt, s'.wb, s'.pre, s'.new, fun a h => .inl (s'.bw a h), fun i xs h => by simp at h⟩
      cases hr2 : execs G (callD G F n) fn.body (startE d.N.length vs) m with
      | stuck => rw [hr2] at hf; exact hf
      | exc k g e' m' =>
        rw [hr2] at hf
        exact fun cls dx σ' q s' _ er => hf cls dx q.H q.W q.μ s'.st (ext s') er
      | ok fl e' m' =>
        rw [hr2] at hf
        cases fl with
        | nx => exact fun σ' q s' _ => hf .non q.H q.W q.μ s'.st (ext s') (Dq.non (K := K)) fun xs a z => nomatch z
        | brk => exact hf.elim
        | cont => exact hf.elim
        | ret v => exact fun u σ' q s' _ lr ow => hf u q.H q.W q.μ s'.st (ext s') lr ow
end

/-! ### how calls bind -/
/-- the places with their defaults -/
def ordW {α : Type} (ds : List α) : List (Nat ⊕ Nat) → List (Nat ⊕ α)
  | [] => []
  | .inl j :: r => .inl j :: ordW ds r
  | .inr j :: r => match ds[j]? with
    | some d => .inr d :: ordW ds r
    | none => ordW ds r
theorem pick_vals {vs : List V} {us : List Value} (h : Vals vs us) {ds : List V} {its : List Value} (hd : Vals ds its) : ∀ (o : List (Nat ⊕ Nat)), Vals (pick vs (ordW ds o)) (pick us (ordW its o))
  | [] => .nil
  | .inl j :: r => by
    unfold ordW pick
    cases q : vs[j]? with
    | none =>
      have : us[j]? = none := by
        rw [List.getElem?_eq_none_iff] at q ⊢
        rw [← h.length]; exact q
      rw [this]
      exact pick_vals h hd r
    | some v =>
      obtain ⟨u, e, rv⟩ := h.get q
      rw [e]
      exact .cons rv (pick_vals h hd r)
  | .inr j :: r => by
    unfold ordW
    cases q : ds[j]? with
    | none =>
      have : its[j]? = none := by
        rw [List.getElem?_eq_none_iff] at q ⊢
        rw [← hd.length]; exact q
      rw [this]
      exact pick_vals h hd r
    | some v =>
      obtain ⟨u, e, rv⟩ := hd.get q
      rw [e]
      exact .cons rv (pick_vals h hd r)
section
variable {K : PySem.W.Frag} {x qual : Str} {params : Arguments} {body : List Stmt} {scope : Scope} {dvs : List V} {f : Addr} {fd : FuncData} {ps ks : List Str} {n : Nat}
/-- a def without defaults -/
theorem kbn_all (F : FunD K x qual params body scope [] [] f fd) (o : List (Nat ⊕ Nat))
    (h : ∀ (kV doc pm : Value) (an : Option Addr) (cdv ct : Value) (us ws : List Value), us.length = n → ws.length = ks.length → bindArgs (PySem.W.fnOf x qual params body scope .none kV doc pm an cdv ct) ⟨us, ks.zip ws⟩ = pure (ps.zip (pick (us ++ ws) (ordW [] o)))) :
    KBn K fd ps n ks (fun us ws => pick (us ++ ws) (ordW [] o)) (fun vs zs => pick (vs ++ zs) (ordW [] o)) := by
  obtain ⟨oc, od, dV, kV, doc, pm, an, cdv, ct, osl, rfl, lk, hcd, hD, hK⟩ := F.ex
  rcases hD with ⟨_, rfl⟩ | ⟨e, _⟩
  · exact ⟨fun s us ws X l1 l2 => .of_eq (h kV doc pm an cdv ct us ws l1 l2), fun r1 r2 => pick_vals (r1.append r2) .nil o⟩
  · exact absurd rfl e
/-- a def with defaults, some of which are left out -/
theorem kbn_dfl (F : FunD K x qual params body scope dvs [] f fd) (hd : dvs ≠ []) (o : List (Nat ⊕ Nat))
    (h : ∀ (T : Addr) (kV doc pm : Value) (an : Option Addr) (cdv ct : Value) (us its ws : List Value), us.length = n → its.length = dvs.length → ws.length = ks.length →
      ∃ k, bindArgs (PySem.W.fnOf x qual params body scope (.ref T) kV doc pm an cdv ct) ⟨us, ks.zip ws⟩ = seqItems? (.ref T) >>= k ∧ k (some its.toArray) = pure (ps.zip (pick (us ++ ws) (ordW its o)))) :
    ∃ its : List Value, KBn K fd ps n ks (fun us ws => pick (us ++ ws) (ordW its o)) (fun vs zs => pick (vs ++ zs) (ordW dvs o)) :=
  F.kbindsD n ks (fun us ds ws => pick (us ++ ws) (ordW ds o)) hd (fun r1 rd r2 => pick_vals (r1.append r2) rd o) h
end
end Pv

/-! PvX1: exceptions of the module's own classes, over any built-in base, are made: B.__init__(self, text), self.f = v. -/
namespace Pv
open PySem PySem.Spec PyProof.Rows L2

/-- what is known of an exception's class -/
structure ExK (K : PySem.W.Frag) (C : Addr) (B newId initId : String) (bmB : List Value) : Prop where
  fb : ExcBaseFacts B newId initId bmB
  sf : StoreFacts B bmB "object.__setattr__" "object"
  cl : ∃ nm q N bs bm sn sub ab col dd k0 k1 k2 k3 k5, K.lookup C = some (excClassObj nm q C N bs bm true sn sub ab col dd k0 k1 k2 k3 k5 newId) ∧ PySem.W.excTail bmB bm = true
  sa : PySem.W.findIn K (.ref C) "__setattr__" = some (some (.builtin "object.__setattr__"))
  be : PySem.W.subIn K (.ref C) (.type "BaseException") = some true
  ty : PySem.W.typeIn K (.ref C) = some (.type "type")
  kp : PySem.W.keepIn K (.ref C) = true

section
open PySem.W PySem.Calls Builtin Builtin.ObjectAttr
variable {prog : Program} {w : World} {A : Around} {E : Value → Shared → Prop} {R : Result → Shared → Prop} {hp : Heap} {g : Array GenState} {dr : Drawn} {t : Nat} {os : OsState}
/-- object.__setattr__ on an exception without a dict -/
theorem exk_osa {K : Frag} {name : Str} {tk : Tok} {v : Value} {x C : Addr} {fv : Array Value} {cd : ClassData}
    (inK : K.In hp) (atx : hp.get? x = some { cls := .ref C, data := .fields fv }) (hcd : clsIn K C = some cd) (pass : refuseLoop (.ref x) "__setattr__" cd.mro = pure ()) (ob : cd.mro.contains (.type "object") = true) (nem : cd.mro.isEmpty = false) (hd : cd.hasDict = true) (no : findIn K (.ref C) name = some none)
    (fin : ∀ h' tk' dx, (∀ b o, b ≠ x → hp.get? b = some o → h'.get? b = some o) → hp.objs.size ≤ dx → dx ≠ x → h'.get? x = some { cls := .ref C, dict := some dx, data := .fields fv } →
      h'.Ns1 dx (fun y => if y = name then some v else none) → R (.ok (.ret .none)) ⟨h', g, dr, tk', os⟩) :
    codeAny (model prog w) A (.call (.builtin "object.__setattr__") ⟨[.ref x, .str name tk, v], []⟩) R ⟨hp, g, dr, t, os⟩ := by
  have inst : PySem.W.InstAt hp x { cls := .ref C, data := .fields fv } C none := ⟨atx, rfl, rfl, trivial⟩
  have so := PySem.F.store_object
  have xne : x ≠ hp.objs.size := Nat.ne_of_lt (Heap.lt_size atx)
  have isO : Looks (model prog w) hp (isInstance (.ref x) (.type "object")) true := inst.type.andThen (looks_mroIn inK (by unfold mroIn; rw [hcd, Option.bind_some, if_neg (by rw [nem]; decide), ob]))
  refine codeAny_call_builtin so.slot.plain so.entry (@check_slot (model prog w) _ _ ⟨hp, g, dr, t, os⟩ "object.__setattr__" "object" "__setattr__" (.ref x) [.str name tk, v] [] _ so.kind so.split isO (so.args (.ref x) (.str name tk) v) ?_)
  have mroL : Looks (model prog w) hp (mroOf (.ref C)) cd.mro := (looks_clsIn inK hcd).andThen .now
  have noTaker : Looks (model prog w) hp (storeTaker? none) none := .now
  have clsL : Looks (model prog w) hp (classData C) cd := looks_clsIn inK hcd
  rw [osa_eq, refuse_eq]
  refine wpAny_bind (wpAny_bind (inst.type.at (wpAny_bind (mroL.at ?_))))
  rw [pass]
  refine wpAny_pure (wpAny_bind (inst.type.at (wpAny_bind ((looks_findIn inK no).at (wpAny_bind (noTaker.at ?_))))))
  show wpAny _ _ (storeInOwnDict (.ref x) (.ref C) (.str name tk) name v false) _ _ _
  obtain ⟨nm, bs, mro, ns, qn, hdct, sn, sb, ab, col, del⟩ := cd
  dsimp only at hd
  subst hd
  unfold storeInOwnDict ownDictForStores
  repeat (first | with_reducible refine PySem.HandSPX.store_in_new ?_ ?_ | with_reducible refine wpAny_loadPart_at atx ?_ | with_reducible refine clsL.at ?_ | wp_step)
  · exact ⟨_, #[], _, (Heap.get?_update_ne _ _ _ _ xne.symm).trans (Heap.get?_push_at rfl rfl), rfl, fun e he => absurd he (by simp), fun _ => rfl⟩
  · intro h' tk' isNs same
    have atx1 : (hp.push { cls := .type "dict", data := .dict #[] }).get? x = some { cls := .ref C, data := .fields fv } := Heap.get?_push_of_some _ atx
    refine fin h' tk' hp.objs.size (fun b o hb ho => ?_) (Nat.le_refl _) xne.symm ?_ isNs
    · exact (same.2 b (Nat.ne_of_lt (Heap.lt_size ho))).trans ((Heap.get?_update_ne _ _ _ _ hb).trans (Heap.get?_push_of_some _ ho))
    · exact (same.2 x xne).trans (Heap.get?_update_self _ atx1 rfl)
end
section
variable {X : Cx} {pins : List (Addr × Obj)} {σ : L2.St} {H : Hp} {s : Shared} {a C : Addr} {B newId initId : String} {bmB : List Value}
/-- self.f = y, the exception's first one -/
theorem exk_set {f : Str} {y : V} {u : Value} {Q : Unit → Shared → Prop} {E : Value → Shared → Prop} {A : Around} (T : ExK X.K C B newId initId bmB) (I : Inv X pins σ H s) (e : H a = some (exo a C none)) (no : PySem.W.findIn X.K (.ref C) f = some none) (ry : RelV y u)
    (fin : ∀ dx s', H dx = none → dx ≠ a → Inv X pins σ (upd (upd H dx (exd dx [(f, y)])) a (exo a C (some dx))) s' → Q () s') : wpAny (model X.prog X.w) A (setAttr (.ref a) f u) Q E s := by
  obtain ⟨nm, q, N, bs, bm, sn, sub, ab, col, dd, k0, k1, k2, k3, k5, hC, hbm⟩ := T.cl
  have hcd : PySem.W.clsIn X.K C = some { name := nm, bases := bs, mro := .ref C :: bm, ns := N, qualname := q, hasDict := true, slotNames := sn, subclasses := sub, abstract := ab, collection := col, hasDel := false } := by unfold PySem.W.clsIn; rw [hC] <;> rfl
  obtain ⟨t1, ha⟩ := exo_at I.hok e
  obtain ⟨hp, g, dr, tk, os⟩ := s
  have tail : PySem.W.excTail bmB (.ref C :: bm) = true := hbm
  refine PySem.W.set_plain I.kIn (ox := { cls := .ref C, dict := none, data := .fields #[.ref t1, .none, .none, .none, .bool false, .none] }) (od := none) ⟨ha, rfl, rfl, trivial⟩ T.sa ?_
  refine exk_osa I.kIn ha hcd (PySem.W.excTail_pass (.ref a) (T.sf.passes (.ref a)) _ tail) ((PySem.W.excTail_contains "object" _ tail).trans T.sf.hasOwner) rfl rfl no (fun h' tk' dx kept dxNew dxA atA isNs => ?_)
  have nDx : H dx = none := I.hok.fresh dxNew
  have apart : ∀ {b : Addr} {o : Obj}, hp.get? b = some o → b ≠ dx := fun {b o} q => Nat.ne_of_lt (Nat.lt_of_lt_of_le (Heap.lt_size q) dxNew)
  have notA : ∀ {b : Addr}, H b = none → b ≠ a := fun {b} n z => by rw [z, e] at n; cases n
  have at2 : ∀ {b : Addr}, b ≠ a → b ≠ dx → upd (upd H dx (exd dx [(f, y)])) a (exo a C (some dx)) b = H b := fun {b} h1 h2 => by rw [upd_ne h1, upd_ne h2]
  have un : Un X.fs [] H (upd (upd H dx (exd dx [(f, y)])) a (exo a C (some dx))) hp h' :=
    { keep := fun b o q n _ _ => kept b o (notA n) q
      slot := fun b o q n _ _ => ⟨o.slots, kept b o (notA n) q⟩
      free := fun b o q n _ => (at2 (notA n) (apart q)).trans n
      there := fun b o q _ => if hb : b = a then ⟨_, hb ▸ atA⟩ else ⟨o, kept b o hb q⟩
      tups := fun b xs q => (at2 (at_ne e q exo_tup) (ne_of_none q nDx)).trans q
      frzs := fun b o v q => (at2 (at_ne e q exo_frz) (ne_of_none q nDx)).trans q
      tbls := fun b ps q => ⟨#[], (at2 (at_ne e q exo_tbl) (ne_of_none q nDx)).trans (by rw [q]; simp)⟩ }
  refine fin dx _ nDx dxA (I.un (t' := tk') un fun b o q => ?_)
  by_cases hb : b = a
  · subst hb
    rw [upd_same] at q; cases q
    exact exo_ok atA
  · rw [upd_ne hb] at q
    by_cases hd : b = dx
    · subst hd
      rw [upd_same] at q; cases q
      exact exd_ok isNs (relO_put (fs := []) ry fun _ => True.intro)
    · rw [upd_ne hd] at q
      refine (I.hok b o q).stay (fun c v hc z => kept c v ?_ z) (fun c hc => (at2 (at_ne e hc exo_own) (ne_of_none hc nDx)).trans hc) (fun c xs hc => (at2 (at_ne e hc exo_tup) (ne_of_none hc nDx)).trans hc)
      rcases hc with hc | hc
      · exact fun z => hb (hc.symm.trans z)
      · exact at_ne e hc exo_own
/-- B.__init__(self, ..): nothing of it is told -/
theorem exk_init {us : List Value} {Q : Value → Shared → Prop} {E : Value → Shared → Prop} {A : Around} (T : ExK X.K C B newId initId bmB) (I : Inv X pins σ H s) (e : H a = some (exo a C none)) (len : us.length ≤ sizeLine) (fin : ∀ s', Inv X pins σ H s' → Q .none s') :
    wpAny (model X.prog X.w) A (call (.builtin initId) (.ref a :: us)) Q E s := by
  obtain ⟨nm, q, N, bs, bm, sn, sub, ab, col, dd, k0, k1, k2, k3, k5, hC, hbm⟩ := T.cl
  obtain ⟨t1, ha⟩ := exo_at I.hok e
  obtain ⟨hp, g, dr, tk, os⟩ := s
  refine wpAny_call (PySem.HandSPX.init_base T.fb (fun Y => PySem.W.excTail_contains Y bm hbm) (I.kIn _ _ hC) ha len fun h' t2 kept atA => ?_)
  have J := I.write (t' := tk) (x := a) (e := a) (o := exo a C none) (by rw [e]; exact True.intro) (.inl rfl) kept ⟨_, atA⟩ (exo_ok atA)
  have same : upd H a (exo a C none) = H := funext fun b => if hb : b = a then by rw [hb, upd_same, e] else upd_ne hb
  rw [same] at J
  exact fin _ J
end
/-! ### readings -/
/-- B.__init__(self, ..) -/
def tExI (K : PySem.W.Frag) (B newId initId : String) (bmB : List Value) (ta : TA) : TE := fun σ H Q => ta σ H fun vs H1 => ∃ (a C : Addr) (ws : List V), vs = .ref a :: ws ∧ ws.length ≤ 1000 ∧ ExK K C B newId initId bmB ∧ H1 a = some (exo a C none) ∧ Q .non H1
/-- self.f = e -/
def tExS (K : PySem.W.Frag) (B newId initId : String) (bmB : List Value) (f : Str) (to te : TE) : TS := fun D σ H => te σ H fun y H1 => to σ H1 fun x H2 => ∃ a C : Addr, x = .ref a ∧ ExK K C B newId initId bmB ∧ PySem.W.findIn K (.ref C) f = some none ∧
  H2 a = some (exo a C none) ∧ ∀ dx, H2 dx = none → dx ≠ a → D.nx σ (upd (upd H2 dx (exd dx [(f, y)])) a (exo a C (some dx)))
section
variable {X : Cx} {B newId initId : String} {bmB : List Value} {o e : Expr} {es : List Expr} {to te : TE} {ta : TA} {f : Str} {p p' p1 p2 pos : Pos}
theorem pe_exI {pl : Sem Bool} (hg : Gl X (Str.ofString B)) (hm : X.mg (Str.ofString B) = none) (boot : bootBuiltins (Str.ofString B) = some (.type B)) (nn : Str.ofString B ≠ "__name__") (ndb : (Str.ofString B == ("__debug__" : Str)) = false)
    (tyB : typeOf (.type B) = pure (.type "type")) (stub : Manifest.isStub B = false) (fc : PySem.W.findCls X.K (.type B) (.type "type") "__init__" = some (.val (.builtin initId))) (han : PySem.W.handedIn (.builtin initId) = true) (ha : PA X (e :: es) ta)
    (hc : eval (.Call (.Attribute (.Name (Str.ofString B) p1) "__init__" p2) (e :: es) [] pos) X.env = (do
      let ov ← eval (.Name (Str.ofString B) p1) X.env
      standAt p2.atName
      let (f, first) ← holding [ov] (getMethod ov "__init__" pl)
      callWith pos f first (backTo pos (starEach (e :: es) X.env)) (backToKw pos (keywordEach [] X.env))))
    (he : starEach (e :: es) X.env = (false, eval e X.env) :: starEach es X.env) (hpl : (backTo pos (starEach es X.env)).any (·.1) = false) :
    PE X (.Call (.Attribute (.Name (Str.ofString B) p1) "__init__" p2) (e :: es) [] pos) (tExI X.K B newId initId bmB ta) := by
  refine ⟨fun pins s σ H Q I h => ?_⟩
  refine PySem.W.methodCall_KW (ld_blt I hg hm boot ?_ nn ndb) hc
  obtain ⟨m, fr⟩ := I.fr
  refine PySem.W.method_type fr I.ok.mod.kin tyB stub fc han ?_
  show wpAny _ _ (callWith pos (Value.builtin initId) [] (backTo pos (starEach (e :: es) X.env)) []) _ _ _
  refine PyProof.Rows.callWith_method1 (thn (ha.run pos pins _ σ H _ (I.tok _) h) fun us s1 ⟨vs, H1, I1, r1, a, C, ws, ev, hl, T, ea, q⟩ => ?_) he hpl
  subst ev
  cases r1 with
  | @cons _ u0 _ ur ra rw' =>
    obtain rfl : u0 = Value.ref a := ra
    refine exk_init T I1 ea ?_ fun s' J => ⟨.non, H1, J, rfl, q⟩
    rw [← Paired.length rw', sizeLine_eq]; omega
theorem ps_exS (ho : PE X o to) (he : PE X e te) (hs : swapsWith e (some (.Attribute o f p')) pos.line X.env = pure false) : PS X (.Assign [.Attribute o f p'] e pos) (tExS X.K B newId initId bmB f to te) := by
  refine ⟨fun pins s σ H D I h => ?_⟩
  refine plainObj_wpAny_Assign_Attribute (thn (he.run pins s σ H _ I h) fun v s1 ⟨y, H1, I1, r1, q1⟩ => thn (ho.run pins s1 σ H1 _ I1 q1) fun u s2 ⟨x, H2, I2, r2, a, C, ex, T, no, ea, q⟩ => ?_) hs
  subst ex
  obtain rfl : u = Value.ref a := r2
  exact exk_set T I2 ea no r1 fun dx s' n ne J => ⟨σ, _, J, q dx n ne⟩
end
end Pv

/-! PvX2: the own __init__ of an exception's class as a promise; raise C(e). -/
namespace Pv
open PySem PySem.Spec PyProof.Rows L2

/-- what the own __init__ does: one field more -/
def spI (C : Addr) (f : Str) : Sp := fun us H Q _ => ∃ (a : Addr) (v : V), us = [.ref a, v] ∧ H a = some (exo a C none) ∧ ∀ dx, H dx = none → dx ≠ a → Q .non (upd (upd H dx (exd dx [(f, v)])) a (exo a C (some dx)))
theorem under_guards {A : Around} (C : Addr) (us : List Value) (kw : List (Str × Value)) (h : A.guards = some []) : (A.under (.builtin "type.__call__" ⟨.ref C :: us, kw⟩)).guards = some [] := by
  first
    | exact h
    | (simp [Around.under, h, pushGuards]; done)
    | (simp [Around.under, h, pushGuards, Code.guards]; done)
/-- the __init__ of an exception's class keeps it -/
theorem init_fnG {P : Program} {w : World} {K : PySem.W.Frag} {mg : Str → Option Value} {base : Heap} {CX : CXT} {B newId initId : String} {bmB : List Value} {C fI : Addr} {fd : FuncData} {qual z f : Str} {params : Arguments} {scope : Scope} {j : Nat} {p1 p2 p3 p4 p5 p6 p7 p8 p9 p10 : Pos} {n : Nat}
    (T : ExK K C B newId initId bmB) (no : PySem.W.findIn K (.ref C) f = some none)
    (D : FunD K "__init__" qual params [.Expr (.Call (.Attribute (.Name (Str.ofString B) p1) "__init__" p2) [.Name "self" p3, .Constant (.str z) j p4] [] p5) p6, .Assign [.Attribute (.Name "self" p7) f p8] (.Name f p9) p10] scope [] [] fI fd)
    (S : FnScope ["self", f] ["self", f] scope) (gB : scope.names.lookup (Str.ofString B) = some .globalImplicit) (vs : Vis scope "self") (vf : Vis scope f) (mB : mg (Str.ofString B) = none)
    (boot : bootBuiltins (Str.ofString B) = some (.type B)) (nn : Str.ofString B ≠ "__name__") (ndb : (Str.ofString B == ("__debug__" : Str)) = false) (tyB : typeOf (.type B) = pure (.type "type")) (stub : Manifest.isStub B = false)
    (fc : PySem.W.findCls K (.type B) (.type "type") "__init__" = some (.val (.builtin initId))) (han : PySem.W.handedIn (.builtin initId) = true)
    (hc : ∀ env : PySem.Env, ∃ pl : Sem Bool, eval (.Call (.Attribute (.Name (Str.ofString B) p1) "__init__" p2) [.Name "self" p3, .Constant (.str z) j p4] [] p5) env = (do
      let ov ← eval (.Name (Str.ofString B) p1) env
      standAt p2.atName
      let (f, first) ← holding [ov] (getMethod ov "__init__" pl)
      callWith p5 f first (backTo p5 (starEach [.Name "self" p3, .Constant (.str z) j p4] env)) (backToKw p5 (keywordEach [] env))))
    (fdb : (f == ("__debug__" : Str)) = false) (fcd : (f == ("__classdict__" : Str)) = false) (sw1 : ∀ t l env, swapsWith (.Name f p9) t l env = pure false) (sw2 : ∀ t l env, swapsWith (.Call (.Attribute (.Name (Str.ofString B) p1) "__init__" p2) [.Name "self" p3, .Constant (.str z) j p4] [] p5) t l env = pure false) :
    FnG P w K mg base CX (n + 1) fI fd ["self", f] (spI C f) := by
  refine FunD.okG D S (fun vs H Q E h => by obtain ⟨a, v, rfl, _⟩ := h; rfl) fun cd A outer s H us Q E _ room gd prom => ?_
  obtain ⟨a, v, rfl, ea, fin⟩ := prom
  let X : Cx := cxOf CX P w K mg base ["self", f] qual scope fI cd A outer s H E
  obtain ⟨pl, hcx⟩ := hc X.env
  have gl : Gl X (Str.ofString B) := gB
  have ps : PE X (.Name "self" p3) (tVar 0) := pe_var (i := 0) rfl vs
  have ps7 : PE X (.Name "self" p7) (tVar 0) := pe_var (i := 0) rfl vs
  have pf : PE X (.Name f p9) (tVar 1) := pe_var (i := 1) rfl vf fdb fcd
  have h1 := pe_exI (X := X) (newId := newId) (initId := initId) (bmB := bmB) (pl := pl) gl mB boot nn ndb tyB stub fc han (pa_cons ps (pa_cons pe_str pa_nil rfl) rfl) hcx rfl rfl
  have h2 := ps_exS (X := X) (B := B) (newId := newId) (initId := initId) (bmB := bmB) (f := f) (p' := p8) (pos := p10) ps7 pf (sw1 _ _ _)
  refine ⟨_, pss_cons (ps_expr h1 (sw2 _ _ _)) (pss_cons h2 pss_nil), ?_⟩
  refine ⟨V.ref a, rfl, ?_⟩
  refine ⟨a, C, [.str z], rfl, by simp, T, ea, ?_⟩
  refine ⟨v, rfl, V.ref a, rfl, a, C, rfl, T, no, ea, fun dx h1 h2 => fin dx h1 h2⟩
section
variable {X : Cx}
/-- C(e) as an exception that is made -/
theorem pmk_exk {CX : CXT} {x f : Str} {C fI : Addr} {k : Nat} {fd : FuncData} {B newId initId : String} {bmB : List Value} {e : Expr} {te : TE} {p pos : Pos} (T : ExK X.K C B newId initId bmB) (hi : PySem.W.findIn X.K (.ref C) "__init__" = some (some (.ref fI))) (hf : PySem.W.typeIn X.K (.ref fI) = some (.type "function"))
    (F1 : FnG X.prog X.w X.K X.mg X.base CX k fI fd ["self", f] (spI C f)) (room : Room (k + 1) X.A) (gd : X.A.guards = some []) (bind : Binds X.K fd ["self", f] []) (out : Passes CX X (fun _ _ _ => False)) (hg : Gl X x) (hm : X.mg x = some (.ref C)) (he : PE X e te)
    (hdb : (x == ("__debug__" : Str)) = false) (hst : starEach [e] X.env = (false, eval e X.env) :: starEach [] X.env) :
    PMk X (.Call (.Name x p) [e] [] pos) (fun σ H Q => te σ H fun v H1 => ∀ dx, H1 dx = none → Q (.ref C) (some dx) (upd H1 dx (.xd [(f, v)]))) := by
  intro pins s σ H Q I h
  obtain ⟨nm, q, N, bs, bm, sn, sub, ab, col, dd, k0, k1, k2, k3, k5, hC, hbm⟩ := T.cl
  refine wpAny_Call_Name_kw (ld_glob I hg hm ?_ hdb)
  refine PySem.W.callWith_K (h₀ := X.base) I.ok.mod.kin T.kp ?_ hst (by rfl)
  rw [hst]
  show wpAny _ _ (spliced ((false, eval e X.env) :: backTo pos (starEach [] X.env))) _ _ s
  refine Calls.spliced_cons (thn (he.run pins s σ H _ I h) fun u s1 ⟨v, H1, I1, r1, q1⟩ => ?_)
  refine Calls.spliced_nil ⟨I1.kIn, ?_⟩
  show wpAny _ _ (call (.ref C) [u]) _ _ _
  obtain ⟨hp, g, dr, tk, os⟩ := s1
  obtain ⟨a, hA⟩ : ∃ a, a = hp.objs.size + 1 := ⟨_, rfl⟩
  have big : hp.objs.size ≤ a := by rw [hA]; exact Nat.le_succ _
  have freeA : H1 a = none := I1.hok.fresh big
  obtain ⟨h2, hh2⟩ : ∃ h2, h2 = (hp.push (PySem.W.kdv_tup [u])).push (PySem.HandSPX.excO C hp.objs.size) := ⟨_, rfl⟩
  have grown : ∀ b o, hp.get? b = some o → h2.get? b = some o := fun b o z => by rw [hh2]; exact Heap.get?_push_of_some _ (Heap.get?_push_of_some _ z)
  have atA : h2.get? a = some (PySem.HandSPX.excO C hp.objs.size) := by rw [hh2, hA]; heap_get
  have I2 : Inv X pins σ (upd H1 a (exo a C none)) ⟨h2, g, dr, tk, os⟩ := I1.laid (t' := tk) (a := a) (o := exo a C none) (h' := h2) grown big (exo_ok atA)
  have vals : Vals [V.ref a, v] [Value.ref a, u] := .cons rfl (.cons r1 .nil)
  have prom : spI C f [V.ref a, v] (upd H1 a (exo a C none)) (fun v' H2 => v' = .non ∧ ∃ dx, H1 dx = none ∧ dx ≠ a ∧ H2 = upd (upd (upd H1 a (exo a C none)) dx (exd dx [(f, v)])) a (exo a C (some dx))) (fun _ _ _ => False) :=
    ⟨a, v, rfl, upd_same, fun dx h1 h2 => ⟨rfl, dx, by rw [upd_ne h2] at h1; exact h1, h2, rfl⟩⟩
  refine wpAny_call (PySem.HandSPX.call_own T.fb (fun Y => PySem.W.excTail_contains Y bm hbm) (I1.kIn _ _ hC) (PySem.W.looks_findIn I1.kIn hi) (fun self => PySem.W.bind_fn I1.kIn self hf) (by show 1 ≤ sizeLine; rw [sizeLine_eq]; omega) ?_)
  rw [← hA, ← hh2]
  refine codeAny_mono (F1.run _ X.stack _ _ ⟨[Value.ref a, u], []⟩ [Value.ref a, u] _ _ (fun _ _ _ => False) (room.make C [u] []) (under_guards C [u] [] gd) (I2.env0.make C [u] []) (bind _ [Value.ref a, u] I2.kIn rfl) vals prom) fun r s' back => ?_
  cases r with
  | error er => exact out pins σ _ _ er s' I2 back
  | ok fl =>
    cases fl with
    | ret rv =>
      obtain ⟨v', H2, os2, bare2, un2, hok2, rel, ev, dx, hd1, hda, e2⟩ := back
      subst ev
      obtain ⟨h3, g3, d3, t3, os3⟩ := s'
      have ea : H2 a = some (exo a C (some dx)) := by rw [e2, upd_same]
      have ed : H2 dx = some (exd dx [(f, v)]) := by rw [e2, upd_ne hda, upd_same]
      refine ⟨rel, mk_end (raises_own T.be T.ty) I1 big grown un2 hok2 os2 bare2 ea ed hd1 ?_⟩
      have heq : upd (del H2 a) dx (.xd [(f, v)]) = upd H1 dx (.xd [(f, v)]) := by
        funext b
        by_cases hb : b = dx
        · rw [hb, upd_same, upd_same]
        · rw [upd_ne hb, upd_ne hb]
          by_cases hb2 : b = a
          · rw [hb2, del_same, freeA]
          · rw [del_ne hb2, e2, upd_ne hb2, upd_ne hb, upd_ne hb2]
      rw [heq]
      exact q1 dx hd1
    | next => exact back.elim
    | brk => exact back.elim
    | cont => exact back.elim
end
end Pv

/-! PvX8: the exceptions' classes, as what the top leaves shows them. -/
namespace Pv
open PySem PySem.Spec PyProof.Rows L2

/-- an own exception: its class's name, the built-in base, its field, its __init__ -/
structure EcD where
  name : Str
  base : String
  fld : Str
  qual : Str
  params : Arguments
  body : List Stmt
  scope : Scope
/-- a class's statements -/
def clsBody (s : Stmt) : List Stmt := match s with
  | .ClassDef (body := b) .. => b
  | _ => []
def EcD.toD (d : EcD) : He.DefD := ⟨(d.name, some "__init__"), "__init__", d.qual, d.params, d.body, d.scope, [], []⟩
def baseE (B : String) : Option (String × String × List Value) :=
  if B = "ValueError" then some ("ValueError.__new__", "ValueError.__init__", [.type "ValueError", .type "Exception", .type "BaseException", .type "object"])
  else if B = "LookupError" then some ("LookupError.__new__", "LookupError.__init__", [.type "LookupError", .type "Exception", .type "BaseException", .type "object"])
  else if B = "RuntimeError" then some ("RuntimeError.__new__", "RuntimeError.__init__", [.type "RuntimeError", .type "Exception", .type "BaseException", .type "object"])
  else if B = "OverflowError" then some ("OverflowError.__new__", "OverflowError.__init__", [.type "OverflowError", .type "ArithmeticError", .type "Exception", .type "BaseException", .type "object"])
  else none
structure BaseFx (B newId initId : String) (bmB : List Value) : Prop where
  fb : ExcBaseFacts B newId initId bmB
  sf : StoreFacts B bmB "object.__setattr__" "object"
  boot : bootBuiltins (Str.ofString B) = some (.type B)
  nn : Str.ofString B ≠ "__name__"
  ndb : (Str.ofString B == ("__debug__" : Str)) = false
  ty : typeOf (.type B) = pure (.type "type")
  stub : Manifest.isStub B = false
  han : PySem.W.handedIn (.builtin initId) = true
theorem baseE_ok {B n i : String} {bm : List Value} (h : baseE B = some (n, i, bm)) : BaseFx B n i bm := by
  unfold baseE at h
  split at h
  · rename_i e
    subst e
    cases h
    exact ⟨PySem.F.excBase_ValueError, PySem.F.store_ValueError, by decide +kernel, by decide, by decide, PySem.W.kitMeta_of (by decide +kernel), by decide +kernel, by decide +kernel⟩
  · split at h
    · rename_i e
      subst e
      cases h
      exact ⟨PySem.F.excBase_LookupError, PySem.F.store_LookupError, by decide +kernel, by decide, by decide, PySem.W.kitMeta_of (by decide +kernel), by decide +kernel, by decide +kernel⟩
    · split at h
      · rename_i e
        subst e
        cases h
        exact ⟨PySem.F.excBase_RuntimeError, PySem.F.store_RuntimeError, by decide +kernel, by decide, by decide, PySem.W.kitMeta_of (by decide +kernel), by decide +kernel, by decide +kernel⟩
      · split at h
        · rename_i e
          subst e
          cases h
          exact ⟨PySem.F.excBase_OverflowError, PySem.F.store_OverflowError, by decide +kernel, by decide, by decide, PySem.W.kitMeta_of (by decide +kernel), by decide +kernel, by decide +kernel⟩
        · cases h
/-- the class's object -/
def clsB (K : PySem.W.Frag) (C : Addr) (bmB : List Value) (newId : String) : Bool := match K.lookup C with
  | some ⟨.type "type", _, .cls cd, sl⟩ => (match cd.mro, sl.toList with
    | .ref C' :: bm, [_, _, _, _, some (.builtin n), _] => C' == C && (n == newId && (!cd.hasDel && (cd.hasDict && PySem.W.excTail bmB bm)))
    | _, _ => false)
  | _ => false
theorem clsB_ok {K : PySem.W.Frag} {C : Addr} {bmB : List Value} {newId : String} (h : clsB K C bmB newId = true) : ∃ nm q N bs bm sn sub ab col dd k0 k1 k2 k3 k5, K.lookup C = some (excClassObj nm q C N bs bm true sn sub ab col dd k0 k1 k2 k3 k5 newId) ∧ PySem.W.excTail bmB bm = true := by
  unfold clsB at h
  split at h
  · rename_i dd cd sl at_
    split at h
    · rename_i C' bm k0 k1 k2 k3 n k5 em es
      simp only [Bool.and_eq_true, beq_iff_eq, Bool.not_eq_true'] at h
      obtain ⟨eC, eN, hdel, hdct, tail⟩ := h
      subst eC
      subst eN
      obtain ⟨nm, bs, mro, ns, qn, hd, sn, sub, ab, col, del⟩ := cd
      dsimp only at em hdel hdct
      subst em hdel hdct
      obtain ⟨l⟩ := sl
      simp only at es
      subst es
      exact ⟨nm, qn, ns, bs, bm, sn, sub, ab, col, dd, k0, k1, k2, k3, k5, at_, tail⟩
    · cases h
  · cases h
def EcD.C (K : PySem.W.Frag) (d : EcD) : Addr := He.ga K d.name
def EcD.fI (K : PySem.W.Frag) (d : EcD) : Addr := He.ma K (He.ga K d.name) "__init__"
/-- all that is asked of the class -/
def EcD.ok (K : PySem.W.Frag) (d : EcD) : Bool := match baseE d.base with
  | none => false
  | some (newId, initId, bmB) => clsB K (d.C K) bmB newId && (decide (PySem.W.findIn K (.ref (d.C K)) "__setattr__" = some (some (.builtin "object.__setattr__"))) && (decide (PySem.W.subIn K (.ref (d.C K)) (.type "BaseException") = some true) && (decide (PySem.W.typeIn K (.ref (d.C K)) = some (.type "type")) &&
    (PySem.W.keepIn K (.ref (d.C K)) && (decide (PySem.W.findIn K (.ref (d.C K)) "__init__" = some (some (.ref (d.fI K)))) && (decide (PySem.W.typeIn K (.ref (d.fI K)) = some (.type "function")) && (decide (PySem.W.findIn K (.ref (d.C K)) d.fld = some none) &&
    ((match PySem.W.findCls K (.type d.base) (.type "type") "__init__" with
      | some (.val (.builtin i)) => i == initId
      | _ => false) &&
    (decide (PySem.W.findIn K (.ref (d.C K)) "__getattribute__" = some (some (.builtin "BaseException.__getattribute__"))) && (decide (PySem.W.findIn K (.ref (d.C K)) "__getattr__" = some none) && (PySem.W.hasDictIn K (d.C K) &&
    (decide (PySem.W.findIn K (.ref (d.C K)) "__class__" = some (some (.builtin "object.__class__"))) && (decide (PySem.W.specialIn K (.builtin "object.__class__") "__get__" = some (some (.builtin "getset_descriptor.__get__"))) && (decide (PySem.W.takesIn K (.builtin "object.__class__") = some true) && decide (PySem.W.mroIn K (d.C K) (.type "object") = some true)))))))))))))))
structure EcFx (K : PySem.W.Frag) (d : EcD) : Prop where
  ex : ∃ newId initId bmB, BaseFx d.base newId initId bmB ∧ ExK K (d.C K) d.base newId initId bmB ∧ PySem.W.findCls K (.type d.base) (.type "type") "__init__" = some (.val (.builtin initId))
  init : PySem.W.findIn K (.ref (d.C K)) "__init__" = some (some (.ref (d.fI K)))
  fn : PySem.W.typeIn K (.ref (d.fI K)) = some (.type "function")
  no : PySem.W.findIn K (.ref (d.C K)) d.fld = some none
  ec : ExcC K (d.C K)
  xf : XfC K (d.C K)
theorem EcD.fx {K : PySem.W.Frag} {d : EcD} (h : d.ok K = true) : EcFx K d := by
  unfold EcD.ok at h
  split at h
  · cases h
  · rename_i newId initId bmB hb
    simp only [Bool.and_eq_true, decide_eq_true_eq] at h
    obtain ⟨h1, h2, h3, h4, h5, h6, h7, h8, h9, h10, h11, h12, h13, h14, h15, h16⟩ := h
    have bx := baseE_ok hb
    refine ⟨⟨newId, initId, bmB, bx, ⟨bx.fb, bx.sf, clsB_ok h1, h2, h3, h4, h5⟩, ?_⟩, h6, h7, h8, ⟨h10, h11, h3, h12, h13, h14, h15, h16⟩, ⟨h10, h11, h3, h12⟩⟩
    split at h9
    · rename_i i hi
      rw [hi, beq_iff_eq.mp h9]
    · cases h9
/-- the text of such an __init__ -/
def InitShape (B : String) (f : Str) (body : List Stmt) : Prop := ∃ (p1 p2 p3 p4 p5 p6 p7 p8 p9 p10 : Pos) (j : Nat) (z : Str), body = [.Expr (.Call (.Attribute (.Name (Str.ofString B) p1) "__init__" p2) [.Name "self" p3, .Constant (.str z) j p4] [] p5) p6, .Assign [.Attribute (.Name "self" p7) f p8] (.Name f p9) p10] ∧
  ∀ env : PySem.Env, ∃ pl : Sem Bool, eval (.Call (.Attribute (.Name (Str.ofString B) p1) "__init__" p2) [.Name "self" p3, .Constant (.str z) j p4] [] p5) env = (do
      let ov ← eval (.Name (Str.ofString B) p1) env
      standAt p2.atName
      let (f, first) ← holding [ov] (getMethod ov "__init__" pl)
      callWith p5 f first (backTo p5 (starEach [.Name "self" p3, .Constant (.str z) j p4] env)) (backToKw p5 (keywordEach [] env)))
structure EcS (d : EcD) : Prop where
  shape : InitShape d.base d.fld d.body
  sc : FnScope ["self", d.fld] ["self", d.fld] d.scope
  gB : d.scope.names.lookup (Str.ofString d.base) = some .globalImplicit
  vs : d.scope.names.lookup ("self" : Str) = some .local
  vf : d.scope.names.lookup d.fld = some .local
  pf : plainName d.fld
  bind : ∀ (kV doc pm : Value) (an : Option Addr) (cdv ct : Value) (us : List Value), us.length = [("self" : Str), d.fld].length → bindArgs (PySem.W.fnOf "__init__" d.qual d.params d.body d.scope .none kV doc pm an cdv ct) ⟨us, []⟩ = pure ([("self" : Str), d.fld].zip us)
/-- C(e) may be raised -/
theorem ec_raise {M : Mo} {K : PySem.W.Frag} {mg : Str → Option Value} {d : EcD} {fdI : FuncData} (S : EcS d) (fx : EcFx K d) (FD : FunD K "__init__" d.qual d.params d.body d.scope [] [] (d.fI K) fdI) (hB : mg (Str.ofString d.base) = none) (hC : mg d.name = some (.ref (d.C K))) {k : Nat} (ek : M.excs[k]? = some (d.C K, some d.fld))
    (c : Cn) (cM : c.M = M) (cK : c.X.K = K) (cm : c.X.mg = mg) (room : Room 2 c.X.A) (gd : c.X.A.guards = some []) (g : Gl c.X d.name) (hdb : (d.name == ("__debug__" : Str)) = false) : RaiseX c k d.name := by
  subst cM cK cm
  obtain ⟨newId, initId, bmB, bx, T, fc⟩ := fx.ex
  obtain ⟨p1, p2, p3, p4, p5, p6, p7, p8, p9, p10, j, z, eb, hcall⟩ := S.shape
  have FD' := FD
  rw [eb] at FD'
  have F1 := init_fnG (P := c.X.prog) (w := c.X.w) (mg := c.X.mg) (base := c.X.base) (CX := L2.CX c.X.prog c.X.w) (n := 0) T fx.no FD' S.sc S.gB (.inl S.vs) (.inl S.vf) hB bx.boot bx.nn bx.ndb bx.ty bx.stub fc bx.han hcall S.pf.1 S.pf.2 (fun _ _ _ => rfl) (fun _ _ _ => rfl)
  have bind : Binds c.X.K fdI ["self", d.fld] [] := fun s us _ hl => by
    rw [List.append_nil] at hl ⊢
    exact FunD.bindsA (ps := [("self" : Str), d.fld]) FD S.bind s us hl
  exact ⟨d.C c.X.K, d.fld, ek, fun e te p pos he hst => pmk_exk T fx.init fx.fn F1 room gd bind (passes_call takes0 fun _ _ _ _ z => z.elim) g hC he hdb hst⟩
end Pv

/-! PvH: what the top leaves, read by a hook of our own; a law from the evaluator's answer. -/
namespace Pv
open PySem PySem.Spec PyProof.Rows L2

/-! ### the hook -/
/-- no list, and no table of code objects -/
def notLst : Option Obj → Bool
  | some ⟨.type c, _, _, _⟩ => !decide (c = "list")
  | some ⟨.none, _, .fields vs, _⟩ => !vs.isEmpty
  | _ => true
/-- what is reached, without lists -/
def frL (g : Addr → Option Obj) (as : List Addr) : PySem.W.Frag := He.frG (fun a => if notLst (g a) then g a else none) as
theorem frL_at {g : Addr → Option Obj} {as : List Addr} {a : Addr} {o : Obj} (h : (frL g as).lookup a = some o) : g a = some o ∧ o.cls ≠ .type "list" ∧ o ≠ { cls := .none, data := .fields #[] } := by
  have z := He.frG_at as h
  have z : (if notLst (g a) then g a else none) = some o := z
  split at z
  · rename_i hn
    rw [z] at hn
    obtain ⟨oc, od, dt, sl⟩ := o
    refine ⟨z, fun e => ?_, fun e => ?_⟩
    · have e : oc = .type "list" := e
      subst e
      exact absurd (show (!decide ("list" = "list")) = true from hn) (by decide)
    · cases e
      exact absurd (show (!(#[] : Array Value).isEmpty) = true from hn) (by decide)
  · cases z
def NoL (K : PySem.W.Frag) : Prop := ∀ a o, K.lookup a = some o → o.cls ≠ .type "list" ∧ o ≠ { cls := .none, data := .fields #[] }
/-- the def's only default is the empty tuple -/
def tupE (K : PySem.W.Frag) (x : Str) : Bool := match K.lookup (He.dflAt (x, none) 0 K) with
  | some ⟨.type c, _, .seq its _, _⟩ => decide (c = "tuple") && its.isEmpty
  | _ => false
theorem tupE_ok {K : PySem.W.Frag} {x : Str} (h : tupE K x = true) : KD K (.ref (He.dflAt (x, none) 0 K)) (.tuple []) := by
  intro H W
  unfold tupE at h
  cases q : K.lookup (He.dflAt (x, none) 0 K) with
  | none => rw [q] at h; cases h
  | some o =>
    obtain ⟨oc, od, dt, osl⟩ := o
    rw [q] at h
    cases oc with
    | type c =>
      cases dt with
      | seq its n =>
        obtain ⟨h1, h2⟩ := Bool.and_eq_true_iff.mp (show (decide (c = "tuple") && its.isEmpty) = true from h)
        have e : its = #[] := by simpa using h2
        subst e
        exact .tup (.inr ⟨_, #[], n, q, congrArg Value.type (of_decide_eq_true h1), rfl, Nat.zero_le _, .nil⟩) .nil
      | _ => cases h
    | _ => cases dt <;> cases h
/-! ### exceptions and outcomes of a law -/
/-- a def that hands out outcomes: its place, the place of the def that names errors, the exceptions that it catches, its names, the classes of its clause -/
structure OcD where
  name : Str
  fo : Nat
  fr : Nat
  ks : List Nat
  wrk : Str
  fnd : Str
  cgt : Str
  err : Str
  rsd : Str
  cls : List Str
structure XtD where
  ecs : List EcD
  isa : List (Str × List Bool)
  fld : List (Str × List Nat)
  outs : List OcD
  mks : List (Str × Str)
def XtD.exT (xt : XtD) : ExT := ⟨xt.isa, xt.fld, xt.ecs.map (·.name), xt.outs.map fun o => (o.name, o.fr, o.ks)⟩
def codeAt (K : PySem.W.Frag) (x : Str) : Addr := match K.lookup (He.ga K x) with
  | some ⟨_, _, .func fd, _⟩ => (match fd.code with
    | .ref c => c
    | _ => 0)
  | _ => 0
def tabAt (K : PySem.W.Frag) (x : Str) : Addr := match K.lookup (codeAt K x) with
  | some ⟨_, _, .fields vs, _⟩ => (match (vs[11]? : Option Value) with
    | some (.ref P) => P
    | _ => 0)
  | _ => 0
def csOf (K : PySem.W.Frag) (mks : List (Str × Str)) : List (Addr × Addr) := mks.map fun m => (codeAt K m.1, tabAt K m.1)
def moOf (K : PySem.W.Frag) (xt : XtD) : Mo := ⟨[], [], xt.ecs.map fun d => (d.C K, some d.fld), fun q => (xt.mks.map fun m => (m.2, tabAt K m.1)).lookup q⟩
def isaV (K : PySem.W.Frag) (bl : List Str) (x : Str) : Option Value := if bl.contains x then bootBuiltins x else some (.ref (He.ga K x))
def isaB (K : PySem.W.Frag) (bl : List Str) (ecs : List EcD) (p : Str × List Bool) : Bool := match isaV K bl p.1 with
  | some cv => (match cv with
    | .type _ => true
    | .ref _ => true
    | _ => false) && (List.range p.2.length).all fun k => (match ecs[k]?, p.2[k]? with
    | some d, some b => decide (PySem.W.kitOne K (.ref (d.C K)) cv = some b)
    | _, _ => false)
  | none => false
def ocB (K : PySem.W.Frag) (ecs : List EcD) (o : OcD) : Bool := o.ks.all fun k => match ecs[k]? with
  | some d => decide (PySem.W.exmAny K (.ref (d.C K)) (o.cls.map fun x => .ref (He.ga K x)) = some true)
  | none => false
def mkB (K : PySem.W.Frag) (x : Str) : Bool := PySem.W.codeHdIn K (codeAt K x) (tabAt K x) && (match K.lookup (He.ga K x) with
  | some ⟨_, _, .func fd, _⟩ => decide (fd.code = .ref (codeAt K x))
  | _ => false)
def xtB (K : PySem.W.Frag) (bl : List Str) (xt : XtD) : Bool := (xt.ecs.all fun d => d.ok K) && ((xt.isa.all (isaB K bl xt.ecs)) && ((xt.outs.all (ocB K xt.ecs)) && ((xt.mks.all fun m => mkB K m.1) && decide ((xt.mks.map fun m => tabAt K m.1).Nodup))))
def tblB (g : Addr → Option Obj) (P : Addr) : Bool := match g P with
  | some ⟨.none, none, .fields vs, sl⟩ => vs.isEmpty && sl.isEmpty
  | _ => false
theorem tblB_ok {g : Addr → Option Obj} {P : Addr} (h : tblB g P = true) : g P = some { cls := .none, data := .fields #[] } := by
  unfold tblB at h
  split at h
  · rename_i vs sl e
    rw [Bool.and_eq_true] at h
    have e1 : vs = #[] := by simpa using h.1
    have e2 : sl = #[] := by simpa using h.2
    rw [e, e1, e2]
  · cases h
def obsP (fa : List He.Fa) (fn : List He.DefD) (ts : List Str) (bl : List Str) (xt : XtD) (K : PySem.W.Frag) : He.AlD := ((fa.all fun f => f.ok K) && ((fn.all fun d => d.ok K) && ((ts.all fun x => tupE K x) && xtB K bl xt)), fn.map fun d => He.fnW K d.at_)
def SaysP (fa : List He.Fa) (fn : List He.DefD) (ts : List Str) (bl : List Str) (xt : XtD) (K : PySem.W.Frag) : Prop := obsP fa fn ts bl xt K = He.valD fn
/-- .. and the tables of the lambdas' makers are empty -/
def obsPG (n : Nat) (fa : List He.Fa) (fn : List He.DefD) (ts : List Str) (bl : List Str) (xt : XtD) (g : Addr → Option Obj) : He.AlD :=
  ((obsP fa fn ts bl xt (frL g (He.asD g n))).1 && (csOf (frL g (He.asD g n)) xt.mks).all fun p => tblB g p.2, (obsP fa fn ts bl xt (frL g (He.asD g n))).2)
def hookP (n : Nat) (fa : List He.Fa) (fn : List He.DefD) (ts : List Str) (bl : List Str) (xt : XtD) : PySem.W.Hook where
  α := He.AlD
  obs := fun s => obsPG n fa fn ts bl xt s.heap.get?
  val := fun _ => He.valD fn
  says := fun _ h => ∃ K : PySem.W.Frag, K.In h ∧ SaysP fa fn ts bl xt K ∧ NoL K ∧ ∀ p ∈ csOf K xt.mks, h.get? p.2 = some { cls := .none, data := .fields #[] }
  of := fun _ s e => by
    have e1 := congrArg (fun z : He.AlD => z.1) e
    have e2 := congrArg (fun z : He.AlD => z.2) e
    have e1 : ((obsP fa fn ts bl xt (frL s.heap.get? (He.asD s.heap.get? n))).1 && (csOf (frL s.heap.get? (He.asD s.heap.get? n)) xt.mks).all fun p => tblB s.heap.get? p.2) = true := e1
    rw [Bool.and_eq_true] at e1
    exact ⟨frL s.heap.get? (He.asD s.heap.get? n), fun _ _ e => (frL_at e).1, Prod.ext e1.1 e2, fun _ _ e => (frL_at e).2, fun p hp => tblB_ok (List.all_eq_true.mp e1.2 p hp)⟩
  keeps := fun _ _ _ ⟨K, hK, c, n, t⟩ k => ⟨K, PySem.W.Frag.In.keeps hK k, c, n, fun p hp => k _ _ (t p hp)⟩
theorem obsPG_eq {n : Nat} {fa : List He.Fa} {fn : List He.DefD} {ts : List Str} {bl : List Str} {xt : XtD} {g : Addr → Option Obj} {s : Shared} (h : ∀ a, g a = s.heap.get? a) : obsPG n fa fn ts bl xt g = (hookP n fa fn ts bl xt).obs s := by
  have e : g = s.heap.get? := funext h
  rw [e] <;> rfl
section
variable {fa : List He.Fa} {fn : List He.DefD} {ts : List Str} {bl : List Str} {xt : XtD} {K : PySem.W.Frag}
theorem SaysP.all (c : SaysP fa fn ts bl xt K) : (∀ f ∈ fa, f.ok K = true) ∧ (∀ d ∈ fn, d.ok K = true) ∧ (∀ x ∈ ts, tupE K x = true) ∧ xtB K bl xt = true := by
  have c1 : ((fa.all fun f => f.ok K) && ((fn.all fun d => d.ok K) && ((ts.all fun x => tupE K x) && xtB K bl xt))) = true := congrArg (fun z : He.AlD => z.1) c
  rw [Bool.and_eq_true, Bool.and_eq_true, Bool.and_eq_true] at c1
  exact ⟨List.all_eq_true.mp c1.1, List.all_eq_true.mp c1.2.1, List.all_eq_true.mp c1.2.2.1, c1.2.2.2⟩
theorem SaysP.def_ (c : SaysP fa fn ts bl xt K) (i : Nat) {d : He.DefD} (h : fn[i]? = some d) : ∃ fd, FunD K d.name d.qual d.params d.body d.scope (d.dvs K) (d.kws K) (He.fAd K d.at_) fd := by
  have e : fn.map (fun d => He.fnW K d.at_) = fn.map He.DefD.val := congrArg (fun z : He.AlD => z.2) c
  have e2 : (fn.map fun d => He.fnW K d.at_)[i]? = (fn.map He.DefD.val)[i]? := by rw [e]
  rw [List.getElem?_map, List.getElem?_map, h] at e2
  exact He.DefD.funD (Option.some.inj e2) (c.all.2.1 d (List.mem_of_getElem? h))
end

/-! ### the defs of a module -/
/-- a def: its text; has it a default (the empty tuple, for its last parameter) -/
structure DefP where
  d : DefI
  dfl : Bool
def DefP.toD (p : DefP) : He.DefD := ⟨(p.d.name, none), p.d.name, p.d.qual, p.d.params, p.d.body, p.d.scope, if p.dfl then [.adr (He.dflAt (p.d.name, none) 0)] else [], []⟩
def DefP.dvs (K : PySem.W.Frag) (p : DefP) : List V := if p.dfl then [.ref (He.dflAt (p.d.name, none) 0 K)] else []
theorem DefP.dvs_eq (K : PySem.W.Frag) (p : DefP) : p.toD.dvs K = p.dvs K := by
  unfold DefP.toD DefP.dvs He.DefD.dvs
  cases p.dfl <;> rfl
/-- its scope is that of a plain def -/
def scB (d : DefI) : Bool := decide (d.scope.kind = .function) && (!d.scope.isCoroutine && (!d.scope.isGenerator && (decide d.N.Nodup && (decide (d.N.take d.ps.length = d.ps) &&
  ((d.ps.all fun x => decide (d.scope.names.lookup x = some .local) || decide (d.scope.names.lookup x = some .cell)) && d.scope.names.all fun y => !decide (y.2 = .free))))))
theorem scB_ok {d : DefI} (h : scB d = true) : FnScope d.N d.ps d.scope := by
  unfold scB at h
  simp only [Bool.and_eq_true, decide_eq_true_eq, Bool.not_eq_true', List.all_eq_true, Bool.or_eq_true] at h
  obtain ⟨h1, h2, h3, h4, h5, h6, h7⟩ := h
  exact ⟨h1, h2, h3, h4, h5, h6, fun y hy e => by have := h7 y hy; rw [e] at this; simp at this⟩
/-- what calls a table's row tells: by which def, how it binds -/
structure Row where
  f : Nat
  n : Nat
  ks : List Str
  tpl : List (Nat ⊕ Nat)
def Row.callT (ps : List DefP) (r : Row) : CallT := match ps[r.f]? with
  | some p => ⟨r.f, p.d.name, r.n, r.ks, ordW (if p.dfl then [.tuple []] else []) r.tpl⟩
  | none => ⟨r.f, "", r.n, r.ks, []⟩
/-- the row's binding, by computing -/
def RowB (p : DefP) (r : Row) : Prop := if p.dfl then
    ∀ (T : Addr) (kV doc pm : Value) (an : Option Addr) (cdv ct : Value) (us its ws : List Value), us.length = r.n → its.length = 1 → ws.length = r.ks.length →
      ∃ k, bindArgs (PySem.W.fnOf p.d.name p.d.qual p.d.params p.d.body p.d.scope (.ref T) kV doc pm an cdv ct) ⟨us, r.ks.zip ws⟩ = seqItems? (.ref T) >>= k ∧ k (some its.toArray) = pure (p.d.ps.zip (pick (us ++ ws) (ordW its r.tpl)))
  else ∀ (kV doc pm : Value) (an : Option Addr) (cdv ct : Value) (us ws : List Value), us.length = r.n → ws.length = r.ks.length → bindArgs (PySem.W.fnOf p.d.name p.d.qual p.d.params p.d.body p.d.scope .none kV doc pm an cdv ct) ⟨us, r.ks.zip ws⟩ = pure (p.d.ps.zip (pick (us ++ ws) (ordW [] r.tpl)))
theorem ordW_R {K : PySem.W.Frag} {ds : List V} {es : List D} (h : Paired (KD K) ds es) : ∀ (o : List (Nat ⊕ Nat)), OrdR (KD K) (ordW ds o) (ordW es o)
  | [] => .nil
  | .inl j :: r => .at j (ordW_R h r)
  | .inr j :: r => by
    unfold ordW
    cases q : es[j]? with
    | none =>
      have : ds[j]? = none := by
        rw [List.getElem?_eq_none_iff] at q ⊢
        rw [Paired.len h]; exact q
      rw [this]
      exact ordW_R h r
    | some e =>
      obtain ⟨d, h1, h2⟩ := Paired.get1 h q
      rw [h1]
      exact .dfl h2 (ordW_R h r)
/-- constants of the module: ints and texts -/
def gOk : Str × D → Bool
  | (_, .int _) => true
  | (_, .str _) => true
  | _ => false
def gFa : Str × D → He.Fa
  | (x, .int i) => .int x i
  | (x, .str z) => .str x z
  | (x, _) => .free x
/-- such a def, by its text -/
structure OcS (ps : List DefP) (xt : XtD) (o : OcD) : Prop where
  ex : ∃ (p pr : DefP) (r : Str) (es : List Expr), ps[o.fo]? = some p ∧ (p.d.name = o.name ∧ p.d.qual = o.name ∧ p.dfl = false ∧ p.d.N = [o.wrk, o.fnd, o.cgt, o.err] ∧ p.d.ps = [o.wrk]) ∧ OutShape o.wrk o.fnd o.cgt o.err o.rsd es p.d.scope p.d.body ∧ Paired (fun (e : Expr) x => ∃ q, e = .Name x q) es o.cls ∧
    (p.d.scope.names.lookup o.wrk = some .local ∧ p.d.scope.names.lookup o.fnd = some .local ∧ p.d.scope.names.lookup o.cgt = some .local ∧ p.d.scope.names.lookup o.err = some .local) ∧ (plainName o.wrk ∧ plainName o.fnd ∧ plainName o.cgt ∧ plainName o.err) ∧
    ((o.cls.all fun x => decide (p.d.scope.names.lookup x = some .globalImplicit) && (!(x == ("__debug__" : Str)) && (xt.ecs.map (·.name)).contains x)) = true ∧ o.cls.length ≤ 1000) ∧
    (p.d.scope.names.lookup o.rsd = some .globalImplicit ∧ (o.rsd == ("__debug__" : Str)) = false) ∧ ps[o.fr]? = some pr ∧ (pr.d.name = o.rsd ∧ pr.d.ps = [r] ∧ pr.dfl = false) ∧
    (∀ (kV doc pm : Value) (an : Option Addr) (cdv ct : Value) (us : List Value), us.length = [o.wrk].length → bindArgs (PySem.W.fnOf p.d.name p.d.qual p.d.params p.d.body p.d.scope .none kV doc pm an cdv ct) ⟨us, []⟩ = pure ([o.wrk].zip us)) ∧
    ∀ (kV doc pm : Value) (an : Option Addr) (cdv ct : Value) (us : List Value), us.length = [r].length → bindArgs (PySem.W.fnOf pr.d.name pr.d.qual pr.d.params pr.d.body pr.d.scope .none kV doc pm an cdv ct) ⟨us, []⟩ = pure ([r].zip us)
theorem out_mk {wrk fnd cgt err rsd : Str} {es : List Expr} {sg : Scope} {p1 p2 p3 p4 p5 p6 p7 p8 p9 p10 p11 p12 p13 p14 p15 p16 p17 p18 p19 p20 p21 p22 p23 p24 p25 p26 : Pos} {k1 k2 k3 k4 k5 k6 : Nat} (hk : sg.kind = .function) (hs : swP sg [.Name fnd p1, .Name cgt p2] [.Constant .none k2 p4, .Constant .none k3 p5] = .none) : OutShape wrk fnd cgt err rsd es sg
  [.Assign [.Tuple [.Name fnd p1, .Name cgt p2] k1 p3] (.Tuple [.Constant .none k2 p4, .Constant .none k3 p5] k4 p6) p7,
   .Try [.Assign [.Name fnd p8] (.Call (.Name wrk p9) [] [] p10) p11] [.ExceptHandler (some (.Tuple es k5 p12)) (some err) [.Assign [.Name cgt p13] (.Name err p14) p15] p16] [] [] p17,
   .Return (some (.IfExp (.Compare (.Name cgt p18) [.Is] [.Constant .none k6 p19] p20) (.Name fnd p21) (.Call (.Name rsd p22) [.Name cgt p23] [] p24) p25)) p26] := by
  refine ⟨p1, p2, p3, p4, p5, p6, p7, p8, p9, p10, p11, p12, p13, p14, p15, p16, p17, p18, p19, p20, p21, p22, p23, p24, p25, p26, k1, k2, k3, k4, k5, k6, rfl, fun env he => ?_⟩
  have q := sw_eq (env := env) (by rw [he]; exact hk) (ts := [.Name fnd p1, .Name cgt p2]) (vs := [.Constant .none k2 p4, .Constant .none k3 p5]) (k := k1) (k2 := k4) (p := p3) (p2 := p6)
  rw [he, hs] at q
  exact q
structure Facts (ps : List DefP) (F : List Fn) (bl : List Str) (rows : List Row) (gs : List (Str × D)) (xt : XtD) : Prop where
  es : ∀ d ∈ xt.ecs, EcS d ∧ Str.ofString d.base ∈ bl ∧ bl.contains d.name = false
  isn : (xt.isa.all fun p => (bl.contains p.1 && !decide (p.1 = ("__name__" : Str))) || (!bl.contains p.1 && (xt.ecs.map (·.name)).contains p.1)) = true
  fl : (xt.fld.all fun p => p.2.all fun k => match xt.ecs[k]? with
    | some d => decide (d.fld = p.1)
    | none => false) = true
  oc : ∀ o ∈ xt.outs, OcS ps xt o
  mkr : ∀ (f : Nat) (p : DefP) (q : Str), ps[f]? = some p → p.d.lam = some q → p.d.qual ++ ".<locals>." ++ "<lambda>" = q ∧ ∃ i : Nat, xt.mks[i]? = some (p.d.name, q)
  mn : (xt.mks.map (·.2)).Nodup
  gk : gs.all gOk = true
  sc : ps.all (fun p => scB p.d) = true
  rw_ : ∀ r ∈ rows, ∃ p, ps[r.f]? = some p ∧ RowB p r ∧ (ordW (α := D) (if p.dfl then [.tuple []] else []) r.tpl).length = p.d.ps.length
  chk : ∀ (f : Nat) (p : DefP) (fn : Fn), ps[f]? = some p → F[f]? = some fn → fn.slots = p.d.N.length ∧ chkSs (staOf p.d bl (rows.map (Row.callT ps)) gs xt.exT) fn.body p.d.body = true
def facA (ps : List DefP) (bl : List Str) (gs : List (Str × D)) (xt : XtD) : List He.Fa := (((ps.map (fun p => .glo p.d.name) ++ bl.map .free) ++ gs.map gFa)) ++ xt.ecs.map fun d => .glo d.name
def fnA (ps : List DefP) (xt : XtD) : List He.DefD := ps.map DefP.toD ++ xt.ecs.map EcD.toD
def tsA (ps : List DefP) : List Str := (ps.filter DefP.dfl).map fun p => p.d.name
theorem lookup_nd {f : Str → Addr} : ∀ {l : List (Str × Str)} {i : Nat} {x q : Str}, (l.map (·.2)).Nodup → l[i]? = some (x, q) → (l.map fun (m : Str × Str) => (m.2, f m.1)).lookup q = some (f x)
  | [], _, _, _, _, h => by simp at h
  | (y, z) :: l, 0, x, q, nd, h => by
    simp at h
    obtain ⟨h1, h2⟩ := h
    subst h1 h2
    simp [List.lookup]
  | (y, z) :: l, i + 1, x, q, nd, h => by
    rw [List.getElem?_cons_succ] at h
    have nd' : z ∉ l.map (·.2) ∧ (l.map (·.2)).Nodup := List.nodup_cons.mp nd
    have ne : (q == z) = false := by
      apply Bool.eq_false_iff.mpr
      intro e
      rw [← beq_iff_eq.mp e] at nd'
      exact nd'.1 (List.mem_map.mpr ⟨(x, q), List.mem_of_getElem? h, rfl⟩)
    show (match q == z with
      | true => some (f y)
      | false => (l.map fun (m : Str × Str) => (m.2, f m.1)).lookup q) = _
    rw [ne]
    exact lookup_nd nd'.2 h
theorem modH {ps : List DefP} {F : List Fn} {bl : List Str} {rows : List Row} {gs : List (Str × D)} {xt : XtD} (fx : Facts ps F bl rows gs xt) {K : PySem.W.Frag} {h : Heap} {mg : Str → Option Value} (X : K.In h) (Gn : h.Ns mainGlobals mg) (c : SaysP (facA ps bl gs xt) (fnA ps xt) (tsA ps) bl xt K) :
    ∃ fd : Nat → FuncData, ModH (moOf K xt) (gs.map (·.2)) K mg (ps.map DefP.d) F (fun f => match ps[f]? with
      | some p => He.ga K p.d.name
      | none => 0) fd bl (rows.map (Row.callT ps)) gs xt.exT (csOf K xt.mks) ∧ ∀ f p, ps[f]? = some p → FunD K p.d.name p.d.qual p.d.params p.d.body p.d.scope (p.dvs K) [] (He.ga K p.d.name) (fd f) := by
  have hd : ∀ (f : Nat) (p : DefP), ps[f]? = some p → ∃ fd, FunD K p.d.name p.d.qual p.d.params p.d.body p.d.scope (p.dvs K) [] (He.ga K p.d.name) fd := fun f p hp => by
    obtain ⟨fd, h1⟩ := c.def_ f (d := p.toD) (by unfold fnA; rw [List.getElem?_append_left (by rw [List.length_map]; exact (List.getElem?_eq_some_iff.mp hp).1), List.getElem?_map, hp]; rfl)
    rw [p.dvs_eq] at h1
    exact ⟨fd, h1⟩
  have hmap : ∀ (f : Nat) (d : DefI), (ps.map DefP.d)[f]? = some d → ∃ p, ps[f]? = some p ∧ p.d = d := fun f d hf => by
    rw [List.getElem?_map] at hf
    cases q : ps[f]? with
    | none => rw [q] at hf; cases hf
    | some p => rw [q] at hf; cases hf; exact ⟨p, rfl, rfl⟩
  have hex : ∀ f : Nat, ∃ fd : FuncData, ∀ p, ps[f]? = some p → FunD K p.d.name p.d.qual p.d.params p.d.body p.d.scope (p.dvs K) [] (He.ga K p.d.name) fd := fun f => by
    cases hp : ps[f]? with
    | none => exact ⟨default, fun p z => nomatch z⟩
    | some p =>
      obtain ⟨fd, h1⟩ := hd f p hp
      exact ⟨fd, fun p' z => by cases z; exact h1⟩
  obtain ⟨fd, hfd⟩ : ∃ fd : Nat → FuncData, ∀ (f : Nat) (p : DefP), ps[f]? = some p → FunD K p.d.name p.d.qual p.d.params p.d.body p.d.scope (p.dvs K) [] (He.ga K p.d.name) (fd f) := ⟨fun f => Classical.choose (hex f), fun f p hp => Classical.choose_spec (hex f) p hp⟩
  have hx : xtB K bl xt = true := c.all.2.2.2
  unfold xtB at hx
  rw [Bool.and_eq_true, Bool.and_eq_true, Bool.and_eq_true, Bool.and_eq_true] at hx
  obtain ⟨x1, x2, x3, x4, x5⟩ := hx
  have ecF : ∀ (k : Nat) (d : EcD), xt.ecs[k]? = some d → EcFx K d ∧ mg d.name = some (.ref (d.C K)) ∧ (moOf K xt).excs[k]? = some (d.C K, some d.fld) := fun k d hk => by
    have hm := List.mem_of_getElem? hk
    refine ⟨EcD.fx (List.all_eq_true.mp x1 d hm), ?_, ?_⟩
    · exact He.glo_ok X Gn (c.all.1 _ (List.mem_append_right _ (List.mem_map.mpr ⟨d, hm, rfl⟩)))
    · show (xt.ecs.map fun d => (d.C K, some d.fld))[k]? = _
      rw [List.getElem?_map, hk]
      rfl
  have ecM : ∀ x, (xt.ecs.map (·.name)).contains x = true → mg x = some (.ref (He.ga K x)) := fun x hx => by
    obtain ⟨d, hm, rfl⟩ := List.mem_map.mp (List.contains_iff_mem.mp hx)
    exact He.glo_ok X Gn (c.all.1 _ (List.mem_append_right _ (List.mem_map.mpr ⟨d, hm, rfl⟩)))
  have blM : ∀ x ∈ bl, mg x = none := fun x hx => He.free_ok X Gn (c.all.1 _ (List.mem_append_left _ (List.mem_append_left _ (List.mem_append_right _ (List.mem_map.mpr ⟨x, hx, rfl⟩)))))
  refine ⟨fd, ⟨fun f d hf => ?_, fun f d hf => ?_, fun f d hf => ?_, fun x hx => ?_, fun t ht => ?_, fun k x d hk => ⟨by rw [List.getElem?_map, hk]; rfl, ?_⟩, fun f d fn hf hfn => ?_, fun p hp => ?_, fun p hp k hk => ?_, fun k x hk cn cM cK cm room gd g hdb => ?_, fun f d q hf hq => ?_, fun p hp => ?_⟩, hfd⟩
  · obtain ⟨p, hp, rfl⟩ := hmap f d hf
    have := hfd f p hp
    simp only [hp]
    exact ⟨_, this⟩
  · obtain ⟨p, hp, rfl⟩ := hmap f d hf
    simp only [hp]
    exact He.glo_ok X Gn (c.all.1 _ (List.mem_append_left _ (List.mem_append_left _ (List.mem_append_left _ (List.mem_map.mpr ⟨p, List.mem_of_getElem? hp, rfl⟩)))))
  · obtain ⟨p, hp, rfl⟩ := hmap f d hf
    exact scB_ok (List.all_eq_true.mp fx.sc p (List.mem_of_getElem? hp))
  · exact blM x hx
  · obtain ⟨r, hr, rfl⟩ := List.mem_map.mp ht
    obtain ⟨p, hp, hb, hl⟩ := fx.rw_ r hr
    have hF := hfd r.f p hp
    have e0 : r.callT ps = ⟨r.f, p.d.name, r.n, r.ks, ordW (if p.dfl then [.tuple []] else []) r.tpl⟩ := by unfold Row.callT; rw [hp]
    rw [e0]
    unfold RowB at hb
    cases hdf : p.dfl with
    | false =>
      rw [hdf, if_neg Bool.false_ne_true] at hb
      have hF' : FunD K p.d.name p.d.qual p.d.params p.d.body p.d.scope [] [] (He.ga K p.d.name) (fd r.f) := by
        have := hF
        unfold DefP.dvs at this
        rw [hdf, if_neg Bool.false_ne_true] at this
        exact this
      refine ⟨p.d, ordW [] r.tpl, ordW [] r.tpl, by rw [List.getElem?_map, hp]; rfl, rfl, kbn_all hF' r.tpl hb, ?_, ?_⟩
      · exact ordW_R .nil r.tpl
      · rw [hdf] at hl
        exact hl
    | true =>
      rw [hdf, if_pos rfl] at hb
      have hF' : FunD K p.d.name p.d.qual p.d.params p.d.body p.d.scope [.ref (He.dflAt (p.d.name, none) 0 K)] [] (He.ga K p.d.name) (fd r.f) := by
        have := hF
        unfold DefP.dvs at this
        rw [hdf, if_pos rfl] at this
        exact this
      obtain ⟨its, kb⟩ := kbn_dfl hF' (by simp) r.tpl hb
      refine ⟨p.d, ordW _ r.tpl, ordW its r.tpl, by rw [List.getElem?_map, hp]; rfl, rfl, kb, ?_, ?_⟩
      · exact ordW_R (.cons (tupE_ok (c.all.2.2.1 _ (List.mem_map.mpr ⟨p, List.mem_filter.mpr ⟨List.mem_of_getElem? hp, hdf⟩, rfl⟩))) .nil) r.tpl
      · rw [hdf] at hl
        exact hl
  · have hm := List.mem_of_getElem? hk
    have hf := c.all.1 _ (List.mem_append_left _ (List.mem_append_right _ (List.mem_map.mpr ⟨(x, d), hm, rfl⟩)))
    have ho := List.all_eq_true.mp fx.gk _ hm
    cases d with
    | int i =>
      obtain ⟨t, e⟩ := He.int_ok X Gn (x := x) (i := i) hf
      exact ⟨_, .int i, e, ⟨t, rfl⟩, fun H W => .int i⟩
    | str z =>
      obtain ⟨t, e⟩ := He.str_ok X Gn (x := x) (z := z) hf
      exact ⟨_, .str z, e, ⟨t, rfl⟩, fun H W => .str z⟩
    | _ => cases ho
  · obtain ⟨p, hp, rfl⟩ := hmap f d hf
    exact fx.chk f p fn hp hfn
  · -- isinstance
    have hb := List.all_eq_true.mp x2 p hp
    have hn := List.all_eq_true.mp fx.isn p hp
    unfold isaB at hb
    cases hv : isaV K bl p.1 with
    | none => rw [hv] at hb; cases hb
    | some cv =>
      rw [hv] at hb
      dsimp only at hb
      rw [Bool.and_eq_true] at hb
      obtain ⟨b1, b2⟩ := hb
      have at_ : mg p.1 = some cv ∨ (mg p.1 = none ∧ bootBuiltins p.1 = some cv ∧ p.1 ≠ "__name__") := by
        unfold isaV at hv
        by_cases hbl : bl.contains p.1 = true
        · rw [if_pos hbl] at hv
          rw [hbl] at hn
          have nn : p.1 ≠ "__name__" := by simpa using hn
          exact .inr ⟨blM _ (List.contains_iff_mem.mp hbl), hv, nn⟩
        · rw [if_neg hbl] at hv
          cases hv
          have hbf : bl.contains p.1 = false := by simpa using hbl
          rw [hbf] at hn
          exact .inl (ecM _ (by simpa using hn))
      have ks : ∀ (k : Nat) (b : Bool), p.2[k]? = some b → ∃ C fl, (moOf K xt).excs[k]? = some (C, fl) ∧ ExcC K C ∧ PySem.W.kitOne K (.ref C) cv = some b := fun k b hk => by
        have := List.all_eq_true.mp b2 k (List.mem_range.mpr (List.getElem?_eq_some_iff.mp hk).1)
        cases he : xt.ecs[k]? with
        | none => rw [he] at this; cases this
        | some d =>
          rw [he, hk] at this
          obtain ⟨f1, _, f3⟩ := ecF k d he
          exact ⟨_, _, f3, f1.ec, of_decide_eq_true this⟩
      cases cv with
      | type n => exact ⟨.ty n, .type n, rfl, fun u h => h, at_, ks⟩
      | ref a => exact ⟨.ref a, .ref a, rfl, fun u h => h, at_, ks⟩
      | _ => cases b1
  · have hb := List.all_eq_true.mp (List.all_eq_true.mp fx.fl p hp) k hk
    cases he : xt.ecs[k]? with
    | none => rw [he] at hb; cases hb
    | some d =>
      rw [he] at hb
      have e := of_decide_eq_true hb
      obtain ⟨f1, _, f3⟩ := ecF k d he
      rw [← e]
      exact ⟨_, f3, f1.xf, f1.no⟩
  · have hk : (xt.ecs.map (·.name))[k]? = some x := hk
    rw [List.getElem?_map] at hk
    cases he : xt.ecs[k]? with
    | none => rw [he] at hk; cases hk
    | some d =>
      rw [he] at hk
      cases hk
      obtain ⟨f1, f2, f3⟩ := ecF k d he
      obtain ⟨es, eb, _⟩ := fx.es d (List.mem_of_getElem? he)
      obtain ⟨fdI, FD⟩ := c.def_ (ps.length + k) (d := d.toD) (by unfold fnA; rw [List.getElem?_append_right (by rw [List.length_map]; omega), List.length_map, Nat.add_sub_cancel_left, List.getElem?_map, he]; rfl)
      exact ec_raise es f1 FD (blM _ eb) f2 f3 cn cM cK cm room gd g hdb
  · obtain ⟨p, hp, rfl⟩ := hmap f d hf
    obtain ⟨e1, i, hi⟩ := fx.mkr f p q hp hq
    refine ⟨e1, fun cd hcd => ?_⟩
    obtain ⟨dV, kV, doc, pm, an, ct, efd⟩ := hcd
    obtain ⟨oc, od, dV', kV', doc', pm', an', cdv', ct', osl, efd', lk, _⟩ := (hfd f p hp).ex
    have hmk := List.all_eq_true.mp x4 _ (List.mem_of_getElem? hi)
    unfold mkB at hmk
    rw [Bool.and_eq_true] at hmk
    have h2 := hmk.2
    dsimp only at h2
    rw [lk] at h2
    dsimp only at h2
    have ecd := of_decide_eq_true h2
    rw [efd] at ecd
    have ecd : cd = .ref (codeAt K p.d.name) := ecd
    refine ⟨(codeAt K p.d.name, tabAt K p.d.name), List.mem_map.mpr ⟨_, List.mem_of_getElem? hi, rfl⟩, ecd, ?_⟩
    show (xt.mks.map fun m => (m.2, tabAt K m.1)).lookup q = _
    exact lookup_nd fx.mn hi
  · obtain ⟨o, ho, rfl⟩ := List.mem_map.mp hp
    obtain ⟨p, pr, r, es, hp, ⟨n1, n2, n3, n4, n5⟩, shape, hes, locs, plains, ⟨hcl, hlen⟩, ⟨r1, r2⟩, hpr, ⟨m1, m2, m3⟩, b1, b2⟩ := (fx.oc o ho).ex
    refine ⟨pr.d, by rw [List.getElem?_map, hpr]; rfl, fun P w base fc k F => ?_⟩
    have FDo := hfd o.fo p hp
    have FDr := hfd o.fr pr hpr
    unfold DefP.dvs at FDo FDr
    rw [n3, if_neg Bool.false_ne_true] at FDo
    rw [m3, if_neg Bool.false_ne_true] at FDr
    have Bo : Binds K (fd o.fo) [o.wrk] [] := fun s us _ hl => by
      rw [List.append_nil] at hl ⊢
      exact FunD.bindsA (ps := [o.wrk]) FDo b1 s us hl
    have Br : Binds K (fd o.fr) [r] [] := fun s us _ hl => by
      rw [List.append_nil] at hl ⊢
      exact FunD.bindsA (ps := [r]) FDr b2 s us hl
    have Fn : FnScope [o.wrk, o.fnd, o.cgt, o.err] [o.wrk] p.d.scope := by
      have := scB_ok (List.all_eq_true.mp fx.sc p (List.mem_of_getElem? hp))
      rw [n4, n5] at this
      exact this
    have gO : mg o.name = some (.ref (He.ga K p.d.name)) := by
      rw [← n1]
      exact He.glo_ok X Gn (c.all.1 _ (List.mem_append_left _ (List.mem_append_left _ (List.mem_append_left _ (List.mem_map.mpr ⟨p, List.mem_of_getElem? hp, rfl⟩)))))
    have gR : mg o.rsd = some (.ref (He.ga K pr.d.name)) := by
      rw [← m1]
      exact He.glo_ok X Gn (c.all.1 _ (List.mem_append_left _ (List.mem_append_left _ (List.mem_append_left _ (List.mem_map.mpr ⟨pr, List.mem_of_getElem? hpr, rfl⟩)))))
    have F' : FnG P w K mg base (L2.CX P w) k (He.ga K pr.d.name) (fd o.fr) [r] (FnSp (moOf K xt) K fc 1) := by
      have := F
      simp only [hpr] at this
      rw [m2] at this
      exact this
    have names : Paired (fun (e : Expr) c => ∃ y p', e = .Name y p' ∧ p.d.scope.names.lookup y = some .globalImplicit ∧ (y == ("__debug__" : Str)) = false ∧ mg y = some c) es (o.cls.map fun x => .ref (He.ga K x)) := by
      have all := List.all_eq_true.mp hcl
      clear shape hcl hlen
      revert all
      generalize o.cls = l at hes
      induction hes with
      | nil => exact fun _ => .nil
      | @cons e x es l hd tl ih =>
        intro all
        obtain ⟨q, rfl⟩ := hd
        have h := all x List.mem_cons_self
        rw [Bool.and_eq_true, Bool.and_eq_true] at h
        exact .cons ⟨x, q, rfl, of_decide_eq_true h.1, by simpa using h.2.1, ecM x h.2.2⟩ (ih fun y hy => all y (List.mem_cons_of_mem _ hy))
    have FDo' : FunD K o.name o.name p.d.params p.d.body p.d.scope [] [] (He.ga K p.d.name) (fd o.fo) := by
      rw [← n1] at n2 ⊢
      have := FDo
      rw [n2] at this
      exact this
    refine ⟨He.ga K p.d.name, He.ga K pr.d.name, fd o.fo, fd o.fr, o.wrk, o.fnd, o.cgt, o.err, o.rsd, r, p.d.scope, p.d.params, p.d.body, es, o.cls.map fun x => .ref (He.ga K x), FDo', shape, Fn, gO, Bo, locs, plains, ⟨names, by rw [List.length_map]; exact hlen⟩, ⟨r1, r2, gR, FDr.kp, Br, F'⟩, fun j hj => ?_⟩
    have hb := List.all_eq_true.mp (List.all_eq_true.mp x3 o ho) j hj
    cases he : xt.ecs[j]? with
    | none => rw [he] at hb; cases hb
    | some d =>
      rw [he] at hb
      obtain ⟨_, _, f3⟩ := ecF j d he
      exact ⟨_, _, f3, of_decide_eq_true hb⟩

/-! ### a law -/
/-- the law's def, called with the script: the script and the empty tables are tracked -/
theorem law_callG {P : Program} {w : World} {K : PySem.W.Frag} {mg mb : Str → Option Value} {CX : CXT} {k : Nat} {fa a : Addr} {tbs : List (Addr × Addr)} {fd : FuncData} {x : Str} {sp : Sp} {s : Shared} {vs : List Value} {ns : List Int}
    (inK : K.In s.heap) (glo : s.heap.Ns mainGlobals mg) (bui : s.heap.Ns builtinsNs mb) (boot : ∀ x : Str, x ≠ "__name__" → mb x = bootBuiltins x) (noLim : s.heap.NoLimit) (gens : s.gens = #[])
    (tabE : ∀ p ∈ tbs, s.heap.get? p.2 = some { cls := .none, data := .fields #[] }) (tabK : ∀ p ∈ tbs, K.lookup p.2 = none) (heads : ∀ p ∈ tbs, PySem.W.CodeHd s.heap p.1 p.2)
    (bmod : ∃ (bm : Addr) (ob : Obj), mg "__builtins__" = some (.ref bm) ∧ bm ≠ builtinsNs ∧ s.heap.get? bm = some ob ∧ ob.cls = .type "module" ∧ ob.dict = some builtinsNs ∧ ob.data = .plain)
    (atA : s.heap.get? a = some { cls := .type "list", data := .seq vs.toArray }) (hints : IntsAre vs ns) (len : ns.length ≤ sizeLine) (room : Room k callerA) (free : K.lookup a = none)
    (F : ∀ base : Heap, K.In base → base.Ns mainGlobals mg → (∀ p ∈ tbs, LamX.TabB base mg p.1 p.2) → FnG P w K mg base CX k fa fd [x] sp) (bind : ∀ (s : Shared) (u : Value), BindsTo s fd ⟨[u], []⟩ [(x, u)])
    (prom : ∀ H : Hp, (∀ p ∈ tbs, H p.2 = some (.tbl #[])) → SqL K H a (ns.map V.int) → sp [.ref a] H (fun v _ => v = .bl true) fun _ _ _ => False)
    (none_ : ∀ H e s', CX [] H s (fun _ _ _ => False) e s' → False) :
    codeAny (model P w) callerA (.call (.ref fa) ⟨[.ref a], []⟩) (fun r s' => r = .ok (.ret (.bool true)) ∧ OldK s.heap s'.heap ∧ s'.os = s.os ∧ AllBare s'.gens) s := by
  obtain ⟨T, hT⟩ : ∃ T : List Addr, T = tbs.map (·.2) := ⟨_, rfl⟩
  have inT : ∀ b, b ∈ T → ∃ p ∈ tbs, p.2 = b := fun b hb => by
    rw [hT] at hb
    exact List.mem_map.mp hb
  have atT : ∀ b, b ∈ T → s.heap.get? b = some { cls := .none, data := .fields #[] } := fun b hb => by
    obtain ⟨p, hp, e⟩ := inT b hb
    rw [← e]
    exact tabE p hp
  have aT : a ∉ T := fun z => by
    have q := (atT a z).symm.trans atA
    cases q
  obtain ⟨H, hH⟩ : ∃ H : Hp, H = fun b => if b = a then some (.frz { cls := .type "list", data := .seq vs.toArray } (.lst (ns.map V.int))) else if b ∈ T then some (.tbl #[]) else none := ⟨_, rfl⟩
  have Ha : H a = some (.frz { cls := .type "list", data := .seq vs.toArray } (.lst (ns.map V.int))) := by rw [hH]; exact if_pos rfl
  have Ht : ∀ b, b ∈ T → H b = some (.tbl #[]) := fun b hb => by
    rw [hH]
    exact (if_neg (fun z => aT (by rw [← z]; exact hb))).trans (if_pos hb)
  have Hn : ∀ b, b ≠ a → b ∉ T → H b = none := fun b n1 n2 => by
    rw [hH]
    exact (if_neg n1).trans (if_neg n2)
  have ok : HOk P w H s.heap := fun b u e => by
    by_cases n : b = a
    · subst n
      rw [Ha] at e
      cases e
      exact ⟨atA, by rw [List.length_map]; exact len, vs, _, vals_ints hints, atA⟩
    · by_cases t : b ∈ T
      · rw [Ht b t] at e
        cases e
        exact atT b t
      · rw [Hn b n t] at e; cases e
  have inB : ∀ {b : Addr} {o : Obj}, s.heap.get? b = some o → b ≠ a → b ∉ T → (hidT s.heap H).get? b = some o := fun e n t => hidT_get e (Hn _ n t)
  have other : ∀ {b : Addr} {o : Obj}, s.heap.get? b = some o → (∀ vs n, o.data ≠ .seq vs n) → o.data ≠ .fields #[] → (hidT s.heap H).get? b = some o := fun {b o} e n1 n2 => by
    refine inB e (fun z => ?_) fun z => ?_
    · rw [z, atA] at e
      cases e
      exact n1 _ _ rfl
    · rw [atT b z] at e
      cases e
      exact n2 rfl
  have nsB : ∀ {b : Addr} {m : Str → Option Value}, s.heap.Ns b m → (hidT s.heap H).Ns b m := fun {b m} h => by
    obtain ⟨o, es, ep, e, d, r⟩ := h
    exact ⟨o, es, ep, other e (fun _ _ z => by rw [d] at z; cases z) (fun z => by rw [d] at z; cases z), d, r⟩
  have kB : K.In (hidT s.heap H) := fun b o e => inB (inK b o e) (fun n => by rw [n, free] at e; cases e) fun t => by
    obtain ⟨p, hp, ep⟩ := inT b t
    rw [← ep, tabK p hp] at e
    cases e
  have TB : ∀ p ∈ tbs, LamX.TabB (hidT s.heap H) mg p.1 p.2 := fun p hp => by
    refine ⟨?_, ?_, fun z => ?_⟩
    · obtain ⟨o, us, file, tf, flags, tg, inF, text, tt, c1, c0, c2, c3, c4⟩ := heads p hp
      exact ⟨o, us, file, tf, flags, tg, inF, text, tt, other c1 (fun _ _ z => by rw [c2] at z; cases z) (fun z => by
        rw [c2] at z
        cases z
        simp at c3), c0, c2, c3, c4⟩
    · obtain ⟨bm, ob, b1, b2, b3, b4, b5, b6⟩ := bmod
      refine ⟨bm, ob, b1, b2, fun z => ?_, fun z => ?_, other b3 (fun _ _ z => by rw [b6] at z; cases z) (fun z => by rw [b6] at z; cases z), b4, b5, b6⟩
      · obtain ⟨o, es, ep, e, d, _⟩ := glo
        rw [z, e] at b3
        cases b3
        rw [d] at b6
        cases b6
      · rw [z, tabE p hp] at b3
        cases b3
        cases b6
    · obtain ⟨o, es, ep, e, d, _⟩ := glo
      rw [z, tabE p hp] at e
      cases e
      cases d
  have env : Env0 P w K mg (hidT s.heap H) callerA [] s H :=
    ⟨rfl, ⟨kB, nsB glo, ⟨mb, nsB bui, boot⟩, let ⟨mc, q, r⟩ := noLim; ⟨mc, nsB q, r⟩⟩, fun b o e => of_hidT e, Nat.le_of_eq (hidT_size _ _), trivial, fun b h => (List.not_mem_nil h).elim, ok, .of_eq gens⟩
  refine codeAny_mono ((F _ kB (nsB glo) TB).run callerA [] s H ⟨[.ref a], []⟩ [.ref a] [.ref a] _ _ room rfl env (bind s (.ref a)) (.cons rfl .nil) (prom H (fun p hp => Ht p.2 (by rw [hT]; exact List.mem_map.mpr ⟨p, hp, rfl⟩)) (.inl (.inr ⟨_, Ha⟩)))) fun r s' done => ?_
  cases r with
  | error e => exact (none_ H e s' done).elim
  | ok fl =>
    cases fl with
    | ret u =>
      obtain ⟨v, H', os, bare, un, ok', rv, q⟩ := done
      have q : v = .bl true := q
      subst q
      have rv : u = Value.bool true := rv
      subst rv
      have same : ∀ b o, b ∉ T → s.heap.get? b = some o → s'.heap.get? b = some o := fun b o t e => by
        by_cases n : b = a
        · subst n
          rw [atA] at e
          cases e
          exact (ok' b _ (un.frzs b _ _ Ha)).1
        · exact un.keep b o e (Hn b n t) (fun z => (List.not_mem_nil z).elim) (fun z => (List.not_mem_nil z).elim)
      have more : ∀ b, b ∈ T → ∃ m : Array Value, s'.heap.get? b = some { cls := .none, data := .fields m } := fun b hb => by
        obtain ⟨m, z⟩ := un.tbls b #[] (Ht b hb)
        exact ⟨_, ok' b _ z⟩
      refine ⟨rfl, ⟨fun b o e => ?_, fun b o e => ?_⟩, os, bare⟩
      · by_cases t : b ∈ T
        · obtain ⟨m, z⟩ := more b t
          obtain ⟨p, hp, ep⟩ := inT b t
          subst ep
          rw [tabE p hp] at e
          cases e
          exact .inr (.inl ⟨((heads p hp).tab (tabE p hp)).isCodeTable, rfl, #[], m, rfl, by rw [Array.empty_append]; exact z⟩)
        · exact .inl (same b o t e)
      · by_cases t : b ∈ T
        · obtain ⟨m, z⟩ := more b t
          exact ⟨_, z⟩
        · exact ⟨o, same b o t e⟩
    | _ => exact (show False from done).elim
theorem walk_ofP {l : PySem.W.OpenLaw} {n k : Nat} {q : Program} {loose : List Str} {XP : (Str → Option Value) → Heap → Prop} {YP : World → Heap → Prop} {d : DefRec} {CX : World → CXT} {x : Str}
    (hn : l.most = some n) (hn2 : n ≤ sizeLine) (hdf : d.params.defaults = []) (hr : Room k callerA)
    (F : ∀ (w : World) (mg : Str → Option Value) (fa : Addr) (h : Heap), YP w h → h.Ns mainGlobals mg → mg d.name = some (.ref fa) →
      ∃ (K : PySem.W.Frag) (fd : FuncData) (sp : Sp) (tbs : List (Addr × Addr)), (K.In h ∧ NoL K) ∧ ((∀ p ∈ tbs, h.get? p.2 = some { cls := .none, data := .fields #[] }) ∧ ∀ p ∈ tbs, PySem.W.CodeHd h p.1 p.2) ∧ (∀ (s : Shared) (u : Value), BindsTo s fd ⟨[u], []⟩ [(x, u)]) ∧
        (∀ (H : Hp) (a : Addr) (ns : List Int), ns.length ≤ n → (∀ p ∈ tbs, H p.2 = some (.tbl #[])) → SqL K H a (ns.map V.int) → sp [.ref a] H (fun v _ => v = .bl true) fun _ _ _ => False) ∧
        ∀ base : Heap, K.In base → base.Ns mainGlobals mg → (∀ p ∈ tbs, LamX.TabB base mg p.1 p.2) → FnG l.prog w K mg base (CX w) k fa fd [x] sp)
    (hCX : ∀ (w : World) (H : Hp) (s : Shared) (e : Value) (s' : Shared), CX w [] H s (fun _ _ _ => False) e s' → False) :
    PySem.W.WalkO q loose XP YP l.row.toRowW d [] (fun f vs => PySem.call f vs) := by
  refine Att.attach_call hn hdf fun w s₀ s₁ mg mb fa o pm cd doc a vs ns Gd Y ho hd hcd hmg hobj hints hlen hg => ?_
  obtain ⟨K, fd, sp, tbs, ⟨KX, nl⟩, ⟨t1, t2⟩, hb, hsp, hF⟩ := F w mg fa _ Y Gd.T.g hmg
  have free : K.lookup a = none := by
    cases q : K.lookup a with
    | none => rfl
    | some o =>
      have e := KX a o q
      rw [hobj] at e
      cases e
      exact ((nl a _ q).1 rfl).elim
  have t3 : ∀ p ∈ tbs, K.lookup p.2 = none := fun p hp => by
    cases q : K.lookup p.2 with
    | none => rfl
    | some o =>
      have e := KX p.2 o q
      rw [t1 p hp] at e
      cases e
      exact ((nl p.2 _ q).2 rfl).elim
  exact law_callG KX Gd.T.g Gd.T.b Gd.T.builtins Gd.T.nolimit hg t1 t3 t2 Gd.T.bmain hobj hints (Nat.le_trans hlen hn2) hr free hF hb (fun H hO hS => hsp H a ns hlen hO hS) fun H e s' => hCX w H s₁ e s'
theorem ints_dq {K : PySem.W.Frag} {H : Hp} {W : Addr → Prop} : ∀ ns : List Int, DqAll K H W (ns.map V.int) (ns.map PyData.int)
  | [] => .nil
  | n :: ns => .cons (.int n) (ints_dq ns)
/-- the store that the law finds: the tables of its lambdas' makers -/
def tabsOf (xt : XtD) : Cels := xt.mks.map fun m => .tbl m.2
theorem law_walk {l : PySem.W.OpenLaw} {q : Program} {loose : List Str} {XP : (Str → Option Value) → Heap → Prop} {d : DefRec} {ps : List DefP} {F : List Fn} {bl : List Str} {rows : List Row} {gs : List (Str × D)} {xt : XtD} (fx : Facts ps F bl rows gs xt) {fL n N dp : Nat} {pL : DefP} {x : Str} (hL : ps[fL]? = some pL) (hps : pL.d.ps = [x]) (hdfl : pL.dfl = false)
    (hbind : ∀ (kV doc pm : Value) (an : Option Addr) (cdv ct : Value) (us : List Value), us.length = [x].length → bindArgs (PySem.W.fnOf pL.d.name pL.d.qual pL.d.params pL.d.body pL.d.scope .none kV doc pm an cdv ct) ⟨us, []⟩ = pure ([x].zip us))
    (hname : d.name = pL.d.name) (hn : l.most = some N) (hn2 : N ≤ sizeLine) (hdf : d.params.defaults = []) (hr : Room (3 * n) callerA)
    (main : ∀ ns : List Int, ns.length ≤ N → ∃ m', callD (gs.map (·.2)) F n fL [.d (.list (ns.map PyData.int))] (tabsOf xt) = .ok (.d (.bool true)) m') :
    PySem.W.WalkO q loose XP (hookP dp (facA ps bl gs xt) (fnA ps xt) (tsA ps) bl xt).says l.row.toRowW d [] (fun f vs => PySem.call f vs) := by
  refine walk_ofP (x := x) (CX := fun w => L2.CX l.prog w) hn hn2 hdf hr (fun w mg fa h Y Gn hmg => ?_) fun w H s e s' hc => ?_
  · obtain ⟨K, KX, c, nl, tb⟩ := Y
    obtain ⟨fd, MH, hFD⟩ := modH fx KX Gn c
    have FD := hFD fL pL hL
    have e1 := MH.hmg fL pL.d (by rw [List.getElem?_map, hL]; rfl)
    rw [← hname, hmg] at e1
    simp only [hL] at e1
    have e2 : fa = He.ga K pL.d.name := by
      have := Option.some.inj e1
      injection this
    have FD' : FunD K pL.d.name pL.d.qual pL.d.params pL.d.body pL.d.scope [] [] (He.ga K pL.d.name) (fd fL) := by
      have := FD
      unfold DefP.dvs at this
      rw [hdfl, if_neg Bool.false_ne_true] at this
      exact this
    have b := FunD.bindsA (ps := [x]) FD' hbind
    have hx : xtB K bl xt = true := c.all.2.2.2
    unfold xtB at hx
    rw [Bool.and_eq_true, Bool.and_eq_true, Bool.and_eq_true, Bool.and_eq_true] at hx
    obtain ⟨_, _, _, x4, x5⟩ := hx
    have ndT : (xt.mks.map fun m => tabAt K m.1).Nodup := of_decide_eq_true x5
    refine ⟨K, fd fL, FnSp (moOf K xt) K (callD (gs.map (·.2)) F n fL) [x].length, csOf K xt.mks, ⟨KX, nl⟩, ⟨tb, fun p hp => ?_⟩, fun s u => b s [u] rfl, fun H a ns hl hO hS => ?_, fun base _ _ tbs => ?_⟩
    · obtain ⟨m, hm, rfl⟩ := List.mem_map.mp hp
      have h1 := List.all_eq_true.mp x4 m hm
      unfold mkB at h1
      rw [Bool.and_eq_true] at h1
      exact PySem.W.codeHd_of_K KX h1.1
    · have at_ : ∀ m ∈ xt.mks, H (tabAt K m.1) = some (.tbl #[]) := fun m hm => hO _ (List.mem_map.mpr ⟨m, hm, rfl⟩)
      refine ⟨rfl, [.d (.list (ns.map PyData.int))], tabsOf xt, (fun b => b ∈ xt.mks.map fun m => tabAt K m.1), xt.mks.map fun m => tabAt K m.1, ⟨fun b hb => ?_, fun b hb => hb, ndT, ?_⟩, .cons ⟨?_, rfl⟩ .nil, ?_⟩
      · obtain ⟨m, hm, rfl⟩ := List.mem_map.mp hb
        exact ⟨_, at_ m hm, True.intro⟩
      · have go : ∀ l : List (Str × Str), (∀ m ∈ l, m ∈ xt.mks) → Paired (CelR (moOf K xt) K H fun b => b ∈ xt.mks.map fun m => tabAt K m.1) (l.map fun m => tabAt K m.1) (l.map fun m => Cel.tbl m.2) := by
          intro l
          induction l with
          | nil => exact fun _ => .nil
          | cons m l ih =>
            intro hl
            have hm := hl m List.mem_cons_self
            obtain ⟨i, hi⟩ := List.getElem?_of_mem hm
            refine .cons ⟨lookup_nd (f := tabAt K) fx.mn (x := m.1) (q := m.2) hi, #[], at_ m hm, True.intro, fun pos cv z => ?_⟩ (ih fun y hy => hl y (List.mem_cons_of_mem _ hy))
            have z : codeAmong pos [] = some cv := z
            simp [codeAmong] at z
        exact go xt.mks fun _ h => h
      · rcases hS with hS | ⟨o, its, k, h1, h2, _⟩
        · refine .lst hS (fun z => ?_) (ints_dq ns)
          obtain ⟨m, hm, e⟩ := List.mem_map.mp z
          have h1 := at_ m hm
          rw [e] at h1
          rcases hS with hS | ⟨o, hS⟩ <;> (rw [h1] at hS; cases hS)
        · exact ((nl a o h1).1 h2).elim
      · obtain ⟨m', hm⟩ := main ns hl
        rw [hm]
        intro u H' W' μ' _ _ lr _
        cases lr
        rfl
    · have r := mod_fn (P := l.prog) (w := w) (base := base) MH tbs n fL pL.d (by rw [List.getElem?_map, hL]; rfl)
      rw [hps] at r
      simp only [hL] at r
      rw [e2]
      exact r
  · obtain ⟨_, _, _, _, _, _, _, _, _, _, _, _, z⟩ := hc
    exact z
end Pv

/-! PvM: steps of the evaluator; the laws' draws. -/
namespace Pv
open PySem

theorem dat_d (m : Cels) (x : D) : dat m (.d x) = some x := rfl
theorem dat_own (m : Cels) (xs : List D) : dat m (.own xs) = some (.list xs) := rfl
theorem dat_cell {m : Cels} {k : Nat} {xs : List D} (h : m[k]? = some (.arr xs)) : dat m (.cell k) = some (.list xs) := by simp [dat, h]
theorem len_list (xs : List D) : b1Op .len (.list xs) = some (.d (.int xs.length)) := rfl
theorem len_tuple (xs : List D) : b1Op .len (.tuple xs) = some (.d (.int xs.length)) := rfl
theorem tup_list (xs : List D) : b1Op .totuple (.list xs) = some (.d (.tuple xs)) := rfl
theorem tup_tuple (xs : List D) : b1Op .totuple (.tuple xs) = some (.d (.tuple xs)) := rfl
theorem lst_list (xs : List D) : b1Op .tolist (.list xs) = some (.own xs) := rfl
theorem lst_tuple (xs : List D) : b1Op .tolist (.tuple xs) = some (.own xs) := rfl
theorem toint_b (b : Bool) : b1Op .toint (.bool b) = some (.d (.int (if b then 1 else 0))) := rfl
theorem frz_d (x : D) : frz (.d x) = some x := rfl
theorem frz_own (xs : List D) : frz (.own xs) = some (.list xs) := rfl
/-- the source of draws in cell k: B draws are left -/
def Src (m : Cels) (k B : Nat) : Prop := noLstC m = true ∧ ∃ a b c : Int, m[k]? = some (.arr [.int a, .int b, .int c]) ∧ 0 ≤ a ∧ 0 ≤ b ∧ b < 2147483543 ∧ 0 ≤ c ∧ c + B ≤ 1000000000
theorem Src.mono {m : Cels} {k B B' : Nat} (h : Src m k B) (l : B' ≤ B) : Src m k B' := by
  obtain ⟨hn, a, b, c, h1, h2, h3, h4, h5, h6⟩ := h
  exact ⟨hn, a, b, c, h1, h2, h3, h4, h5, by omega⟩
theorem noC_mem {m : Cels} : noLstC m = true ↔ (∀ xs, Cel.arr xs ∈ m → noLstAll xs = true) ∧ ∀ k f, Cel.exn k f ∈ m → noLst f = true := by
  unfold noLstC
  rw [List.all_eq_true]
  constructor
  · intro h
    exact ⟨fun xs hx => h _ hx, fun k f hx => h _ hx⟩
  · intro h c hc
    cases c with
    | arr xs => exact h.1 xs hc
    | tbl q => rfl
    | exn k f => exact h.2 k f hc
theorem noC_set {m : Cels} (h : noLstC m = true) (k : Nat) {xs : List D} (hx : noLstAll xs = true) : noLstC (m.set k (.arr xs)) = true := by
  rw [noC_mem] at h ⊢
  refine ⟨fun ys hy => ?_, fun j f hy => ?_⟩
  · rcases List.mem_or_eq_of_mem_set hy with hy | hy
    · exact h.1 ys hy
    · cases hy; exact hx
  · rcases List.mem_or_eq_of_mem_set hy with hy | hy
    · exact h.2 j f hy
    · cases hy
theorem noC_app {m : Cels} (h : noLstC m = true) {xs : List D} (hx : noLstAll xs = true) : noLstC (m ++ [.arr xs]) = true := by
  rw [noC_mem] at h ⊢
  refine ⟨fun ys hy => ?_, fun j f hy => ?_⟩
  · rcases List.mem_append.mp hy with hy | hy
    · exact h.1 ys hy
    · rw [List.mem_singleton] at hy; cases hy; exact hx
  · rcases List.mem_append.mp hy with hy | hy
    · exact h.2 j f hy
    · rw [List.mem_singleton] at hy; cases hy
def drawFn (i : Nat) : Fn := ⟨4, [
  .ite (.cmp .gt (.ix (.var 0) (.int 0)) (.int 0)) [.asg (.v 3) (.op .mod (.ix (.var 0) (.int 0)) (.var 1)), .setIx 0 (.int 0) (.op .fdiv (.ix (.var 0) (.int 0)) (.var 1)), .ret (.var 3)] [],
  .ite (.cmp .gt (.var 1) (.op .pow (.int 10) (.int 7))) [.ret (.op .mod (.op .add (.call i [.var 0, .op .pow (.int 10) (.int 7)] [.inl 0, .inl 1]) (.op .mul (.op .pow (.int 10) (.int 7)) (.call i [.var 0, .op .add (.op .fdiv (.var 1) (.op .pow (.int 10) (.int 7))) (.int 1)] [.inl 0, .inl 1]))) (.var 1))] [],
  .setIx 0 (.int 2) (.op .add (.ix (.var 0) (.int 2)) (.int 1)),
  .asg (.v 2) (.op .mod (.op .pow (.op .add (.ix (.var 0) (.int 1)) (.op .mul (.int 57037) (.ix (.var 0) (.int 2)))) (.int 3)) (.int 2147483579)),
  .ret (.op .mod (.op .fdiv (.op .mod (.op .add (.op .mul (.var 2) (.op .add (.op .mod (.var 2) (.int 40009)) (.int 13))) (.op .mul (.ix (.var 0) (.int 2)) (.int 8111))) (.int 2147483647)) (.int 32)) (.var 1))]⟩
theorem fmod_rng {a b : Int} (h : 0 < b) : 0 ≤ a.fmod b ∧ a.fmod b < b := by
  rw [Int.fmod_eq_emod_of_nonneg a (by omega)]
  exact ⟨Int.emod_nonneg _ (by omega), Int.emod_lt_of_pos _ h⟩
theorem draw_spec {G : List D} {F : List Fn} {i : Nat} (hF : F[i]? = some (drawFn i)) (n k B : Nat) (m : Cels) (bound : Int) (hs : Src m k (B + 1)) (h1 : 1 ≤ bound) (h2 : bound ≤ 10000000) :
    ∃ r m', callD G F (n + 1) i [.cell k, .d (.int bound)] m = .ok (.d (.int r)) m' ∧ 0 ≤ r ∧ r < bound ∧ Src m' k B := by
  obtain ⟨hnl, a, b, c, hk, ha, hb, hb2, hc, hB⟩ := hs
  have hl : k < m.length := (List.getElem?_eq_some_iff.mp hk).1
  have hset : ∀ v : Cel, (m.set k v)[k]? = some v := fun v => List.getElem?_set_self hl
  by_cases hpos : 0 < a
  · refine ⟨a.fmod bound, m.set k (.arr [.int (a.fdiv bound), .int b, .int c]), ?_, (fmod_rng (by omega)).1, (fmod_rng (by omega)).2, noC_set hnl k rfl, a.fdiv bound, b, c, hset _, ?_, hb, hb2, hc, by omega⟩
    · have e1 : ¬ bound = 0 := by omega
      have e2 : bound.natAbs < 1073741824 := by omega
      simp [startE, Pv.execs, Pv.exec, sem, sems, Sm.mk', Sm.g, Sm.r, Sm.c, Sm.o, getV, takeV, two2, one1, dispV, smG, smV, smA, lentOf, frzAll, frz_d, frz_own, frzArg, bindT, bindTs, dat_d, dat_own, datAll, tOf, Res.of, outcome, compV, itW, wipeE, callV, callPV, callLV, lentRes, celV, arrange, pureRes, callRes, restoreE, noLst, andV, orV, notV, andT, orT, notT, iteV, boolR, ownAt, parB, sliceV, inrV, chainV, cidxV, truth, len_list, len_tuple, tup_list, tup_tuple, lst_list, lst_tuple, toint_b, dat, frz, cmpOp, intCmp, b1Op, b2Op, boolsOf, binOp, Pv.intOp, augOp, ixD, seqOf, atD, ixOf, negD, slD, isTy, rngIn, callD, hF, drawFn, hk, hpos, e1, e2, hset]
    · rw [Int.fdiv_eq_ediv_of_nonneg a (by omega)]
      exact Int.ediv_nonneg ha (by omega)
  · have hq : 0 ≤ b + 57037 * (c + 1) ∧ b + 57037 * (c + 1) < 18446744073709551616 := by omega
    have e1 : ¬ bound = 0 := by omega
    have e2 : ¬ (10000000 : Int) < bound := by omega
    have hp : (b + 57037 * (c + 1)).natAbs < 18446744073709551616 := by omega
    have hz : ∀ z : Int, (z.fmod 2147483579).natAbs < 18446744073709551616 := fun z => by
      have := fmod_rng (a := z) (b := 2147483579) (by decide)
      omega
    let once := ((b + 57037 * (c + 1)) ^ 3).fmod 2147483579
    refine ⟨((((once * (once.fmod 40009 + 13)) + (c + 1) * 8111).fmod 2147483647).fdiv 32).fmod bound, m.set k (.arr [.int a, .int b, .int (c + 1)]), ?_, (fmod_rng (by omega)).1, (fmod_rng (by omega)).2, noC_set hnl k rfl, a, b, c + 1, hset _, ha, hb, hb2, by omega, by omega⟩
    simp [startE, Pv.execs, Pv.exec, sem, sems, Sm.mk', Sm.g, Sm.r, Sm.c, Sm.o, getV, takeV, two2, one1, dispV, smG, smV, smA, lentOf, frzAll, frz_d, frz_own, frzArg, bindT, bindTs, dat_d, dat_own, datAll, tOf, Res.of, outcome, compV, itW, wipeE, callV, callPV, callLV, lentRes, celV, arrange, pureRes, callRes, restoreE, noLst, andV, orV, notV, andT, orT, notT, iteV, boolR, ownAt, parB, sliceV, inrV, chainV, cidxV, truth, len_list, len_tuple, tup_list, tup_tuple, lst_list, lst_tuple, toint_b, dat, frz, cmpOp, intCmp, b1Op, b2Op, boolsOf, binOp, Pv.intOp, augOp, ixD, seqOf, atD, ixOf, negD, slD, isTy, rngIn, callD, hF, drawFn, hk, hpos, e1, e2, hset, hp, hz, once]

/-! ### comprehensions and loops -/
/-- every item gives one, the store going on -/
theorem compL_all {turn : D → Slots → Cels → Res (Option D)} {e : Slots} (I : Nat → Cels → Prop) (R : D → D → Prop) : ∀ (items acc : List D) (m : Cels), (∀ x ∈ items, ∀ j m, I (j + 1) m → ∃ y m', turn x e m = .ok (some y) e m' ∧ R x y ∧ I j m') → I items.length m → acc.length + items.length ≤ lim →
    ∃ ys m', compL turn items acc e m = .ok (acc ++ ys) e m' ∧ Paired R items ys ∧ I 0 m'
  | [], acc, m, _, h, _ => ⟨[], m, by rw [List.append_nil]; rfl, .nil, h⟩
  | x :: xs, acc, m, ht, h, hl => by
    obtain ⟨y, m1, h1, h2, h3⟩ := ht x List.mem_cons_self xs.length m h
    rw [List.length_cons] at hl
    obtain ⟨ys, m2, h4, h5, h6⟩ := compL_all I R xs (acc ++ [y]) m1 (fun z hz => ht z (List.mem_cons_of_mem _ hz)) h3 (by rw [List.length_append, List.length_singleton]; omega)
    refine ⟨y :: ys, m2, ?_, .cons h2 h5, h6⟩
    unfold compL
    rw [h1]
    dsimp only
    rw [if_pos (by omega), h4]
    simp
/-- some items give one each -/
theorem compL_some {turn : D → Slots → Cels → Res (Option D)} {e : Slots} (I : Nat → Cels → Prop) (R : D → D → Prop) : ∀ (items acc : List D) (m : Cels), (∀ x ∈ items, ∀ j m, I (j + 1) m → (∃ m', turn x e m = .ok none e m' ∧ I j m') ∨ ∃ y m', turn x e m = .ok (some y) e m' ∧ R x y ∧ I j m') → I items.length m → acc.length + items.length ≤ lim →
    ∃ ys sub m', compL turn items acc e m = .ok (acc ++ ys) e m' ∧ sub.Sublist items ∧ Paired R sub ys ∧ I 0 m'
  | [], acc, m, _, h, _ => ⟨[], [], m, by rw [List.append_nil]; rfl, .slnil, .nil, h⟩
  | x :: xs, acc, m, ht, h, hl => by
    rw [List.length_cons] at hl
    rcases ht x List.mem_cons_self xs.length m h with ⟨m1, h1, h3⟩ | ⟨y, m1, h1, h2, h3⟩
    · obtain ⟨ys, sub, m2, h4, h5, h6, h7⟩ := compL_some I R xs acc m1 (fun z hz => ht z (List.mem_cons_of_mem _ hz)) h3 (by omega)
      refine ⟨ys, sub, m2, ?_, h5.cons _, h6, h7⟩
      unfold compL
      rw [h1]
      exact h4
    · obtain ⟨ys, sub, m2, h4, h5, h6, h7⟩ := compL_some I R xs (acc ++ [y]) m1 (fun z hz => ht z (List.mem_cons_of_mem _ hz)) h3 (by rw [List.length_append, List.length_singleton]; omega)
      refine ⟨y :: ys, x :: sub, m2, ?_, h5.cons_cons _, .cons h2 h6, h7⟩
      unfold compL
      rw [h1]
      dsimp only
      rw [if_pos (by omega), h4]
      simp
/-- no store in sight -/
theorem compL_pure {turn : D → Slots → Cels → Res (Option D)} {e : Slots} {m : Cels} (f : D → Option D) : ∀ (items acc : List D), (∀ x ∈ items, turn x e m = .ok (f x) e m) → acc.length + items.length ≤ lim → compL turn items acc e m = .ok (acc ++ items.filterMap f) e m
  | [], acc, _, _ => by simp [compL]
  | x :: xs, acc, ht, hl => by
    rw [List.length_cons] at hl
    unfold compL
    rw [ht x List.mem_cons_self]
    cases hf : f x with
    | none =>
      dsimp only
      rw [compL_pure f xs acc (fun z hz => ht z (List.mem_cons_of_mem _ hz)) (by omega), List.filterMap_cons_none hf]
    | some y =>
      dsimp only
      rw [if_pos (by omega), compL_pure f xs (acc ++ [y]) (fun z hz => ht z (List.mem_cons_of_mem _ hz)) (by rw [List.length_append, List.length_singleton]; omega), List.filterMap_cons_some hf]
      simp
/-- a loop whose turns go on: an invariant by the items done -/
theorem forL_inv {turn : D → Slots → Cels → Res Fl} (I : List D → List D → Slots → Cels → Prop) : ∀ (items done : List D) (e : Slots) (m : Cels), (∀ x done rest e m, I done (x :: rest) e m → ∃ e' m', turn x e m = .ok .nx e' m' ∧ I (done ++ [x]) rest e' m') → I done items e m →
    ∃ e' m', forL turn items e m = .ok .nx e' m' ∧ I (done ++ items) [] e' m'
  | [], done, e, m, _, h => ⟨e, m, rfl, by rw [List.append_nil]; exact h⟩
  | x :: xs, done, e, m, ht, h => by
    obtain ⟨e1, m1, h1, h2⟩ := ht x done xs e m h
    obtain ⟨e2, m2, h3, h4⟩ := forL_inv I xs (done ++ [x]) e1 m1 ht h2
    refine ⟨e2, m2, ?_, by rw [List.append_assoc] at h4; exact h4⟩
    unfold forL
    rw [h1]
    exact h3
theorem upTo_eq : ∀ (n : Nat) (lo : Int), Pv.upTo lo n = (List.range n).map fun i => PyData.int (lo + (i : Nat))
  | 0, _ => rfl
  | n + 1, lo => by
    unfold Pv.upTo
    rw [upTo_eq n, List.range_succ_eq_map, List.map_cons, List.map_map]
    congr 1
    · simp
    · apply List.map_congr_left
      intro i _
      simp only [Function.comp, PyData.int.injEq]
      omega
end Pv

/-! PvKT: the evaluator leaves the tables of code objects where they are. -/
namespace Pv
open PySem

def KT (m m' : Cels) : Prop := ∀ (j : Nat) (q : Str), m[j]? = some (.tbl q) → m'[j]? = some (.tbl q)
theorem KT.refl (m : Cels) : KT m m := fun _ _ h => h
theorem KT.trans {a b c : Cels} (h : KT a b) (h' : KT b c) : KT a c := fun j q e => h' j q (h j q e)
theorem KT.app (m : Cels) (c : Cel) : KT m (m ++ [c]) := fun j q e => by
  rw [List.getElem?_append_left (List.getElem?_eq_some_iff.mp e).1]
  exact e
theorem KT.set {m : Cels} {k : Nat} {xs : List D} (h : m[k]? = some (.arr xs)) (c : Cel) : KT m (m.set k c) := fun j q e => by
  rw [List.getElem?_set_ne (fun z => by rw [z, e] at h; cases h)]
  exact e
def RK {α : Type} (m : Cels) : Res α → Prop
  | .ok _ _ m' => KT m m'
  | .exc _ _ _ m' => KT m m'
  | .stuck => True
def FK (m : Cels) : FRes → Prop
  | .ok _ m' => KT m m'
  | .exc _ _ m' => KT m m'
  | .stuck => True
theorem RK.weaken {α : Type} {m m1 : Cels} (h : KT m m1) : ∀ {r : Res α}, RK m1 r → RK m r
  | .ok _ _ _, h' => h.trans h'
  | .exc _ _ _ _, h' => h.trans h'
  | .stuck, _ => True.intro
theorem RK.bind {α β : Type} {m : Cels} {r : Res α} {k : α → Slots → Cels → Res β} (h : RK m r) (h' : ∀ a e1 m1, RK m1 (k a e1 m1)) : RK m (r.bind k) := by
  cases r with
  | ok a e1 m1 => exact RK.weaken h (h' a e1 m1)
  | exc _ _ _ _ => exact h
  | stuck => exact h
theorem RK.ok {α : Type} {m : Cels} {a : α} {e : Slots} : RK m (.ok a e m) := KT.refl m
theorem RK.exc {α : Type} {m : Cels} {c : Nat} {f : D} {e : Slots} : RK m (.exc c f e m : Res α) := KT.refl m
theorem RK.stuck {α : Type} {m : Cels} : RK m (.stuck : Res α) := True.intro
theorem RK.of {α : Type} {m : Cels} {o : Option α} {e : Slots} : RK m (Res.of o e m) := by
  cases o
  · exact RK.stuck
  · exact RK.ok
theorem getV_k {e : Slots} {m : Cels} {i : Nat} : RK m (getV e m i) := by unfold getV; repeat' (first | exact RK.ok | exact RK.stuck | exact RK.exc | exact RK.of | assumption | (intro _) | split)
theorem takeV_k {e : Slots} {m : Cels} {i : Nat} : RK m (takeV e m i) := by unfold takeV; repeat' (first | exact RK.ok | exact RK.stuck | exact RK.exc | exact RK.of | assumption | (intro _) | split)
structure SmK (s : Sm) : Prop where
  v : ∀ e m, RK m (s.v e m)
  t : ∀ e m, RK m (s.t e m)
theorem tOf_k {v : Slots → Cels → Res Vl} (h : ∀ e m, RK m (v e m)) (e : Slots) (m : Cels) : RK m (tOf v e m) := by
  unfold tOf
  refine RK.bind (h e m) fun a e1 m1 => ?_
  repeat' (first | exact RK.ok | exact RK.stuck | exact RK.exc | exact RK.of | assumption | (intro _) | split)
theorem SmK.of {v : Slots → Cels → Res Vl} (h : ∀ e m, RK m (v e m)) : SmK (.mk' v) := ⟨h, tOf_k h⟩
section
variable {s sa sb sc : Sm}
theorem SmK.g (h : SmK s) (e : Slots) (m : Cels) : RK m (s.g e m) := by
  unfold Sm.g
  split
  · exact takeV_k
  · exact h.v e m
theorem SmK.r (h : SmK s) (e : Slots) (m : Cels) : RK m (s.r e m) := by
  unfold Sm.r
  split
  · exact getV_k
  · exact h.v e m
theorem SmK.o (h : SmK s) (e : Slots) (m : Cels) : RK m (s.o e m) := by
  unfold Sm.o
  split
  · exact RK.ok
  · refine RK.bind (h.v e m) fun a e1 m1 => ?_
    repeat' (first | exact RK.ok | exact RK.stuck | exact RK.exc | exact RK.of | assumption | (intro _) | split)
theorem SmK.c (h : SmK s) (e : Slots) (m : Cels) : RK m (s.c e m) := by
  unfold Sm.c
  split
  · exact RK.ok
  · exact h.t e m
theorem smV_k : ∀ {ss : List Sm}, (∀ s ∈ ss, SmK s) → ∀ e m, RK m (smV ss e m)
  | [], _, e, m => RK.ok
  | s :: ss, h, e, m => by
    unfold smV
    exact RK.bind ((h s List.mem_cons_self).v e m) fun _ e1 m1 => RK.bind (smV_k (fun x hx => h x (List.mem_cons_of_mem _ hx)) e1 m1) fun _ _ _ => RK.ok
theorem smG_k : ∀ {ss : List Sm}, (∀ s ∈ ss, SmK s) → ∀ e m, RK m (smG ss e m)
  | [], _, e, m => RK.ok
  | s :: ss, h, e, m => by
    unfold smG
    exact RK.bind ((h s List.mem_cons_self).g e m) fun _ e1 m1 => RK.bind (smG_k (fun x hx => h x (List.mem_cons_of_mem _ hx)) e1 m1) fun _ _ _ => RK.ok
theorem smA_k : ∀ {ss : List Sm}, (∀ s ∈ ss, SmK s) → ∀ e m, RK m (smA ss e m)
  | [], _, e, m => RK.ok
  | s :: ss, h, e, m => by
    unfold smA
    exact RK.bind ((h s List.mem_cons_self).v e m) fun _ e1 m1 => RK.bind (smA_k (fun x hx => h x (List.mem_cons_of_mem _ hx)) e1 m1) fun _ _ _ => RK.ok
theorem two2_k {g : D → D → Option Vl} (ha : SmK sa) (hb : SmK sb) (e : Slots) (m : Cels) : RK m (two2 g sa sb e m) := by
  unfold two2
  refine RK.bind (ha.v e m) fun _ e1 m1 => RK.bind (hb.v e1 m1) fun _ e2 m2 => ?_
  repeat' (first | exact RK.ok | exact RK.stuck | exact RK.exc | exact RK.of | assumption | (intro _) | split)
theorem one1_k {g : D → Option Vl} (ha : SmK sa) (e : Slots) (m : Cels) : RK m (one1 g sa e m) := by
  unfold one1
  refine RK.bind (ha.v e m) fun _ e1 m1 => ?_
  repeat' (first | exact RK.ok | exact RK.stuck | exact RK.exc | exact RK.of | assumption | (intro _) | split)
theorem boolR_k {v : Vl} {e : Slots} {m : Cels} : RK m (boolR v e m) := by unfold boolR; repeat' (first | exact RK.ok | exact RK.stuck | exact RK.exc | exact RK.of | assumption | (intro _) | split)
theorem andV_k (ha : SmK sa) (hb : SmK sb) (e : Slots) (m : Cels) : RK m (andV sa sb e m) := by
  unfold andV
  refine RK.bind (ha.v e m) fun _ e1 m1 => ?_
  split
  · exact RK.bind (hb.v e1 m1) fun _ _ _ => boolR_k
  · exact RK.ok
  · exact RK.stuck
theorem orV_k (ha : SmK sa) (hb : SmK sb) (e : Slots) (m : Cels) : RK m (orV sa sb e m) := by
  unfold orV
  refine RK.bind (ha.v e m) fun _ e1 m1 => ?_
  split
  · exact RK.ok
  · exact RK.bind (hb.v e1 m1) fun _ _ _ => boolR_k
  · exact RK.stuck
theorem notV_k (ha : SmK sa) (e : Slots) (m : Cels) : RK m (notV sa e m) := by
  unfold notV
  refine RK.bind (ha.v e m) fun _ e1 m1 => ?_
  repeat' (first | exact RK.ok | exact RK.stuck | exact RK.exc | exact RK.of | assumption | (intro _) | split)
theorem andT_k (ha : SmK sa) (hb : SmK sb) (e : Slots) (m : Cels) : RK m (andT sa sb e m) := by
  unfold andT
  refine RK.bind (ha.t e m) fun _ e1 m1 => ?_
  split
  · exact hb.t e1 m1
  · exact RK.ok
theorem orT_k (ha : SmK sa) (hb : SmK sb) (e : Slots) (m : Cels) : RK m (orT sa sb e m) := by
  unfold orT
  refine RK.bind (ha.t e m) fun _ e1 m1 => ?_
  split
  · exact RK.ok
  · exact hb.t e1 m1
theorem notT_k (ha : SmK sa) (e : Slots) (m : Cels) : RK m (notT sa e m) := by
  unfold notT
  exact RK.bind (ha.t e m) fun _ e1 m1 => RK.ok
theorem iteV_k (hc : SmK sc) (ha : SmK sa) (hb : SmK sb) (e : Slots) (m : Cels) : RK m (iteV sc sa sb e m) := by
  unfold iteV
  refine RK.bind (hc.t e m) fun _ e1 m1 => ?_
  split
  · exact ha.g e1 m1
  · exact hb.g e1 m1
theorem chainV_k {o p : Cm} (ha : SmK sa) (hb : SmK sb) (hc : SmK sc) (e : Slots) (m : Cels) : RK m (chainV o p sa sb sc e m) := by
  unfold chainV
  refine RK.bind (ha.v e m) fun _ e1 m1 => RK.bind (hb.v e1 m1) fun _ e2 m2 => ?_
  split
  · split
    · exact RK.ok
    · refine RK.bind (hc.v e2 m2) fun _ e3 m3 => ?_
      repeat' (first | exact RK.ok | exact RK.stuck | exact RK.exc | exact RK.of | assumption | (intro _) | split)
    · exact RK.stuck
  · exact RK.stuck
theorem dispV_k {f : List D → Vl} {ss : List Sm} (h : ∀ s ∈ ss, SmK s) (e : Slots) (m : Cels) : RK m (dispV f ss e m) := by
  unfold dispV
  refine RK.bind (smG_k h e m) fun _ e1 m1 => ?_
  repeat' (first | exact RK.ok | exact RK.stuck | exact RK.exc | exact RK.of | assumption | (intro _) | split)
theorem sliceV_k (ha : SmK sa) (hb : SmK sb) (hc : SmK sc) (e : Slots) (m : Cels) : RK m (sliceV sa sb sc e m) := by
  unfold sliceV
  refine RK.bind (ha.v e m) fun _ e1 m1 => RK.bind (hb.o e1 m1) fun _ e2 m2 => RK.bind (hc.o e2 m2) fun _ e3 m3 => ?_
  repeat' (first | exact RK.ok | exact RK.stuck | exact RK.exc | exact RK.of | assumption | (intro _) | split)
theorem inrV_k {ng : Bool} {ss : List Sm} (ha : SmK sa) (h : ∀ s ∈ ss, SmK s) (e : Slots) (m : Cels) : RK m (inrV ng sa ss e m) := by
  unfold inrV
  refine RK.bind (ha.v e m) fun _ e1 m1 => RK.bind (smV_k h e1 m1) fun _ e2 m2 => ?_
  repeat' (first | exact RK.ok | exact RK.stuck | exact RK.exc | exact RK.of | assumption | (intro _) | split)
theorem turnC_k {tg : Tg} {own : List Nat} (hc : SmK sa) (he : SmK sb) (x : D) (e : Slots) (m : Cels) : RK m (turnC tg own sa sb x e m) := by
  unfold turnC
  split
  · refine RK.bind (hc.c _ m) fun _ e1 m1 => ?_
    split
    · refine RK.bind (he.g e1 m1) fun _ e2 m2 => ?_
      repeat' (first | exact RK.ok | exact RK.stuck | exact RK.exc | exact RK.of | assumption | (intro _) | split)
    · exact RK.ok
  · exact RK.stuck
theorem itW_k {r : Res (List Vl)} {k : IK} {m : Cels} (h : RK m r) : RK m (itW r k) := by
  unfold itW
  refine RK.bind h fun _ e1 m1 => ?_
  repeat' (first | exact RK.ok | exact RK.stuck | exact RK.exc | exact RK.of | assumption | (intro _) | split)
theorem compL_k {turn : D → Slots → Cels → Res (Option D)} (h : ∀ x e m, RK m (turn x e m)) : ∀ (l acc : List D) (e : Slots) (m : Cels), RK m (compL turn l acc e m)
  | [], acc, e, m => RK.ok
  | x :: xs, acc, e, m => by
    unfold compL
    have ht := h x e m
    cases hr : turn x e m with
    | stuck => exact RK.stuck
    | exc _ _ _ _ => exact RK.stuck
    | ok o e1 m1 =>
      rw [hr] at ht
      cases o with
      | none => exact RK.weaken ht (compL_k h xs acc e1 m1)
      | some y =>
        dsimp only
        split
        · exact RK.weaken ht (compL_k h xs _ e1 m1)
        · exact RK.stuck
theorem compV_k {tg : Tg} {own : List Nat} {k : IK} {ss : List Sm} (h : ∀ s ∈ ss, SmK s) (hc : SmK sa) (he : SmK sb) (e : Slots) (m : Cels) : RK m (compV tg own k ss sa sb e m) := by
  unfold compV
  exact RK.bind (itW_k (smV_k h e m)) fun _ e1 m1 => RK.bind (compL_k (turnC_k hc he) _ _ _ m1) fun _ _ _ => RK.ok
theorem comp2L_k {tg : Tg} {own own1 : List Nat} {it1 : Slots → Cels → Res (List D)} {turn1 : D → Slots → Cels → Res (Option D)} (hi : ∀ e m, RK m (it1 e m)) (ht : ∀ x e m, RK m (turn1 x e m)) : ∀ (l acc : List D) (e : Slots) (m : Cels), RK m (comp2L tg own own1 it1 turn1 l acc e m)
  | [], acc, e, m => RK.ok
  | x :: xs, acc, e, m => by
    unfold comp2L
    split
    · rename_i e1 _
      have h1 := hi e1 m
      cases hr : it1 e1 m with
      | stuck => exact RK.stuck
      | exc _ _ _ _ => exact RK.stuck
      | ok items e2 m2 =>
        rw [hr] at h1
        dsimp only
        have h2 := compL_k ht items acc (wipeE e2 own1) m2
        cases hr2 : compL turn1 items acc (wipeE e2 own1) m2 with
        | stuck => exact RK.stuck
        | exc _ _ _ _ => exact RK.stuck
        | ok acc2 e3 m3 =>
          rw [hr2] at h2
          exact RK.weaken (KT.trans h1 h2) (comp2L_k hi ht xs acc2 _ m3)
    · exact RK.stuck
theorem comp2V_k {tg tg1 : Tg} {own own1 : List Nat} {k k1 : IK} {ss ss1 : List Sm} (h : ∀ s ∈ ss, SmK s) (h1 : ∀ s ∈ ss1, SmK s) (hc : SmK sa) (he : SmK sb) (e : Slots) (m : Cels) : RK m (comp2V tg own k ss tg1 own1 k1 ss1 sa sb e m) := by
  unfold comp2V
  exact RK.bind (itW_k (smV_k h e m)) fun _ e1 m1 => RK.bind (comp2L_k (fun e m => itW_k (smG_k h1 e m)) (turnC_k hc he) _ _ _ m1) fun _ _ _ => RK.ok
section
variable {call : Nat → List Vl → Cels → FRes} (hk : ∀ f us m, FK m (call f us m))
include hk
theorem callRes_k (f : Nat) (us : List Vl) (e : Slots) (m : Cels) : RK m (callRes (call f us m) e) := by
  have := hk f us m
  cases h : call f us m <;> rw [h] at this <;> exact this
theorem callV_k {f : Nat} {ss : List Sm} {ord : List (Nat ⊕ D)} (h : ∀ s ∈ ss, SmK s) (e : Slots) (m : Cels) : RK m (callV call f ss ord e m) := by
  unfold callV
  refine RK.bind (smG_k h e m) fun _ e1 m1 => ?_
  split
  · exact callRes_k hk _ _ _ _
  · exact RK.stuck
omit hk in
theorem pureRes_k {b : Bool} {r : FRes} {e : Slots} {m : Cels} : RK m (pureRes b r e m) := by
  unfold pureRes
  repeat' (first | exact RK.ok | exact RK.stuck | exact RK.exc | exact RK.of | assumption | (intro _) | split)
omit hk in
theorem callPV_k {f : Nat} {ss : List Sm} {ord : List (Nat ⊕ D)} (h : ∀ s ∈ ss, SmK s) (e : Slots) (m : Cels) : RK m (callPV call f ss ord e m) := by
  unfold callPV
  refine RK.bind (smA_k h e m) fun _ e1 m1 => ?_
  split
  · split
    · exact pureRes_k
    · exact RK.stuck
  · exact RK.stuck
theorem lentRes_k {vs : List Vl} (f : Nat) (us : List Vl) (e : Slots) (m : Cels) : RK m (lentRes vs (call f us m) e) := by
  have := hk f us m
  cases h : call f us m with
  | stuck => exact RK.stuck
  | exc c g m2 =>
    rw [h] at this
    unfold lentRes
    dsimp only
    split
    · exact this
    · exact RK.stuck
  | ok v m2 =>
    rw [h] at this
    cases v with
    | cell k => exact RK.stuck
    | d x =>
      unfold lentRes
      dsimp only
      split
      · exact this
      · exact RK.stuck
    | own x =>
      unfold lentRes
      dsimp only
      split
      · exact this
      · exact RK.stuck
theorem callLV_k {f : Nat} {ss : List Sm} {ord : List (Nat ⊕ D)} (h : ∀ s ∈ ss, SmK s) (e : Slots) (m : Cels) : RK m (callLV call f ss ord e m) := by
  unfold callLV
  refine RK.bind (smA_k h e m) fun _ e1 m1 => ?_
  split
  · exact lentRes_k hk _ _ _ _
  · exact RK.stuck
theorem outcV_k {t fr : Nat} {q : Str} {ks : List Nat} (h : SmK sa) (e : Slots) (m : Cels) : RK m (outcV call t q fr ks sa e m) := by
  unfold outcV
  split
  · split
    · have h1 := h.v e m
      cases hr : sa.v e m with
      | stuck => exact RK.stuck
      | ok v e1 m1 => rw [hr] at h1; exact h1
      | exc k f e1 m1 =>
        rw [hr] at h1
        dsimp only
        split
        · have h2 := hk fr [.cell m1.length] (m1 ++ [.exn k f])
          cases hc : call fr [.cell m1.length] (m1 ++ [.exn k f]) with
          | stuck => exact RK.stuck
          | exc _ _ _ => exact RK.stuck
          | ok v m2 =>
            rw [hc] at h2
            cases v with
            | own _ => exact RK.stuck
            | cell _ => exact RK.stuck
            | d x =>
              dsimp only
              split
              · refine fun j q hj => ?_
                have h3 := h1 j q hj
                have h4 := h2 j q (KT.app m1 _ j q h3)
                rw [List.getElem?_take, if_pos (List.getElem?_eq_some_iff.mp h3).1]
                exact h4
              · exact RK.stuck
        · exact RK.stuck
    · exact RK.stuck
  · exact RK.stuck
end
theorem celV_k (ha : SmK sa) (e : Slots) (m : Cels) : RK m (celV sa e m) := by
  unfold celV
  refine RK.bind (ha.v e m) fun _ e1 m1 => ?_
  split
  · exact KT.app m1 _
  · exact RK.stuck
theorem matV_k {tup : Bool} {k : IK} {ss : List Sm} (h : ∀ s ∈ ss, SmK s) (e : Slots) (m : Cels) : RK m (matV tup k ss e m) := by
  unfold matV
  refine RK.bind (itW_k (smV_k h e m)) fun _ e1 m1 => ?_
  repeat' (first | exact RK.ok | exact RK.stuck | exact RK.exc | exact RK.of | assumption | (intro _) | split)
theorem cidxV_k (ha : SmK sa) (hb : SmK sb) (e : Slots) (m : Cels) : RK m (cidxV sa sb e m) := by
  unfold cidxV
  refine RK.bind (ha.v e m) fun _ e1 m1 => ?_
  split
  · refine RK.bind (hb.v e1 m1) fun _ e2 m2 => ?_
    repeat' (first | exact RK.ok | exact RK.stuck | exact RK.exc | exact RK.of | assumption | (intro _) | split)
  · exact RK.stuck
theorem isEV_k {bs : List Bool} (ha : SmK sa) (e : Slots) (m : Cels) : RK m (isEV bs sa e m) := by
  unfold isEV
  refine RK.bind (ha.v e m) fun _ e1 m1 => ?_
  repeat' (first | exact RK.ok | exact RK.stuck | exact RK.exc | exact RK.of | assumption | (intro _) | split)
theorem fldV_k {ok : List Nat} (ha : SmK sa) (e : Slots) (m : Cels) : RK m (fldV ok sa e m) := by
  unfold fldV
  refine RK.bind (ha.v e m) fun _ e1 m1 => ?_
  repeat' (first | exact RK.ok | exact RK.stuck | exact RK.exc | exact RK.of | assumption | (intro _) | split)
end
section
variable {G : List D} {call : Nat → List Vl → Cels → FRes}
theorem all_nil {s : Sm} (h : s ∈ ([] : List Sm)) : SmK s := absurd h (by simp)
theorem all_cons {x : Sm} {xs : List Sm} (h : SmK x) (t : ∀ s ∈ xs, SmK s) : ∀ s ∈ x :: xs, SmK s := fun s hs => by
  rcases List.mem_cons.mp hs with z | z
  · rw [z]; exact h
  · exact t s z
mutual
theorem sem_k (hk : ∀ f us m, FK m (call f us m)) : ∀ x : X, SmK (sem G call x)
  | .omit => ⟨fun _ _ => RK.stuck, fun _ _ => RK.stuck⟩
  | .var i => ⟨fun _ _ => getV_k, tOf_k fun _ _ => getV_k⟩
  | .non => SmK.of fun _ _ => RK.ok
  | .bl b => SmK.of fun _ _ => RK.ok
  | .int i => SmK.of fun _ _ => RK.ok
  | .str s => SmK.of fun _ _ => RK.ok
  | .glob k => SmK.of fun _ _ => RK.of
  | .op o a b => SmK.of (two2_k (sem_k hk a) (sem_k hk b))
  | .cmp o a b => SmK.of (two2_k (sem_k hk a) (sem_k hk b))
  | .chain o p a b c => SmK.of (chainV_k (sem_k hk a) (sem_k hk b) (sem_k hk c))
  | .inr neg a rs => SmK.of (inrV_k (sem_k hk a) (sems_k hk rs))
  | .neg a => SmK.of (one1_k (sem_k hk a))
  | .not a => ⟨notV_k (sem_k hk a), notT_k (sem_k hk a)⟩
  | .and a b => ⟨andV_k (sem_k hk a) (sem_k hk b), andT_k (sem_k hk a) (sem_k hk b)⟩
  | .or a b => ⟨orV_k (sem_k hk a) (sem_k hk b), orT_k (sem_k hk a) (sem_k hk b)⟩
  | .ite c a b => SmK.of (iteV_k (sem_k hk c) (sem_k hk a) (sem_k hk b))
  | .tup es => SmK.of (dispV_k (sems_k hk es))
  | .lst es => SmK.of (dispV_k (sems_k hk es))
  | .ix a i => SmK.of (two2_k (sem_k hk a) (sem_k hk i))
  | .sl a lo hi => SmK.of (sliceV_k (sem_k hk a) (sem_k hk lo) (sem_k hk hi))
  | .rev a => SmK.of (one1_k (sem_k hk a))
  | .isi k a => SmK.of (one1_k (sem_k hk a))
  | .b1 b a => SmK.of (one1_k (sem_k hk a))
  | .b2 b a c => SmK.of (two2_k (sem_k hk a) (sem_k hk c))
  | .comp tg own k as cond elt => SmK.of (compV_k (sems_k hk as) (sem_k hk cond) (sem_k hk elt))
  | .comp2 tg own k as tg1 own1 k1 as1 cond elt => SmK.of (comp2V_k (sems_k hk as) (sems_k hk as1) (sem_k hk cond) (sem_k hk elt))
  | .call f es ord => SmK.of (callV_k hk (sems_k hk es))
  | .callP f es ord => SmK.of (callPV_k (sems_k hk es))
  | .callL f es ord => SmK.of (callLV_k hk (sems_k hk es))
  | .cel a => SmK.of (celV_k (sem_k hk a))
  | .mat tup k as => SmK.of (matV_k (sems_k hk as))
  | .cidx a b => SmK.of (cidxV_k (sem_k hk a) (sem_k hk b))
  | .csum a => SmK.of (one1_k (sem_k hk a))
  | .trv a => SmK.of (one1_k (sem_k hk a))
  | .sset a => SmK.of (one1_k (sem_k hk a))
  | .rep a => SmK.of (one1_k (sem_k hk a))
  | .isE bs a => SmK.of (isEV_k (sem_k hk a))
  | .fld _ ok a => SmK.of (fldV_k (sem_k hk a))
  | .cntT a => SmK.of (one1_k (sem_k hk a))
  | .outc t q fr ks a => SmK.of (outcV_k hk (sem_k hk a))
theorem sems_k (hk : ∀ f us m, FK m (call f us m)) : ∀ xs : List X, ∀ s ∈ sems G call xs, SmK s
  | [], _, h => all_nil h
  | x :: xs, s, h => all_cons (sem_k hk x) (sems_k hk xs) s h
end
end

/-! ### statements -/
theorem forL_k {turn : D → Slots → Cels → Res Fl} (h : ∀ x e m, RK m (turn x e m)) : ∀ (l : List D) (e : Slots) (m : Cels), RK m (forL turn l e m)
  | [], e, m => RK.ok
  | x :: xs, e, m => by
    unfold forL
    refine RK.bind (h x e m) fun f e1 m1 => ?_
    cases f with
    | nx => exact forL_k h xs e1 m1
    | cont => exact forL_k h xs e1 m1
    | brk => exact RK.ok
    | ret v => exact RK.ok
theorem whileL_k {test : Slots → Cels → Res Bool} {body : Slots → Cels → Res Fl} (ht : ∀ e m, RK m (test e m)) (hb : ∀ e m, RK m (body e m)) : ∀ (n : Nat) (e : Slots) (m : Cels), RK m (whileL test body n e m)
  | 0, e, m => RK.stuck
  | n + 1, e, m => by
    unfold whileL
    refine RK.bind (ht e m) fun k e1 m1 => ?_
    cases k with
    | false => exact RK.ok
    | true =>
      refine RK.bind (hb e1 m1) fun f e2 m2 => ?_
      cases f with
      | nx => exact whileL_k ht hb n e2 m2
      | cont => exact whileL_k ht hb n e2 m2
      | brk => exact RK.ok
      | ret v => exact RK.ok
section
variable {G : List D} {call : Nat → List Vl → Cels → FRes}
mutual
theorem exec_k (hk : ∀ f us m, FK m (call f us m)) : ∀ (s : S) (e : Slots) (m : Cels), RK m (exec G call s e m)
  | .asg t x, e, m => by
    unfold exec
    refine RK.bind ((sem_k hk x).g e m) fun _ e1 m1 => ?_
    repeat' (first | exact RK.ok | exact RK.stuck | exact RK.exc | exact RK.of | assumption | (intro _) | split)
  | .par is xs, e, m => by
    unfold exec
    refine RK.bind (smG_k (sems_k hk xs) e m) fun _ e1 m1 => ?_
    repeat' (first | exact RK.ok | exact RK.stuck | exact RK.exc | exact RK.of | assumption | (intro _) | split)
  | .aug i o x, e, m => by
    unfold exec
    split
    · refine RK.bind ((sem_k hk x).v e m) fun _ e1 m1 => ?_
      repeat' (first | exact RK.ok | exact RK.stuck | exact RK.exc | exact RK.of | assumption | (intro _) | split)
    · exact RK.stuck
  | .app i x, e, m => by
    unfold exec
    split
    · refine RK.bind ((sem_k hk x).g e m) fun _ e1 m1 => ?_
      repeat' (first | exact RK.ok | exact RK.stuck | exact RK.exc | exact RK.of | assumption | (intro _) | split)
    · exact RK.stuck
  | .ext i x, e, m => by
    unfold exec
    split
    · refine RK.bind ((sem_k hk x).v e m) fun _ e1 m1 => ?_
      repeat' (first | exact RK.ok | exact RK.stuck | exact RK.exc | exact RK.of | assumption | (intro _) | split)
    · exact RK.stuck
  | .appPop i j x, e, m => by
    unfold exec
    split
    · refine RK.bind ((sem_k hk x).v e m) fun _ e1 m1 => ?_
      repeat' (first | exact RK.ok | exact RK.stuck | exact RK.exc | exact RK.of | assumption | (intro _) | split)
    · exact RK.stuck
  | .popAt i x, e, m => by
    unfold exec
    split
    · refine RK.bind ((sem_k hk x).v e m) fun _ e1 m1 => ?_
      repeat' (first | exact RK.ok | exact RK.stuck | exact RK.exc | exact RK.of | assumption | (intro _) | split)
    · exact RK.stuck
  | .ins i k x, e, m => by
    unfold exec
    split
    · refine RK.bind (smG_k (all_cons (sem_k hk k) (all_cons (sem_k hk x) fun s h => all_nil h)) e m) fun _ e1 m1 => ?_
      repeat' (first | exact RK.ok | exact RK.stuck | exact RK.exc | exact RK.of | assumption | (intro _) | split)
    · exact RK.stuck
  | .setSl i lo hi x, e, m => by
    unfold exec
    refine RK.bind ((sem_k hk x).v e m) fun _ e1 m1 => ?_
    split
    · split
      · refine RK.bind ((sem_k hk lo).v e1 m1) fun _ e2 m2 => ?_
        split
        · refine RK.bind ((sem_k hk hi).v e2 m2) fun _ e3 m3 => ?_
          repeat' (first | exact RK.ok | exact RK.stuck | exact RK.exc | exact RK.of | assumption | (intro _) | split)
        · exact RK.stuck
      · exact RK.stuck
    · exact RK.stuck
  | .setIx i k x, e, m => by
    unfold exec
    refine RK.bind ((sem_k hk x).g e m) fun _ e1 m1 => ?_
    split
    · refine RK.bind getV_k fun _ e2 m2 => RK.bind ((sem_k hk k).v e2 m2) fun _ e3 m3 => ?_
      split
      · repeat' (first | exact RK.ok | exact RK.stuck | exact RK.exc | exact RK.of | assumption | (intro _) | split)
      · split
        · rename_i h
          split
          · exact KT.set h _
          · exact RK.stuck
        · exact RK.stuck
      · exact RK.stuck
    · exact RK.stuck
  | .expr x, e, m => by
    unfold exec
    exact RK.bind ((sem_k hk x).v e m) fun _ e1 m1 => RK.ok
  | .ite c a b, e, m => by
    unfold exec
    refine RK.bind ((sem_k hk c).t e m) fun k e1 m1 => ?_
    cases k with
    | true => exact execs_k hk a e1 m1
    | false => exact execs_k hk b e1 m1
  | .for t k as body, e, m => by
    unfold exec
    refine RK.bind (itW_k (smG_k (sems_k hk as) e m)) fun items e1 m1 => forL_k (fun x e m => ?_) items e1 m1
    split
    · exact execs_k hk body _ m
    · exact RK.stuck
  | .while n c body, e, m => by
    unfold exec
    exact whileL_k (sem_k hk c).t (execs_k hk body) n e m
  | .ret x, e, m => by
    unfold exec
    exact RK.bind ((sem_k hk x).r e m) fun _ e1 m1 => RK.ok
  | .pass, e, m => by
    unfold exec
    exact RK.ok
  | .never, e, m => by
    unfold exec
    exact RK.stuck
  | .brk, e, m => by
    unfold exec
    exact RK.ok
  | .cont, e, m => by
    unfold exec
    exact RK.ok
  | .raise k x, e, m => by
    unfold exec
    refine RK.bind ((sem_k hk x).g e m) fun _ e1 m1 => ?_
    repeat' (first | exact RK.ok | exact RK.stuck | exact RK.exc | exact RK.of | assumption | (intro _) | split)
theorem execs_k (hk : ∀ f us m, FK m (call f us m)) : ∀ (l : List S) (e : Slots) (m : Cels), RK m (execs G call l e m)
  | [], e, m => by
    unfold execs
    exact RK.ok
  | s :: r, e, m => by
    unfold execs
    refine RK.bind (exec_k hk s e m) fun f e1 m1 => ?_
    cases f with
    | nx => exact execs_k hk r e1 m1
    | cont => exact RK.ok
    | brk => exact RK.ok
    | ret v => exact RK.ok
end
theorem outcome_k {m : Cels} {r : Res Fl} (h : RK m r) : FK m (outcome r) := by
  cases r with
  | stuck => exact True.intro
  | exc _ _ _ _ => exact h
  | ok f e m' =>
    cases f with
    | nx => exact h
    | ret v => exact h
    | brk => exact True.intro
    | cont => exact True.intro
end
theorem callD_k {G : List D} {F : List Fn} : ∀ (n f : Nat) (us : List Vl) (m : Cels), FK m (callD G F n f us m)
  | 0, f, us, m => True.intro
  | n + 1, f, us, m => by
    unfold callD
    split
    · split
      · exact outcome_k (execs_k (callD_k n) _ _ m)
      · exact True.intro
    · exact True.intro
/-- a table stays through a call -/
theorem tbl_call {G : List D} {F : List Fn} {n f : Nat} {us : List Vl} {m m' : Cels} {v : Vl} (h : callD G F n f us m = .ok v m') {j : Nat} {q : Str} (e : m[j]? = some (.tbl q)) : m'[j]? = some (.tbl q) := by
  have := callD_k (G := G) (F := F) n f us m
  rw [h] at this
  exact this j q e
end Pv

/-! PvN: members as data; tables. -/
namespace Pv
open PySem

abbrev N (x : Nat) : D := .int (x : Int)
def T (xs : List Nat) : D := .tuple (xs.map N)
def tab (n : Nat) (g : Nat → D) : List D := (List.range n).map g

/-! ### shapes -/
theorem shpAll_map {α : Type} (n : Nat) (f : α → D) : ∀ (xs : List α), (∀ x ∈ xs, shp n (f x) = true) → shpAll n (xs.map f) = true
  | [], _ => rfl
  | x :: xs, h => by
    rw [List.map_cons, shpAll, h x List.mem_cons_self, Bool.true_and]
    exact shpAll_map n f xs fun y hy => h y (List.mem_cons_of_mem _ hy)
theorem shp_N (n x : Nat) : shp n (N x) = true := by cases n <;> rfl
theorem shpAll_N (n : Nat) (xs : List Nat) : shpAll n (xs.map N) = true := shpAll_map n N xs fun x _ => shp_N n x
theorem shp_T (n : Nat) (xs : List Nat) : shp (n + 1) (T xs) = true := shpAll_N n xs
mutual
theorem shp_succ : ∀ (n : Nat) (x : D), shp n x = true → shp (n + 1) x = true
  | _, .none, _ => by cases ‹Nat› <;> rfl
  | _, .bool _, _ => by cases ‹Nat› <;> rfl
  | _, .int _, _ => by cases ‹Nat› <;> rfl
  | _, .str _, _ => by cases ‹Nat› <;> rfl
  | 0, .list _, h => by cases h
  | 0, .tuple _, h => by cases h
  | n + 1, .list xs, h => shpAll_succ n xs h
  | n + 1, .tuple xs, h => shpAll_succ n xs h
  | 0, .dict _, h => by cases h
  | _ + 1, .dict _, h => by cases h
theorem shpAll_succ : ∀ (n : Nat) (xs : List D), shpAll n xs = true → shpAll (n + 1) xs = true
  | _, [], _ => by cases ‹Nat› <;> rfl
  | n, x :: xs, h => by
    rw [shpAll, Bool.and_eq_true] at h
    rw [shpAll, shp_succ n x h.1, shpAll_succ n xs h.2]
    rfl
end
theorem shp_le {n m : Nat} {x : D} (h : shp n x = true) (l : n ≤ m) : shp m x = true := by
  obtain ⟨k, rfl⟩ := Nat.le.dest l
  clear l
  induction k with
  | zero => exact h
  | succ k ih => exact shp_succ _ _ ih
theorem shp_seq {n : Nat} {d : D} {xs : List D} (h : seqOf d = some xs) (hx : shpAll n xs = true) : shp (n + 1) d = true := by
  cases d <;> first | (cases h; exact hx) | cases h

/-! ### equal, in -/
mutual
theorem eqv_refl : ∀ (n : Nat) (x : D), shp n x = true → PyData.eqv x x = true
  | _, .none, _ => rfl
  | _, .bool b, _ => by simp [PyData.eqv]
  | _, .int _, _ => by simp [PyData.eqv]
  | _, .str _, _ => by simp [PyData.eqv]
  | 0, .list _, h => by cases h
  | 0, .tuple _, h => by cases h
  | n + 1, .list xs, h => eqvAll_refl n xs h
  | n + 1, .tuple xs, h => eqvAll_refl n xs h
  | 0, .dict _, h => by cases h
  | _ + 1, .dict _, h => by cases h
theorem eqvAll_refl : ∀ (n : Nat) (xs : List D), shpAll n xs = true → PyData.eqvAll xs xs = true
  | _, [], _ => rfl
  | n, x :: xs, h => by
    rw [shpAll, Bool.and_eq_true] at h
    rw [PyData.eqvAll, eqv_refl n x h.1, eqvAll_refl n xs h.2]
    rfl
end
theorem eqv_N (a b : Nat) : PyData.eqv (N a) (N b) = decide (a = b) := by
  show ((a : Int) == (b : Int)) = _
  by_cases h : a = b
  · subst h; simp
  · have : ¬ (a : Int) = b := by omega
    simp [h, this]
/-- a map that keeps and tells what is equal -/
def Tells {α : Type} [DecidableEq α] (f : α → D) : Prop := ∀ a b, PyData.eqv (f a) (f b) = decide (a = b)
theorem tells_N : Tells N := eqv_N
theorem eqvAll_map {α : Type} [DecidableEq α] {f : α → D} (h : Tells f) : ∀ (xs ys : List α), PyData.eqvAll (xs.map f) (ys.map f) = decide (xs = ys)
  | [], [] => rfl
  | [], _ :: _ => rfl
  | _ :: _, [] => rfl
  | x :: xs, y :: ys => by
    rw [List.map_cons, List.map_cons, PyData.eqvAll, h, eqvAll_map h xs ys]
    simp
theorem tells_T : Tells T := fun a b => eqvAll_map tells_N a b
theorem inD_map {α : Type} [DecidableEq α] {f : α → D} (h : Tells f) (x : α) : ∀ (xs : List α), inD (f x) (xs.map f) = decide (x ∈ xs)
  | [] => rfl
  | y :: ys => by
    rw [List.map_cons, inD, h, inD_map h x ys]
    by_cases hx : x = y
    · subst hx; simp
    · have : ¬ y = x := fun h => hx h.symm
      simp [hx, this]
theorem inOp_seq {α : Type} [DecidableEq α] {f : α → D} (h : Tells f) (hs : ∀ a, shp 59 (f a) = true) {d : D} {xs : List α} (hd : seqOf d = some (xs.map f)) (x : α) : inOp (f x) d = some (decide (x ∈ xs)) := by
  have h1 : okD (f x) = true := shp_succ 59 _ (hs x)
  have h2 : okD d = true := shp_seq hd (shpAll_map 59 f xs fun a _ => hs a)
  cases d <;> first | (cases hd; done) | skip
  · cases hd
    show (if okD (f x) && okD _ then _ else _) = _
    rw [h1, h2, inD_map h]
    rfl
  · cases hd
    show (if okD (f x) && okD _ then _ else _) = _
    rw [h1, h2, inD_map h]
    rfl
theorem inOp_N {d : D} {xs : List Nat} (hd : seqOf d = some (xs.map N)) (x : Nat) : inOp (.int (x : Int)) d = some (decide (x ∈ xs)) := inOp_seq tells_N (fun a => shp_N 59 a) hd x
theorem seqOf_T (xs : List Nat) : seqOf (T xs) = some (xs.map N) := rfl

/-! ### tables -/
theorem tab_len (n : Nat) (g : Nat → D) : (tab n g).length = n := by simp [tab]
theorem tab_at {n : Nat} {g : Nat → D} {i : Nat} (h : i < n) : (tab n g)[i]? = some (g i) := by
  simp [tab, h]
theorem tab_succ (n : Nat) (g : Nat → D) : tab n g ++ [g n] = tab (n + 1) g := by simp [tab, List.range_succ]
theorem atD_nat (xs : List D) (i : Nat) : atD xs (i : Int) = xs[i]? := by
  unfold atD ixOf
  rw [if_pos (by omega)]
  by_cases h : i < xs.length
  · rw [if_pos (by omega)]
    simp
  · rw [if_neg (by omega)]
    simp only [Option.bind]
    rw [List.getElem?_eq_none (by omega)]
theorem atD_tab {n : Nat} {g : Nat → D} {i : Nat} (h : i < n) : atD (tab n g) (i : Int) = some (g i) := by
  rw [atD_nat, tab_at h]
theorem ixD_nat {d : D} {xs : List D} (h : seqOf d = some xs) (i : Nat) (x : D) (hi : xs[i]? = some x) : ixD d (.int (i : Int)) = some (.d x) := by
  unfold ixD
  rw [h]
  show (atD xs i).map Vl.d = _
  rw [atD_nat, hi]
  rfl
theorem ixD_tab {d : D} {n : Nat} {g : Nat → D} (h : seqOf d = some (tab n g)) {i : Nat} (hi : i < n) : ixD d (.int (i : Int)) = some (.d (g i)) := ixD_nat h i _ (tab_at hi)
theorem len_seq {d : D} {xs : List D} (h : seqOf d = some xs) : b1Op .len d = some (.d (.int xs.length)) := by
  cases d <;> first | (cases h; rfl) | cases h
theorem len_tab {d : D} {n : Nat} {g : Nat → D} (h : seqOf d = some (tab n g)) : b1Op .len d = some (.d (.int n)) := by
  rw [len_seq h, tab_len]
theorem max_N (a b : Nat) : b2Op .max2 (.int (a : Int)) (.int (b : Int)) = some (.d (.int ((max a b : Nat) : Int))) := by
  show some (Vl.d (.int (if (b : Int) > a then (b : Int) else a))) = _
  congr 3
  split <;> omega
theorem min_N (a b : Nat) : b2Op .min2 (.int (a : Int)) (.int (b : Int)) = some (.d (.int ((min a b : Nat) : Int))) := by
  show some (Vl.d (.int (if (b : Int) < a then (b : Int) else a))) = _
  congr 3
  split <;> omega

/-! ### what the blocks rest on -/
def joinedFn : Fn := ⟨3, [
  .ret (.cmp .isin (.b2 .min2 (.var 1) (.var 2)) (.ix (.var 0) (.b2 .max2 (.var 1) (.var 2))))]⟩
/-- rows of members -/
structure Rows (d : D) (n : Nat) (r : Nat → List Nat) : Prop where
  sq : ∃ g, seqOf d = some (tab n g) ∧ ∀ i, i < n → seqOf (g i) = some ((r i).map N)
theorem Rows.ix {d : D} {n : Nat} {r : Nat → List Nat} (h : Rows d n r) {i : Nat} (hi : i < n) : ∃ x, ixD d (.int (i : Int)) = some (.d x) ∧ seqOf x = some ((r i).map N) := by
  obtain ⟨g, h1, h2⟩ := h.sq
  exact ⟨g i, ixD_tab h1 hi, h2 i hi⟩
theorem Rows.len {d : D} {n : Nat} {r : Nat → List Nat} (h : Rows d n r) : b1Op .len d = some (.d (.int n)) := by
  obtain ⟨g, h1, h2⟩ := h.sq
  exact len_tab h1
/-- joined by what was found -/
def J (r : Nat → List Nat) (a b : Nat) : Prop := min a b ∈ r (max a b)
instance (r : Nat → List Nat) (a b : Nat) : Decidable (J r a b) := inferInstanceAs (Decidable (_ ∈ _))
theorem joined_spec {G : List D} {F : List Fn} {i : Nat} (hF : F[i]? = some joinedFn) (n : Nat) (m : Cels) {d : D} {k : Nat} {r : Nat → List Nat} (hd : Rows d k r) (a b : Nat) (ha : a < k) (hb : b < k) :
    callD G F (n + 1) i [.d d, .d (.int a), .d (.int b)] m = .ok (.d (.bool (decide (J r a b)))) m := by
  obtain ⟨x, h1, h2⟩ := hd.ix (i := max a b) (by omega)
  simp [startE, Pv.execs, Pv.exec, sem, sems, Sm.mk', Sm.g, Sm.r, Sm.c, Sm.o, getV, takeV, two2, one1, dispV, smG, smV, smA, lentOf, frzAll, frz_d, frz_own, frzArg, bindT, bindTs, dat_d, dat_own, datAll, tOf, Res.of, outcome, compV, itW, wipeE, callV, callPV, callLV, lentRes, celV, arrange, pureRes, callRes, restoreE, noLst, andV, orV, notV, andT, orT, notT, iteV, boolR, ownAt, parB, sliceV, inrV, chainV, cidxV, truth, len_list, len_tuple, tup_list, tup_tuple, lst_list, lst_tuple, toint_b, cmpOp, callD, hF, joinedFn, max_N, min_N, h1, inOp_N h2]
  rfl
end Pv

/-! PvB: blocks in plain Lean. -/
namespace Pv
open PySem

/-! ### ascending lists -/
abbrev Asc (l : List Nat) : Prop := l.Pairwise (· < ·)
theorem Asc.nodup {l : List Nat} (h : Asc l) : l.Nodup := h.imp fun h => Nat.ne_of_lt h
theorem asc_ext : ∀ {a b : List Nat}, Asc a → Asc b → (∀ x, x ∈ a ↔ x ∈ b) → a = b
  | [], [], _, _, _ => rfl
  | [], y :: _, _, _, h => by have := (h y).mpr List.mem_cons_self; cases this
  | x :: _, [], _, _, h => by have := (h x).mp List.mem_cons_self; cases this
  | x :: xs, y :: ys, ha, hb, h => by
    have ha' := List.pairwise_cons.mp ha
    have hb' := List.pairwise_cons.mp hb
    have e : x = y := by
      have h1 := (h x).mp List.mem_cons_self
      have h2 := (h y).mpr List.mem_cons_self
      rcases List.mem_cons.mp h1 with r | r
      · exact r
      · rcases List.mem_cons.mp h2 with r' | r'
        · exact r'.symm
        · have := ha'.1 y r'
          have := hb'.1 x r
          omega
    subst e
    congr 1
    refine asc_ext ha'.2 hb'.2 fun z => ?_
    have hz := h z
    constructor
    · intro hm
      have : x < z := ha'.1 z hm
      rcases List.mem_cons.mp (hz.mp (List.mem_cons_of_mem _ hm)) with r | r
      · omega
      · exact r
    · intro hm
      have : x < z := hb'.1 z hm
      rcases List.mem_cons.mp (hz.mpr (List.mem_cons_of_mem _ hm)) with r | r
      · omega
      · exact r
theorem asc_range (n : Nat) : Asc (List.range n) := List.pairwise_lt_range
theorem Asc.filter {l : List Nat} (h : Asc l) (p : Nat → Bool) : Asc (l.filter p) := List.Pairwise.sublist List.filter_sublist h

/-! ### sorting -/
def insN (x : Nat) : List Nat → List Nat
  | [] => [x]
  | y :: r => if x ≤ y then x :: y :: r else y :: insN x r
def sortN : List Nat → List Nat
  | [] => []
  | x :: r => insN x (sortN r)
theorem insI_N (x : Nat) : ∀ l : List Nat, insI (x : Int) (l.map Nat.cast) = (insN x l).map Nat.cast
  | [] => rfl
  | y :: r => by
    rw [List.map_cons, insI, insN]
    by_cases h : x ≤ y
    · rw [if_pos (by omega), if_pos h]; rfl
    · rw [if_neg (by omega), if_neg h, insI_N x r]; rfl
theorem sortI_N : ∀ l : List Nat, sortI (l.map Nat.cast) = (sortN l).map Nat.cast
  | [] => rfl
  | x :: r => by
    rw [List.map_cons, sortI, sortN, sortI_N r, insI_N]
theorem mem_insN (x y : Nat) : ∀ l, y ∈ insN x l ↔ y = x ∨ y ∈ l
  | [] => by simp [insN]
  | z :: r => by
    rw [insN]
    split
    · simp
    · rw [List.mem_cons, mem_insN x y r, List.mem_cons]
      constructor <;> (intro h; rcases h with h | h | h <;> simp [h])
theorem mem_sortN (y : Nat) : ∀ l, y ∈ sortN l ↔ y ∈ l
  | [] => by simp [sortN]
  | x :: r => by rw [sortN, mem_insN, mem_sortN y r, List.mem_cons]
theorem insN_le (x : Nat) : ∀ l, l.Pairwise (· ≤ ·) → (insN x l).Pairwise (· ≤ ·)
  | [], _ => by simp [insN]
  | y :: r, h => by
    have h' := List.pairwise_cons.mp h
    rw [insN]
    split
    · refine List.pairwise_cons.mpr ⟨fun z hz => ?_, h⟩
      rcases List.mem_cons.mp hz with e | e
      · omega
      · have := h'.1 z e; omega
    · refine List.pairwise_cons.mpr ⟨fun z hz => ?_, insN_le x r h'.2⟩
      rcases (mem_insN x z r).mp hz with e | e
      · omega
      · exact h'.1 z e
theorem sortN_le : ∀ l, (sortN l).Pairwise (· ≤ ·)
  | [] => by simp [sortN]
  | x :: r => insN_le x _ (sortN_le r)
theorem insN_perm (x : Nat) : ∀ l, (insN x l).Perm (x :: l)
  | [] => by simp [insN]
  | y :: r => by
    rw [insN]
    split
    · exact .refl _
    · exact ((insN_perm x r).cons y).trans (.swap x y r)
theorem sortN_perm : ∀ l, (sortN l).Perm l
  | [] => .refl _
  | x :: r => (insN_perm x _).trans ((sortN_perm r).cons x)
theorem sortN_asc {l : List Nat} (h : l.Nodup) : Asc (sortN l) := by
  have h1 := sortN_le l
  have h2 : (sortN l).Nodup := (sortN_perm l).nodup_iff.mpr h
  have := h1.and h2
  exact this.imp fun ⟨a, b⟩ => Nat.lt_of_le_of_ne a b
theorem sortN_id {l : List Nat} (h : Asc l) : sortN l = l := asc_ext (sortN_asc h.nodup) h fun x => mem_sortN x l

/-! ### what hangs together -/
/-- y hangs together with a over bs, by what was found -/
inductive Cn' (r : Nat → List Nat) (bs : List Nat) (a : Nat) : Nat → Prop
  | refl : Cn' r bs a a
  | step {x y : Nat} : Cn' r bs a x → y ∈ bs → J r x y → Cn' r bs a y
theorem J.symm {r : Nat → List Nat} {a b : Nat} (h : J r a b) : J r b a := by
  unfold J at *
  rw [Nat.min_comm, Nat.max_comm]
  exact h
theorem Cn'.mem {r : Nat → List Nat} {bs : List Nat} {a y : Nat} (h : Cn' r bs a y) (ha : a ∈ bs) : y ∈ bs := by
  cases h with
  | refl => exact ha
  | step _ h _ => exact h
theorem Cn'.trans {r : Nat → List Nat} {bs : List Nat} {a b c : Nat} (h : Cn' r bs a b) (h2 : Cn' r bs b c) : Cn' r bs a c := by
  induction h2 with
  | refl => exact h
  | step _ h3 h4 ih => exact .step ih h3 h4
theorem Cn'.symm {r : Nat → List Nat} {bs : List Nat} {a b : Nat} (ha : a ∈ bs) (h : Cn' r bs a b) : Cn' r bs b a := by
  induction h with
  | refl => exact .refl
  | step h1 h3 h4 ih =>
    exact Cn'.trans (.step .refl (h1.mem ha) h4.symm) ih
theorem Cn'.congr {r r' : Nat → List Nat} {bs : List Nat} {a y : Nat} (hr : ∀ x z, x ∈ bs → z ∈ bs → (J r x z ↔ J r' x z)) (ha : a ∈ bs) (h : Cn' r bs a y) : Cn' r' bs a y := by
  induction h with
  | refl => exact .refl
  | step h1 h3 h4 ih => exact .step ih h3 ((hr _ _ (h1.mem ha) h3).mp h4)

/-! ### blocks -/
open Classical in
/-- a member's block, by those of the smaller ones -/
noncomputable def stepB (R : Nat → List Nat) (ch : Nat → Nat) (P : List Nat) (r : Nat → List Nat) (w : Nat) : List Nat :=
  if w = 0 then [] else if w ∈ P then [ch w] else (List.range w).filter fun y => decide (Cn' r (R w) (ch w) y)
noncomputable def blkF (R : Nat → List Nat) (ch : Nat → Nat) (P : List Nat) : Nat → Nat → List Nat
  | 0 => fun _ => []
  | k + 1 => fun i => if i = k then stepB R ch P (blkF R ch P k) k else blkF R ch P k i
noncomputable def blk (R : Nat → List Nat) (ch : Nat → Nat) (P : List Nat) (w : Nat) : List Nat := blkF R ch P (w + 1) w
theorem blkF_lt {R : Nat → List Nat} {ch : Nat → Nat} {P : List Nat} {i : Nat} : ∀ {k : Nat}, i < k → blkF R ch P k i = blk R ch P i
  | k + 1, h => by
    by_cases e : i = k
    · subst e; rfl
    · rw [blkF]
      simp only [e, if_false]
      exact blkF_lt (by omega)
/-- lists of allowed bosses for n members -/
structure Good (n : Nat) (R : Nat → List Nat) : Prop where
  pos : 0 < n
  zero : R 0 = []
  ne : ∀ i, 0 < i → i < n → R i ≠ []
  asc : ∀ i, i < n → Asc (R i)
  lt : ∀ i, i < n → ∀ x ∈ R i, x < i
/-- a chart for them -/
def Chart (n : Nat) (R : Nat → List Nat) (ch : Nat → Nat) : Prop := ∀ i, 0 < i → i < n → ch i ∈ R i
theorem blk_zero (R : Nat → List Nat) (ch : Nat → Nat) (P : List Nat) : blk R ch P 0 = [] := by simp [blk, blkF, stepB]
theorem blk_pin {R : Nat → List Nat} {ch : Nat → Nat} {P : List Nat} {w : Nat} (h0 : 0 < w) (h : w ∈ P) : blk R ch P w = [ch w] := by
  have : ¬ w = 0 := by omega
  simp [blk, blkF, stepB, this, h]
theorem J_blkF {R : Nat → List Nat} {ch : Nat → Nat} {P : List Nat} {w x z : Nat} (hx : x < w) (hz : z < w) : J (blkF R ch P w) x z ↔ J (blk R ch P) x z := by
  unfold J
  rw [blkF_lt (show max x z < w by omega)]
/-- whom a block has -/
theorem mem_blk {n : Nat} {R : Nat → List Nat} {ch : Nat → Nat} {P : List Nat} (g : Good n R) (c : Chart n R ch) {w : Nat} (h0 : 0 < w) (hw : w < n) (hp : w ∉ P) (y : Nat) : y ∈ blk R ch P w ↔ Cn' (blk R ch P) (R w) (ch w) y := by
  have h1 : ¬ w = 0 := by omega
  have hR := g.lt w hw
  simp only [blk, blkF, stepB, h1, hp, if_true, if_false, List.mem_filter, List.mem_range, decide_eq_true_eq]
  constructor
  · intro ⟨_, h⟩
    exact h.congr (fun x z hx hz => J_blkF (hR x hx) (hR z hz)) (c w h0 hw)
  · intro h
    refine ⟨hR y (h.mem (c w h0 hw)), ?_⟩
    exact h.congr (fun x z hx hz => (J_blkF (hR x hx) (hR z hz)).symm) (c w h0 hw)
theorem blk_asc (R : Nat → List Nat) (ch : Nat → Nat) (P : List Nat) (w : Nat) : Asc (blk R ch P w) := by
  simp only [blk, blkF, if_true, stepB]
  split
  · simp
  · split
    · simp
    · exact (asc_range w).filter _
theorem blk_sub {n : Nat} {R : Nat → List Nat} {ch : Nat → Nat} {P : List Nat} (g : Good n R) (c : Chart n R ch) {w : Nat} (hw : w < n) {y : Nat} (h : y ∈ blk R ch P w) : y ∈ R w := by
  by_cases h0 : w = 0
  · subst h0; rw [blk_zero] at h; cases h
  · by_cases hp : w ∈ P
    · rw [blk_pin (by omega) hp] at h
      rw [List.mem_singleton.mp h]
      exact c w (by omega) hw
    · exact ((mem_blk g c (by omega) hw hp y).mp h).mem (c w (by omega) hw)
theorem blk_self {n : Nat} {R : Nat → List Nat} {ch : Nat → Nat} {P : List Nat} (g : Good n R) (c : Chart n R ch) {w : Nat} (h0 : 0 < w) (hw : w < n) : ch w ∈ blk R ch P w := by
  by_cases hp : w ∈ P
  · rw [blk_pin h0 hp]; exact List.mem_singleton_self _
  · exact (mem_blk g c h0 hw hp _).mpr .refl
theorem blk_lt {n : Nat} {R : Nat → List Nat} {ch : Nat → Nat} {P : List Nat} (g : Good n R) (c : Chart n R ch) {w : Nat} (hw : w < n) {y : Nat} (h : y ∈ blk R ch P w) : y < w := g.lt w hw y (blk_sub g c hw h)
/-- a list that has whom the block has is the block -/
theorem blk_uniq {n : Nat} {R : Nat → List Nat} {ch : Nat → Nat} {P : List Nat} (g : Good n R) (c : Chart n R ch) {w : Nat} (h0 : 0 < w) (hw : w < n) (hp : w ∉ P) {l : List Nat} (hl : Asc l) (h : ∀ y, y ∈ l ↔ Cn' (blk R ch P) (R w) (ch w) y) : l = blk R ch P w :=
  asc_ext hl (blk_asc R ch P w) fun y => (h y).trans (mem_blk g c h0 hw hp y).symm

/-! ### a chart with bosses of the blocks has the same blocks -/
theorem blk_same {n : Nat} {R R' : Nat → List Nat} {ch ch' : Nat → Nat} {P P' : List Nat} (g : Good n R) (c : Chart n R ch) (w : Nat) (hw : w < n) (hR : ∀ i, i ≤ w → R' i = R i) (hP : ∀ i, i ≤ w → (i ∈ P' ↔ i ∈ P)) (h : ∀ i, 0 < i → i ≤ w → ch' i ∈ blk R ch P i) : ∀ i, i ≤ w → blk R' ch' P' i = blk R ch P i := by
  have g' : Good (w + 1) R' := ⟨by omega, by rw [hR 0 (by omega)]; exact g.zero, fun i h0 hi => by rw [hR i (by omega)]; exact g.ne i h0 (by omega), fun i hi => by rw [hR i (by omega)]; exact g.asc i (by omega), fun i hi => by rw [hR i (by omega)]; exact g.lt i (by omega)⟩
  have c' : Chart (w + 1) R' ch' := fun i h0 hi => by rw [hR i (by omega)]; exact blk_sub g c (by omega) (h i h0 (by omega))
  intro i
  induction i using Nat.strongRecOn with
  | ind i ih =>
    intro hi
    by_cases h0 : i = 0
    · subst h0; rw [blk_zero, blk_zero]
    · by_cases hp : i ∈ P
      · have := h i (by omega) hi
        rw [blk_pin (by omega) hp] at this
        rw [blk_pin (by omega) hp, blk_pin (by omega) ((hP i hi).mpr hp), List.mem_singleton.mp this]
      · have hp' : i ∉ P' := fun x => hp ((hP i hi).mp x)
        have hb := (mem_blk g c (by omega) (by omega) hp _).mp (h i (by omega) hi)
        have hJ : ∀ x z, x ∈ R i → z ∈ R i → (J (blk R' ch' P') x z ↔ J (blk R ch P) x z) := by
          intro x z hx hz
          have hx' := g.lt i (by omega) x hx
          have hz' := g.lt i (by omega) z hz
          unfold J
          rw [ih (max x z) (by omega) (by omega)]
        refine blk_uniq g c (by omega) (by omega) hp (blk_asc _ _ _ _) fun y => ?_
        rw [mem_blk g' c' (by omega) (by omega) hp', hR i hi]
        have hc := c i (by omega) (by omega)
        constructor
        · intro hy
          exact hb.trans (hy.congr hJ (hb.mem hc))
        · intro hy
          exact ((hb.symm hc).trans hy).congr (fun x z hx hz => (hJ x z hx hz).symm) (hb.mem hc)
/-- .. for all members at once -/
theorem blk_class {n : Nat} {R : Nat → List Nat} {ch ch' : Nat → Nat} {P : List Nat} (g : Good n R) (c : Chart n R ch) (h : ∀ i, 0 < i → i < n → ch' i ∈ blk R ch P i) {i : Nat} (hi : i < n) : blk R ch' P i = blk R ch P i :=
  blk_same g c i hi (fun _ _ => rfl) (fun _ _ => .rfl) (fun j h0 hj => h j h0 (by omega)) i (Nat.le_refl i)
end Pv

/-! PvO: loops; the walks of component and blocks. -/
namespace Pv
open PySem

section
variable {G : List D} {call : Nat → List Vl → Cels → FRes}
theorem callD_eq {F : List Fn} {i n : Nat} {fn : Fn} {us : List Vl} {m : Cels} (hF : F[i]? = some fn) (hl : us.length ≤ fn.slots) : callD G F (n + 1) i us m = outcome (Pv.execs G (callD G F n) fn.body (startE fn.slots us) m) := by
  rw [callD, hF]
  exact if_pos hl
theorem while_inv {test : Slots → Cels → Res Bool} {body : Slots → Cels → Res Fl} (I : Nat → Slots → Cels → Prop) (Q : Slots → Cels → Prop)
    (ht : ∀ k e m, I k e m → (∃ e1 m1, test e m = .ok false e1 m1 ∧ Q e1 m1) ∨ ∃ e1 m1 e2 m2 k', test e m = .ok true e1 m1 ∧ body e1 m1 = .ok .nx e2 m2 ∧ k' < k ∧ I k' e2 m2) :
    ∀ (n k : Nat) (e : Slots) (m : Cels), k < n → I k e m → ∃ e' m', whileL test body n e m = .ok .nx e' m' ∧ Q e' m'
  | 0, k, _, _, h, _ => absurd h (Nat.not_lt_zero k)
  | n + 1, k, e, m, h, i => by
    rcases ht k e m i with ⟨e1, m1, h1, h2⟩ | ⟨e1, m1, e2, m2, k', h1, h2, h3, h4⟩
    · exact ⟨e1, m1, by unfold whileL; rw [h1]; rfl, h2⟩
    · obtain ⟨e3, m3, h5, h6⟩ := while_inv I Q ht n k' e2 m2 (by omega) h4
      refine ⟨e3, m3, ?_, h6⟩
      unfold whileL
      rw [h1, Res.bind_ok]
      dsimp only
      rw [h2, Res.bind_ok]
      exact h5
theorem while_ok {n : Nat} {c : X} {body : List S} (I : Nat → Slots → Cels → Prop) (Q : Slots → Cels → Prop) (k : Nat) {e : Slots} {m : Cels} (h0 : I k e m) (hk : k < n)
    (ht : ∀ k e m, I k e m → (∃ e1 m1, (sem G call c).t e m = .ok false e1 m1 ∧ Q e1 m1) ∨ ∃ e1 m1 e2 m2 k', (sem G call c).t e m = .ok true e1 m1 ∧ Pv.execs G call body e1 m1 = .ok .nx e2 m2 ∧ k' < k ∧ I k' e2 m2) :
    ∃ e' m', Pv.exec G call (.while n c body) e m = .ok .nx e' m' ∧ Q e' m' :=
  while_inv (test := (sem G call c).t) (body := Pv.execs G call body) I Q ht n k e m hk h0
theorem forL_ix {turn : D → Slots → Cels → Res Fl} (I : Nat → Slots → Cels → Prop) : ∀ (items : List D) (j0 : Nat) (e : Slots) (m : Cels), I j0 e m →
    (∀ j x e m, items[j]? = some x → I (j0 + j) e m → ∃ e' m', (turn x e m = .ok .nx e' m' ∨ turn x e m = .ok .cont e' m') ∧ I (j0 + j + 1) e' m') → ∃ e' m', forL turn items e m = .ok .nx e' m' ∧ I (j0 + items.length) e' m'
  | [], j0, e, m, h, _ => ⟨e, m, rfl, h⟩
  | x :: xs, j0, e, m, h, hs => by
    obtain ⟨e1, m1, h1, h2⟩ := hs 0 x e m rfl h
    obtain ⟨e2, m2, h3, h4⟩ := forL_ix I xs (j0 + 1) e1 m1 h2 fun j y e m hy hI => by
      have := hs (j + 1) y e m hy (by rw [show j0 + (j + 1) = j0 + 1 + j by omega]; exact hI)
      rw [show j0 + (j + 1) = j0 + 1 + j by omega] at this
      exact this
    refine ⟨e2, m2, ?_, by rw [List.length_cons, show j0 + (xs.length + 1) = j0 + 1 + xs.length by omega]; exact h4⟩
    unfold forL
    rcases h1 with h1 | h1
    · rw [h1, Res.bind_ok]; exact h3
    · rw [h1, Res.bind_ok]; exact h3
/-- a for whose turns go on -/
theorem for_ok {t : Tg} {k : IK} {as : List X} {body : List S} (I : Nat → Slots → Cels → Prop) {e e0 : Slots} {m m0 : Cels} {items : List D}
    (hi : itW (smG (sems G call as) e m) k = .ok items e0 m0) (h0 : I 0 e0 m0)
    (hs : ∀ j x e m, items[j]? = some x → I j e m → ∃ e1, bindT t (.d x) e = some e1 ∧ ∃ e2 m2, (Pv.execs G call body e1 m = .ok .nx e2 m2 ∨ Pv.execs G call body e1 m = .ok .cont e2 m2) ∧ I (j + 1) e2 m2) :
    ∃ e' m', Pv.exec G call (.for t k as body) e m = .ok .nx e' m' ∧ I items.length e' m' := by
  obtain ⟨e', m', h1, h2⟩ := forL_ix (turn := fun x e m => match bindT t (.d x) e with
    | some e => Pv.execs G call body e m
    | none => .stuck) I items 0 e0 m0 h0 fun j x e m hx hI => by
      rw [Nat.zero_add] at hI ⊢
      obtain ⟨e1, h1, e2, m2, h2, h3⟩ := hs j x e m hx hI
      exact ⟨e2, m2, by rw [h1]; exact h2, h3⟩
  rw [Nat.zero_add] at h2
  refine ⟨e', m', ?_, h2⟩
  unfold Pv.exec
  rw [hi, Res.bind_ok]
  exact h1
/-- .. that returns at the first item at which stop says so -/
theorem forL_first {turn : D → Slots → Cels → Res Fl} (I : Nat → Slots → Cels → Prop) (Q : Nat → Vl → Slots → Cels → Prop) : ∀ (items : List D) (j0 : Nat) (e : Slots) (m : Cels), I j0 e m →
    (∀ j x e m, items[j]? = some x → I (j0 + j) e m → (∃ e' m', (turn x e m = .ok .nx e' m' ∨ turn x e m = .ok .cont e' m') ∧ I (j0 + j + 1) e' m') ∨ ∃ v e' m', turn x e m = .ok (.ret v) e' m' ∧ Q (j0 + j) v e' m') → (∃ e' m', forL turn items e m = .ok .nx e' m' ∧ I (j0 + items.length) e' m') ∨ ∃ j v e' m', forL turn items e m = .ok (.ret v) e' m' ∧ Q (j0 + j) v e' m'
  | [], j0, e, m, h, _ => .inl ⟨e, m, rfl, h⟩
  | x :: xs, j0, e, m, h, hs => by
    rcases hs 0 x e m rfl h with ⟨e1, m1, h1, h2⟩ | ⟨v, e1, m1, h1, h2⟩
    · rcases forL_first I Q xs (j0 + 1) e1 m1 h2 fun j y e m hy hI => by
        have := hs (j + 1) y e m hy (by rw [show j0 + (j + 1) = j0 + 1 + j by omega]; exact hI)
        rw [show j0 + (j + 1) = j0 + 1 + j by omega] at this
        exact this with ⟨e2, m2, h3, h4⟩ | ⟨j, v, e2, m2, h3, h4⟩
      · refine .inl ⟨e2, m2, ?_, by rw [List.length_cons, show j0 + (xs.length + 1) = j0 + 1 + xs.length by omega]; exact h4⟩
        unfold forL
        rcases h1 with h1 | h1 <;> (rw [h1, Res.bind_ok]; exact h3)
      · refine .inr ⟨j + 1, v, e2, m2, ?_, by rw [show j0 + (j + 1) = j0 + 1 + j by omega]; exact h4⟩
        unfold forL
        rcases h1 with h1 | h1 <;> (rw [h1, Res.bind_ok]; exact h3)
    · refine .inr ⟨0, v, e1, m1, ?_, h2⟩
      unfold forL
      rw [h1]
      rfl
theorem for_first {t : Tg} {k : IK} {as : List X} {body : List S} (I : Nat → Slots → Cels → Prop) (Q : Nat → Vl → Slots → Cels → Prop) {e e0 : Slots} {m m0 : Cels} {items : List D}
    (hi : itW (smG (sems G call as) e m) k = .ok items e0 m0) (h0 : I 0 e0 m0)
    (hs : ∀ j x e m, items[j]? = some x → I j e m → ∃ e1, bindT t (.d x) e = some e1 ∧ ((∃ e2 m2, (Pv.execs G call body e1 m = .ok .nx e2 m2 ∨ Pv.execs G call body e1 m = .ok .cont e2 m2) ∧ I (j + 1) e2 m2) ∨ ∃ v e2 m2, Pv.execs G call body e1 m = .ok (.ret v) e2 m2 ∧ Q j v e2 m2)) :
    (∃ e' m', Pv.exec G call (.for t k as body) e m = .ok .nx e' m' ∧ I items.length e' m') ∨ ∃ j v e' m', Pv.exec G call (.for t k as body) e m = .ok (.ret v) e' m' ∧ Q j v e' m' := by
  have := forL_first (turn := fun x e m => match bindT t (.d x) e with
    | some e => Pv.execs G call body e m
    | none => .stuck) I Q items 0 e0 m0 h0 fun j x e m hx hI => by
      rw [Nat.zero_add] at hI ⊢
      obtain ⟨e1, h1, h2⟩ := hs j x e m hx hI
      rcases h2 with ⟨e2, m2, h2, h3⟩ | ⟨v, e2, m2, h2, h3⟩
      · exact .inl ⟨e2, m2, by rw [h1]; exact h2, h3⟩
      · exact .inr ⟨v, e2, m2, by rw [h1]; exact h2, h3⟩
  rw [Nat.zero_add] at this
  unfold Pv.exec
  rw [hi, Res.bind_ok]
  rcases this with h | ⟨j, v, e', m', h1, h2⟩
  · exact .inl h
  · rw [Nat.zero_add] at h2
    exact .inr ⟨j, v, e', m', h1, h2⟩
/-- a comprehension without a store in sight, over a table -/
theorem compL_tab {α : Type} {turn : D → Slots → Cels → Res (Option D)} {e : Slots} {m : Cels} (g : α → D) (h : α → Option D) : ∀ (xs : List α) (acc : List D), (∀ x ∈ xs, turn (g x) e m = .ok (h x) e m) → acc.length + xs.length ≤ lim → compL turn (xs.map g) acc e m = .ok (acc ++ xs.filterMap h) e m
  | [], acc, _, _ => by simp [compL]
  | x :: xs, acc, ht, hl => by
    rw [List.length_cons] at hl
    rw [List.map_cons]
    unfold compL
    rw [ht x List.mem_cons_self]
    cases hf : h x with
    | none =>
      dsimp only
      rw [compL_tab g h xs acc (fun z hz => ht z (List.mem_cons_of_mem _ hz)) (by omega), List.filterMap_cons_none hf]
    | some y =>
      dsimp only
      rw [if_pos (by omega), compL_tab g h xs (acc ++ [y]) (fun z hz => ht z (List.mem_cons_of_mem _ hz)) (by rw [List.length_append, List.length_singleton]; omega), List.filterMap_cons_some hf]
      simp
theorem filterMap_if {α : Type} (p : α → Bool) (k : α → D) : ∀ xs : List α, xs.filterMap (fun x => if p x then some (k x) else none) = (xs.filter p).map k
  | [] => rfl
  | x :: xs => by
    rw [List.filterMap_cons]
    by_cases h : p x
    · simp [h, filterMap_if p k xs]
    · simp [h, filterMap_if p k xs]
theorem filterMap_all {α : Type} (k : α → D) (xs : List α) : xs.filterMap (fun x => some (k x)) = xs.map k := by
  rw [← List.filterMap_eq_map]; rfl
theorem intsOf_N : ∀ xs : List Nat, intsOf (xs.map N) = some (xs.map Nat.cast)
  | [] => rfl
  | x :: xs => by
    rw [List.map_cons, intsOf, intsOf_N xs]
    rfl
theorem sorted_N (xs : List Nat) : b1Op .sorted (.list (xs.map N)) = some (.own ((sortN xs).map N)) := by
  show (match intsOf (xs.map N) with
    | some ns => some (Vl.own ((sortI ns).map .int))
    | none => none) = _
  rw [intsOf_N]
  dsimp only
  rw [sortI_N, List.map_map]
  rfl

/-! ### component -/
def compTest : X := .cmp .lt (.var 4) (.b1 .len (.var 3))
def compAll (j : Nat) : X := .comp (.v 6) [6] .seq [.var 1] (.and (.cmp .notin (.var 6) (.var 3)) (.callP j [.var 0, .var 5, .var 6] [.inl 0, .inl 1, .inl 2])) (.var 6)
def compBody (j : Nat) : List S := [.asg (.v 5) (.ix (.var 3) (.var 4)), .asg (.v 3) (.op .add (.var 3) (compAll j)), .aug 4 .add (.int 1)]
def compLoop (j : Nat) : S := .while 1000000 compTest (compBody j)
def compFn (j : Nat) : Fn := ⟨7, [
  .asg (.t [.v 3, .v 4]) (.tup [.lst [.var 2], .int 0]),
  compLoop j,
  .ret (.b1 .totuple (.b1 .sorted (.var 3)))]⟩
end
theorem comp_turn {G : List D} {F : List Fn} {j : Nat} (hF : F[j]? = some joinedFn) (n : Nat) (m : Cels) {d : D} {k : Nat} {r : Nat → List Nat} (hd : Rows d k r) {bd : D} {bs : List Nat} (hb : seqOf bd = some (bs.map N)) (hk : ∀ x ∈ bs, x < k) {here : Nat} (hh : here < k) (lot : List Nat) (x2 x4 x6 : Option Vl) (L : Vl) (hL : L = .own (lot.map N) ∨ L = .d (.list (lot.map N))) (hl : bs.length ≤ lim) :
    (sem G (callD G F (n + 1)) (compAll j)).v [some (.d d), some (.d bd), x2, some L, x4, some (.d (N here)), x6] m = .ok (.own ((bs.filter fun y => !decide (y ∈ lot) && decide (J r here y)).map N)) [some (.d d), some (.d bd), x2, some L, x4, some (.d (N here)), x6] m := by
  have hi : itemsOf .seq [bd] = some (bs.map N) := hb
  have hLd : dat m L = some (.list (lot.map N)) := by rcases hL with e | e <;> (subst e; rfl)
  have hin : ∀ x : Nat, inOp (.int (x : Int)) (.list (lot.map N)) = some (decide (x ∈ lot)) := fun x => inOp_N rfl x
  simp [startE, Pv.execs, Pv.exec, sem, sems, Sm.mk', Sm.g, Sm.r, Sm.c, Sm.o, getV, takeV, two2, one1, dispV, smG, smV, smA, lentOf, frzAll, frz_d, frz_own, frzArg, bindT, bindTs, dat_d, dat_own, datAll, tOf, Res.of, outcome, compV, itW, wipeE, callV, callPV, callLV, lentRes, celV, arrange, pureRes, callRes, restoreE, noLst, andV, orV, notV, andT, orT, notT, iteV, boolR, ownAt, parB, sliceV, inrV, chainV, cidxV, truth, len_list, len_tuple, tup_list, tup_tuple, lst_list, lst_tuple, toint_b, compAll, hi]
  rw [compL_tab (h := fun x => if !decide (x ∈ lot) && decide (J r here x) then some (N x) else none)]
  · rw [filterMap_if]
    simp [startE, Pv.execs, Pv.exec, sem, sems, Sm.mk', Sm.g, Sm.r, Sm.c, Sm.o, getV, takeV, two2, one1, dispV, smG, smV, smA, lentOf, frzAll, frz_d, frz_own, frzArg, bindT, bindTs, dat_d, dat_own, datAll, tOf, Res.of, outcome, compV, itW, wipeE, callV, callPV, callLV, lentRes, celV, arrange, pureRes, callRes, restoreE, noLst, andV, orV, notV, andT, orT, notT, iteV, boolR, ownAt, parB, sliceV, inrV, chainV, cidxV, truth, len_list, len_tuple, tup_list, tup_tuple, lst_list, lst_tuple, toint_b, ]
  · intro x hx
    have hj := joined_spec (G := G) hF n [] hd here x hh (hk x hx)
    rcases hL with e | e <;> subst e <;>
    · by_cases h1 : x ∈ lot
      · simp [startE, Pv.execs, Pv.exec, sem, sems, Sm.mk', Sm.g, Sm.r, Sm.c, Sm.o, getV, takeV, two2, one1, dispV, smG, smV, smA, lentOf, frzAll, frz_d, frz_own, frzArg, bindT, bindTs, dat_d, dat_own, datAll, tOf, Res.of, outcome, compV, itW, wipeE, callV, callPV, callLV, lentRes, celV, arrange, pureRes, callRes, restoreE, noLst, andV, orV, notV, andT, orT, notT, iteV, boolR, ownAt, parB, sliceV, inrV, chainV, cidxV, truth, len_list, len_tuple, tup_list, tup_tuple, lst_list, lst_tuple, toint_b, turnC, cmpOp, hin, h1]
      · by_cases h2 : J r here x
        · simp [startE, Pv.execs, Pv.exec, sem, sems, Sm.mk', Sm.g, Sm.r, Sm.c, Sm.o, getV, takeV, two2, one1, dispV, smG, smV, smA, lentOf, frzAll, frz_d, frz_own, frzArg, bindT, bindTs, dat_d, dat_own, datAll, tOf, Res.of, outcome, compV, itW, wipeE, callV, callPV, callLV, lentRes, celV, arrange, pureRes, callRes, restoreE, noLst, andV, orV, notV, andT, orT, notT, iteV, boolR, ownAt, parB, sliceV, inrV, chainV, cidxV, truth, len_list, len_tuple, tup_list, tup_tuple, lst_list, lst_tuple, toint_b, turnC, cmpOp, hin, h1, hj, h2]
        · simp [startE, Pv.execs, Pv.exec, sem, sems, Sm.mk', Sm.g, Sm.r, Sm.c, Sm.o, getV, takeV, two2, one1, dispV, smG, smV, smA, lentOf, frzAll, frz_d, frz_own, frzArg, bindT, bindTs, dat_d, dat_own, datAll, tOf, Res.of, outcome, compV, itW, wipeE, callV, callPV, callLV, lentRes, celV, arrange, pureRes, callRes, restoreE, noLst, andV, orV, notV, andT, orT, notT, iteV, boolR, ownAt, parB, sliceV, inrV, chainV, cidxV, truth, len_list, len_tuple, tup_list, tup_tuple, lst_list, lst_tuple, toint_b, turnC, cmpOp, hin, h1, hj, h2]
  · simpa using hl
end Pv

/-! PvP: the walks of component and blocks. -/
namespace Pv
open PySem

theorem filter_part {α : Type} (p q : α → Bool) : ∀ l : List α, (l.filter p).length = (l.filter fun x => p x && q x).length + (l.filter fun x => p x && !q x).length
  | [] => rfl
  | x :: l => by
    have := filter_part p q l
    cases hp : p x <;> cases hq : q x <;> simp [hp, hq] <;> omega

def compI (d bd : D) (bs : List Nat) (boss : Nat) (r : Nat → List Nat) (m : Cels) (k : Nat) (e : Slots) (m' : Cels) : Prop :=
  m' = m ∧ ∃ (lot : List Nat) (read : Nat) (L : Vl) (x5 x6 : Option Vl), e = [some (.d d), some (.d bd), some (.d (N boss)), some L, some (.d (N read)), x5, x6] ∧ (L = .own (lot.map N) ∨ L = .d (.list (lot.map N))) ∧ lot.Nodup ∧ boss ∈ lot ∧ (∀ y ∈ lot, y ∈ bs ∧ Cn' r bs boss y) ∧ read ≤ lot.length ∧ (∀ i, i < read → ∀ x, lot[i]? = some x → ∀ y ∈ bs, J r x y → y ∈ lot) ∧ k = (bs.filter fun y => !decide (y ∈ lot)).length + (lot.length - read)
def compQ (d bd : D) (bs : List Nat) (boss : Nat) (r : Nat → List Nat) (m : Cels) (e : Slots) (m' : Cels) : Prop :=
  m' = m ∧ ∃ (lot : List Nat) (L : Vl) (x4 x5 x6 : Option Vl), e = [some (.d d), some (.d bd), some (.d (N boss)), some L, x4, x5, x6] ∧ (L = .own (lot.map N) ∨ L = .d (.list (lot.map N))) ∧ lot.Nodup ∧ ∀ y, y ∈ lot ↔ Cn' r bs boss y
theorem comp_spec {G : List D} {F : List Fn} {i j : Nat} (hF : F[i]? = some (compFn j)) (hJ : F[j]? = some joinedFn) (n : Nat) (m : Cels) {d : D} {k : Nat} {r : Nat → List Nat} (hd : Rows d k r) {bd : D} {bs : List Nat} (hb : seqOf bd = some (bs.map N)) (hk : ∀ x ∈ bs, x < k) (hn : bs.Nodup) (hl : bs.length ≤ 1000) {boss : Nat} (hs : boss ∈ bs) :
    ∃ l, callD G F (n + 2) i [.d d, .d bd, .d (N boss)] m = .ok (.d (T l)) m ∧ Asc l ∧ ∀ y, y ∈ l ↔ Cn' r bs boss y := by
  have hw := while_ok (G := G) (call := callD G F (n + 1)) (n := 1000000) (c := compTest) (body := compBody j) (compI d bd bs boss r m) (compQ d bd bs boss r m) ((bs.filter fun y => !decide (y ∈ [boss])).length + 1) (e := [some (.d d), some (.d bd), some (.d (N boss)), some (.d (.list ([boss].map N))), some (.d (N 0)), none, none]) (m := m) ?h0 ?hk ?ht
  case h0 =>
    refine ⟨rfl, [boss], 0, _, none, none, rfl, .inr rfl, by simp, by simp, ?_, by simp, ?_, by simp⟩
    · intro y hy
      rw [List.mem_singleton.mp hy]
      exact ⟨hs, .refl⟩
    · intro i hi; omega
  case hk =>
    have := List.length_filter_le (fun y => !decide (y ∈ [boss])) bs
    omega
  case ht =>
    rintro k0 e m0 ⟨rfl, lot, read, L, x5, x6, rfl, hL, h1, h2, h3, h4, h5, rfl⟩
    have hlot : lot.length ≤ bs.length := h1.length_le_of_subset fun y hy => (h3 y hy).1
    have hLd : dat m0 L = some (.list (lot.map N)) := by rcases hL with e | e <;> (subst e; rfl)
    have hlen : b1Op .len (.list (lot.map N)) = some (.d (.int lot.length)) := by simp [b1Op]
    by_cases hr : read < lot.length
    · refine .inr ?_
      have hx : lot[read]? = some lot[read] := List.getElem?_eq_getElem hr
      have hix : ixD (.list (lot.map N)) (.int (read : Int)) = some (.d (N lot[read])) := ixD_nat rfl read _ (by simp [hx])
      have hhere := h3 lot[read] (List.getElem_mem hr)
      let new := bs.filter fun y => !decide (y ∈ lot) && decide (J r lot[read] y)
      have hnew : ∀ y, y ∈ new ↔ y ∈ bs ∧ y ∉ lot ∧ J r lot[read] y := by
        intro y
        simp [new, List.mem_filter]
      have ht := comp_turn (G := G) hJ n m0 hd hb hk (hk _ hhere.1) lot (some (.d (N boss))) (some (.d (N read))) x6 L hL (by simp [lim]; omega)
      have hnl : new.length ≤ bs.length := List.length_filter_le _ _
      have hadd : binOp .add (.list (lot.map N)) (.list (new.map N)) = some (.own ((lot ++ new).map N)) := by
        simp only [binOp, List.length_map, List.map_append]
        rw [if_pos (by simp [lim]; omega)]
      refine ⟨[some (.d d), some (.d bd), some (.d (N boss)), some L, some (.d (N read)), x5, x6], m0, [some (.d d), some (.d bd), some (.d (N boss)), some (.own ((lot ++ new).map N)), some (.d (N (read + 1))), some (.d (N lot[read])), x6], m0, (bs.filter fun y => !decide (y ∈ lot ++ new)).length + ((lot ++ new).length - (read + 1)), ?_, ?_, ?_, ?_⟩
      · simp [startE, Pv.execs, Pv.exec, sem, sems, Sm.mk', Sm.g, Sm.r, Sm.c, Sm.o, getV, takeV, two2, one1, dispV, smG, smV, smA, lentOf, frzAll, frz_d, frz_own, frzArg, bindT, bindTs, dat_d, dat_own, datAll, tOf, Res.of, outcome, compV, itW, wipeE, callV, callPV, callLV, lentRes, celV, arrange, pureRes, callRes, restoreE, noLst, andV, orV, notV, andT, orT, notT, iteV, boolR, ownAt, parB, sliceV, inrV, chainV, cidxV, truth, len_list, len_tuple, tup_list, tup_tuple, lst_list, lst_tuple, toint_b, compTest, hLd, hlen, cmpOp, intCmp, hr]
      · simp [startE, Pv.execs, Pv.exec, sem, sems, Sm.mk', Sm.g, Sm.r, Sm.c, Sm.o, getV, takeV, two2, one1, dispV, smG, smV, smA, lentOf, frzAll, frz_d, frz_own, frzArg, bindT, bindTs, dat_d, dat_own, datAll, tOf, Res.of, outcome, compV, itW, wipeE, callV, callPV, callLV, lentRes, celV, arrange, pureRes, callRes, restoreE, noLst, andV, orV, notV, andT, orT, notT, iteV, boolR, ownAt, parB, sliceV, inrV, chainV, cidxV, truth, len_list, len_tuple, tup_list, tup_tuple, lst_list, lst_tuple, toint_b, compBody, hLd, hix, ht, hadd, new, augOp, Pv.intOp]
      · have e1 := filter_part (fun y => !decide (y ∈ lot)) (fun y => decide (J r lot[read] y)) bs
        have e2 : (bs.filter fun y => !decide (y ∈ lot ++ new)) = bs.filter fun x => !decide (x ∈ lot) && !decide (J r lot[read] x) := by
          apply List.filter_congr
          intro y hy
          by_cases a : y ∈ lot <;> by_cases b : J r lot[read] y <;> simp [a, b, hnew, hy]
        rw [e2, List.length_append]
        have e3 : new.length = (bs.filter fun x => !decide (x ∈ lot) && decide (J r lot[read] x)).length := rfl
        omega
      · refine ⟨rfl, lot ++ new, read + 1, _, _, x6, rfl, .inl rfl, ?_, List.mem_append_left _ h2, ?_, ?_, ?_, rfl⟩
        · rw [List.nodup_append]
          refine ⟨h1, hn.sublist List.filter_sublist, ?_⟩
          intro a ha b hb e
          subst e
          exact ((hnew a).mp hb).2.1 ha
        · intro y hy
          rcases List.mem_append.mp hy with hy | hy
          · exact h3 y hy
          · have := (hnew y).mp hy
            exact ⟨this.1, .step hhere.2 this.1 this.2.2⟩
        · rw [List.length_append]; omega
        · intro i hi x hx y hy hJ
          by_cases e : i = read
          · subst e
            rw [List.getElem?_append_left hr] at hx
            cases hx.symm.trans (List.getElem?_eq_getElem hr)
            by_cases hm : y ∈ lot
            · exact List.mem_append_left _ hm
            · exact List.mem_append_right _ ((hnew y).mpr ⟨hy, hm, hJ⟩)
          · rw [List.getElem?_append_left (by omega)] at hx
            exact List.mem_append_left _ (h5 i (by omega) x hx y hy hJ)
    · refine .inl ⟨[some (.d d), some (.d bd), some (.d (N boss)), some L, some (.d (N read)), x5, x6], m0, ?_, rfl, lot, L, _, x5, x6, rfl, hL, h1, ?_⟩
      · simp [startE, Pv.execs, Pv.exec, sem, sems, Sm.mk', Sm.g, Sm.r, Sm.c, Sm.o, getV, takeV, two2, one1, dispV, smG, smV, smA, lentOf, frzAll, frz_d, frz_own, frzArg, bindT, bindTs, dat_d, dat_own, datAll, tOf, Res.of, outcome, compV, itW, wipeE, callV, callPV, callLV, lentRes, celV, arrange, pureRes, callRes, restoreE, noLst, andV, orV, notV, andT, orT, notT, iteV, boolR, ownAt, parB, sliceV, inrV, chainV, cidxV, truth, len_list, len_tuple, tup_list, tup_tuple, lst_list, lst_tuple, toint_b, compTest, hLd, hlen, cmpOp, intCmp, hr]
      · intro y
        constructor
        · exact fun hy => (h3 y hy).2
        · intro hy
          induction hy with
          | refl => exact h2
          | step a b c ih =>
            obtain ⟨i, hi⟩ := List.mem_iff_getElem?.mp ih
            have := (List.getElem?_eq_some_iff.mp hi).1
            exact h5 i (by omega) _ hi _ b c
  obtain ⟨e', m', h1, rfl, lot, L, x4, x5, x6, rfl, hL, h2, h3⟩ := hw
  have hLd : dat m' L = some (.list (lot.map N)) := by rcases hL with e | e <;> (subst e; rfl)
  refine ⟨sortN lot, ?_, sortN_asc h2, fun y => (mem_sortN y lot).trans (h3 y)⟩
  have h1' : Pv.exec G (callD G F (n + 1)) (compLoop j) [some (.d d), some (.d bd), some (.d (N boss)), some (.d (.list [.int boss])), some (.d (.int 0)), none, none] m' = _ := h1
  rw [callD_eq hF (Nat.le_of_ble_eq_true rfl : [Vl.d d, Vl.d bd, Vl.d (N boss)].length ≤ (compFn j).slots)]
  simp [startE, Pv.execs, Pv.exec, sem, sems, Sm.mk', Sm.g, Sm.r, Sm.c, Sm.o, getV, takeV, two2, one1, dispV, smG, smV, smA, lentOf, frzAll, frz_d, frz_own, frzArg, bindT, bindTs, dat_d, dat_own, datAll, tOf, Res.of, outcome, compV, itW, wipeE, callV, callPV, callLV, lentRes, celV, arrange, pureRes, callRes, restoreE, noLst, andV, orV, notV, andT, orT, notT, iteV, boolR, ownAt, parB, sliceV, inrV, chainV, cidxV, truth, len_list, len_tuple, tup_list, tup_tuple, lst_list, lst_tuple, toint_b, compFn, lim, h1', hLd, sorted_N]
  rfl
end Pv

/-! PvQ: the walk of blocks. -/
namespace Pv
open PySem

theorem rng1_N {b : Nat} (h : b ≤ 1000000) : itemsOf .rng1 [.int (b : Int)] = some ((List.range b).map N) := by
  show (if (b : Int).natAbs ≤ 1000000 then some (Pv.upTo 0 (b : Int).toNat) else none) = _
  rw [if_pos (by omega), upTo_eq]
  simp
theorem rng2_N {a b : Nat} (ha : a ≤ 1000000) (h : b ≤ 1000000) : itemsOf .rng2 [.int (a : Int), .int (b : Int)] = some ((List.range (b - a)).map fun i => N (a + i)) := by
  show (if (a : Int).natAbs ≤ 1000000 ∧ (b : Int).natAbs ≤ 1000000 then some (Pv.upTo (a : Int) ((b : Int) - a).toNat) else none) = _
  rw [if_pos (by omega), upTo_eq, show ((b : Int) - (a : Int)).toNat = b - a by omega]
  simp
theorem rng2_1 {b : Nat} (h : b ≤ 1000000) : itemsOf .rng2 [.int 1, .int (b : Int)] = some ((List.range (b - 1)).map fun i => N (1 + i)) := rng2_N (a := 1) (by omega) h
theorem noLstAll_map {α : Type} (f : α → D) (h : ∀ a, noLst (f a) = true) : ∀ xs : List α, noLstAll (xs.map f) = true
  | [] => rfl
  | x :: xs => by rw [List.map_cons, noLstAll, h, noLstAll_map f h xs]; rfl
theorem noLst_N (x : Nat) : noLst (N x) = true := rfl
theorem noLst_T (xs : List Nat) : noLst (T xs) = true := noLstAll_map N noLst_N xs

/-- a chart's entries -/
def cg (ch : Nat → Nat) (i : Nat) : D := if i = 0 then .none else N (ch i)
def IsChart (d : D) (n : Nat) (ch : Nat → Nat) : Prop := seqOf d = some (tab n (cg ch))
theorem IsChart.ix {d : D} {n : Nat} {ch : Nat → Nat} (h : IsChart d n ch) {i : Nat} (h0 : 0 < i) (hi : i < n) : ixD d (.int (i : Int)) = some (.d (N (ch i))) := by
  rw [ixD_tab h hi]
  have : ¬ i = 0 := by omega
  simp [cg, this]
theorem IsChart.len {d : D} {n : Nat} {ch : Nat → Nat} (h : IsChart d n ch) : b1Op .len d = some (.d (.int n)) := len_tab h
def chartD (n : Nat) (ch : Nat → Nat) : D := .tuple (tab n (cg ch))
theorem chartD_is (n : Nat) (ch : Nat → Nat) : IsChart (chartD n ch) n ch := rfl
def rowsD (n : Nat) (r : Nat → List Nat) : D := .tuple (tab n fun i => T (r i))
theorem rowsD_is (n : Nat) (r : Nat → List Nat) : Rows (rowsD n r) n r := ⟨⟨_, rfl, fun _ _ => rfl⟩⟩

theorem callD_ok {G : List D} {F : List Fn} {i n : Nat} {fn : Fn} {us : List Vl} {m : Cels} {r : FRes} (hF : F[i]? = some fn) (hl : us.length ≤ fn.slots) (h : outcome (Pv.execs G (callD G F n) fn.body (startE fn.slots us) m) = r) : callD G F (n + 1) i us m = r := (callD_eq hF hl).trans h

/-! ### blocks -/
def blocksBody (c : Nat) : List S := [.asg (.v 5) (.ix (.var 1) (.var 4)), .app 3 (.ite (.cmp .isin (.var 4) (.var 2)) (.tup [.var 5]) (.callP c [.var 3, .ix (.var 0) (.var 4), .var 5] [.inl 0, .inl 1, .inl 2]))]
def blocksLoop (c : Nat) : S := .for (.v 4) .rng2 [.int 1, .b1 .len (.var 0)] (blocksBody c)
def blocksFn (c : Nat) : Fn := ⟨6, [
  .asg (.v 3) (.lst [.tup []]),
  blocksLoop c,
  .ret (.b1 .totuple (.var 3))]⟩
theorem tab_one (g : Nat → D) : tab 1 g = [g 0] := rfl
theorem blocks_spec {G : List D} {F : List Fn} {i c j : Nat} (hF : F[i]? = some (blocksFn c)) (hC : F[c]? = some (compFn j)) (hJ : F[j]? = some joinedFn) (p : Nat) (m : Cels)
    {n : Nat} {R : Nat → List Nat} {ch : Nat → Nat} {P : List Nat} {ld cd pd : D} (hl : Rows ld n R) (hc : IsChart cd n ch) (hp : seqOf pd = some (P.map N)) (g : Good n R) (c' : Chart n R ch) (hn : n ≤ 1000) :
    callD G F (p + 3) i [.d ld, .d cd, .d pd] m = .ok (.d (rowsD n (blk R ch P))) m := by
  have hlen := hl.len
  have hw := for_ok (G := G) (call := callD G F (p + 2)) (t := .v 4) (k := .rng2) (as := [.int 1, .b1 .len (.var 0)]) (body := blocksBody c)
    (fun k e m' => m' = m ∧ ∃ x4 x5 : Option Vl, e = [some (.d ld), some (.d cd), some (.d pd), some (.own (tab (k + 1) fun i => T (blk R ch P i))), x4, x5])
    (e := [some (.d ld), some (.d cd), some (.d pd), some (.own (tab 1 fun i => T (blk R ch P i))), none, none]) (e0 := [some (.d ld), some (.d cd), some (.d pd), some (.own (tab 1 fun i => T (blk R ch P i))), none, none]) (m := m) (m0 := m) (items := (List.range (n - 1)).map fun i => N (1 + i)) ?hi ?h0 ?hs
  case hi => simp [startE, Pv.execs, Pv.exec, sem, sems, Sm.mk', Sm.g, Sm.r, Sm.c, Sm.o, getV, takeV, two2, one1, dispV, smG, smV, smA, lentOf, frzAll, frz_d, frz_own, frzArg, bindT, bindTs, dat_d, dat_own, datAll, tOf, Res.of, outcome, compV, itW, wipeE, callV, callPV, callLV, lentRes, celV, arrange, pureRes, callRes, restoreE, noLst, andV, orV, notV, andT, orT, notT, iteV, boolR, ownAt, parB, sliceV, inrV, chainV, cidxV, truth, len_list, len_tuple, tup_list, tup_tuple, lst_list, lst_tuple, toint_b, hlen, rng2_1 (show n ≤ 1000000 by omega)]
  case h0 => exact ⟨rfl, none, none, rfl⟩
  case hs =>
    rintro k x e m' hx ⟨rfl, x4, x5, rfl⟩
    have hk : k < n - 1 := by simpa using (List.getElem?_eq_some_iff.mp hx).1
    have hx' : x = N (k + 1) := by
      rw [List.getElem?_map, List.getElem?_range hk] at hx
      cases hx
      rw [Nat.add_comm]
    subst hx'
    refine ⟨_, rfl, ?_⟩
    have hci := hc.ix (i := k + 1) (by omega) (by omega)
    have hin := inOp_N hp (k + 1)
    obtain ⟨rd, hri, hrs⟩ := hl.ix (i := k + 1) (by omega)
    have hcm := c' (k + 1) (by omega) (by omega)
    refine ⟨[some (.d ld), some (.d cd), some (.d pd), some (.own (tab (k + 1 + 1) fun i => T (blk R ch P i))), some (.d (N (k + 1))), some (.d (N (ch (k + 1))))], m', .inl ?_, rfl, _, _, rfl⟩
    have hlim : (tab (k + 1) fun i => T (blk R ch P i)).length < 1000000 := by rw [tab_len]; omega
    have hsucc := tab_succ (k + 1) fun i => T (blk R ch P i)
    by_cases hpin : k + 1 ∈ P
    · rw [blk_pin (by omega) hpin] at hsucc
      have e1 : T [ch (k + 1)] = .tuple [.int (ch (k + 1) : Nat)] := rfl
      rw [e1] at hsucc
      simp [startE, Pv.execs, Pv.exec, sem, sems, Sm.mk', Sm.g, Sm.r, Sm.c, Sm.o, getV, takeV, two2, one1, dispV, smG, smV, smA, lentOf, frzAll, frz_d, frz_own, frzArg, bindT, bindTs, dat_d, dat_own, datAll, tOf, Res.of, outcome, compV, itW, wipeE, callV, callPV, callLV, lentRes, celV, arrange, pureRes, callRes, restoreE, noLst, andV, orV, notV, andT, orT, notT, iteV, boolR, ownAt, parB, sliceV, inrV, chainV, cidxV, truth, len_list, len_tuple, tup_list, tup_tuple, lst_list, lst_tuple, toint_b, blocksBody, hci, cmpOp, hin, hpin, hlim, hsucc, lim]
    · have hrows : Rows (.list (tab (k + 1) fun i => T (blk R ch P i))) (k + 1) (blk R ch P) := ⟨⟨_, rfl, fun _ _ => rfl⟩⟩
      obtain ⟨l, h1, h2, h3⟩ := comp_spec (G := G) hC hJ p [] hrows hrs (g.lt (k + 1) (by omega)) (g.asc (k + 1) (by omega)).nodup (by
        have := (g.asc (k + 1) (by omega)).nodup.length_le_of_subset (l₂ := List.range (k + 1)) fun y hy => List.mem_range.mpr (g.lt (k + 1) (by omega) y hy)
        rw [List.length_range] at this
        omega) hcm
      have e2 : l = blk R ch P (k + 1) := blk_uniq g c' (by omega) (by omega) hpin h2 h3
      subst e2
      simp [startE, Pv.execs, Pv.exec, sem, sems, Sm.mk', Sm.g, Sm.r, Sm.c, Sm.o, getV, takeV, two2, one1, dispV, smG, smV, smA, lentOf, frzAll, frz_d, frz_own, frzArg, bindT, bindTs, dat_d, dat_own, datAll, tOf, Res.of, outcome, compV, itW, wipeE, callV, callPV, callLV, lentRes, celV, arrange, pureRes, callRes, restoreE, noLst, andV, orV, notV, andT, orT, notT, iteV, boolR, ownAt, parB, sliceV, inrV, chainV, cidxV, truth, len_list, len_tuple, tup_list, tup_tuple, lst_list, lst_tuple, toint_b, blocksBody, hci, cmpOp, hin, hpin, hlim, hsucc, hri, h1, noLst_T, lim]
  obtain ⟨e', m', h1, rfl, x4, x5, rfl⟩ := hw
  refine callD_ok hF (Nat.le_of_ble_eq_true rfl) ?_
  have e3 : (tab 1 fun i => T (blk R ch P i)) = [.tuple []] := by rw [tab_one, blk_zero]; rfl
  have e4 : (List.map (fun i => N (1 + i)) (List.range (n - 1))).length + 1 = n := by
    have := g.pos
    simp
    omega
  rw [e3, e4] at h1
  have h1' : Pv.exec G (callD G F (p + 2)) (blocksLoop c) [some (.d ld), some (.d cd), some (.d pd), some (.own [.tuple []]), none, none] m' = _ := h1
  simp [startE, Pv.execs, Pv.exec, sem, sems, Sm.mk', Sm.g, Sm.r, Sm.c, Sm.o, getV, takeV, two2, one1, dispV, smG, smV, smA, lentOf, frzAll, frz_d, frz_own, frzArg, bindT, bindTs, dat_d, dat_own, datAll, tOf, Res.of, outcome, compV, itW, wipeE, callV, callPV, callLV, lentRes, celV, arrange, pureRes, callRes, restoreE, noLst, andV, orV, notV, andT, orT, notT, iteV, boolR, ownAt, parB, sliceV, inrV, chainV, cidxV, truth, len_list, len_tuple, tup_list, tup_tuple, lst_list, lst_tuple, toint_b, blocksFn, lim, h1']
  rfl
end Pv

/-! PvL: what the laws draw: sources, choices, lists, charts, pins. -/
namespace Pv
open PySem

/-! ### the source -/
def sourceFn : Fn := ⟨3, [
  .asg (.v 2) (.int 0),
  .ite (.cmp .lt (.var 1) (.b1 .len (.var 0))) [.asg (.v 2) (.ix (.var 0) (.var 1))] [],
  .ret (.lst [.op .mul (.b1 .abs (.var 2)) (.b1 .toint (.cmp .ge (.b1 .abs (.var 2)) (.op .pow (.int 10) (.int 18)))), .op .mod (.op .mul (.op .add (.op .add (.op .mod (.var 2) (.int 2147483563)) (.op .mul (.int 91807) (.var 1))) (.int 53)) (.int 40111)) (.int 2147483543), .int 0])]⟩
def srcA (c d : Int) : X := .op .mul (.b1 .abs (.var 2)) (.b1 .toint (.cmp .ge (.b1 .abs (.var 2)) (.op .pow (.int c) (.int d))))
def srcB (c1 c2 c3 c4 c5 : Int) : X := .op .mod (.op .mul (.op .add (.op .add (.op .mod (.var 2) (.int c1)) (.op .mul (.int c2) (.var 1))) (.int c3)) (.int c4)) (.int c5)
theorem srcA_ok (G : List D) (call : Nat → List Vl → Cels → FRes) (x0 x1 : Option Vl) (m : Cels) (x c d : Int) (h1 : ∃ z, Pv.intOp .pow c d = some z) :
    ∃ a, (sem G call (srcA c d)).v [x0, x1, some (.d (.int x))] m = .ok (.d (.int a)) [x0, x1, some (.d (.int x))] m ∧ 0 ≤ a := by
  obtain ⟨z, hz⟩ := h1
  have e0 : b1Op .abs (.int x) = some (.d (.int (if x < 0 then -x else x))) := rfl
  have e2 : ∀ y : Int, cmpOp .ge (.int y) (.int z) = some (decide (z ≤ y)) := fun _ => rfl
  have e3 : ∀ (y : Int) (b : Bool), Pv.intOp .mul y (if b = true then 1 else 0) = some (y * if b = true then 1 else 0) := fun y b => by
    rw [Pv.intOp, if_pos]
    cases b <;> omega
  refine ⟨(if x < 0 then -x else x) * (if decide (z ≤ if x < 0 then -x else x) = true then 1 else 0), ?_, ?_⟩
  · have e4 := e3 (if x < 0 then -x else x) (decide (z ≤ if x < 0 then -x else x))
    generalize hb : decide (z ≤ if x < 0 then -x else x) = b at *
    have e5 := e2 (if x < 0 then -x else x)
    rw [hb] at e5
    generalize (if x < 0 then -x else x) = y at *
    simp [startE, Pv.execs, Pv.exec, sem, sems, Sm.mk', Sm.g, Sm.r, Sm.c, Sm.o, getV, takeV, two2, one1, dispV, smG, smV, smA, lentOf, frzAll, frz_d, frz_own, frzArg, bindT, bindTs, dat_d, dat_own, datAll, tOf, Res.of, outcome, compV, itW, wipeE, callV, callPV, callLV, lentRes, celV, arrange, pureRes, callRes, restoreE, noLst, andV, orV, notV, andT, orT, notT, iteV, boolR, ownAt, parB, sliceV, inrV, chainV, cidxV, truth, len_list, len_tuple, tup_list, tup_tuple, lst_list, lst_tuple, toint_b, srcA, binOp, hz, e0, e5, e4]
  · apply Int.mul_nonneg
    · split <;> omega
    · split <;> omega
theorem srcB_ok (G : List D) (call : Nat → List Vl → Cels → FRes) (x0 : Option Vl) (m : Cels) (x j c1 c2 c3 c4 c5 : Int) (h1 : c1 ≠ 0) (h2 : c2.natAbs < 18446744073709551616) (h4 : c4.natAbs < 18446744073709551616) (h5 : c5 ≠ 0) :
    (sem G call (srcB c1 c2 c3 c4 c5)).v [x0, some (.d (.int j)), some (.d (.int x))] m = .ok (.d (.int (((x.fmod c1 + c2 * j + c3) * c4).fmod c5))) [x0, some (.d (.int j)), some (.d (.int x))] m := by
  have e4 : Pv.intOp .mod x c1 = some (x.fmod c1) := by rw [Pv.intOp, if_pos h1]
  have e5 : Pv.intOp .mul c2 j = some (c2 * j) := by rw [Pv.intOp, if_pos (.inl h2)]
  have e6 : ∀ z : Int, Pv.intOp .mul z c4 = some (z * c4) := fun z => by rw [Pv.intOp, if_pos (.inr h4)]
  have e7 : ∀ z : Int, Pv.intOp .mod z c5 = some (z.fmod c5) := fun z => by rw [Pv.intOp, if_pos h5]
  have e8 : ∀ a b : Int, Pv.intOp .add a b = some (a + b) := fun _ _ => rfl
  simp [startE, Pv.execs, Pv.exec, sem, sems, Sm.mk', Sm.g, Sm.r, Sm.c, Sm.o, getV, takeV, two2, one1, dispV, smG, smV, smA, lentOf, frzAll, frz_d, frz_own, frzArg, bindT, bindTs, dat_d, dat_own, datAll, tOf, Res.of, outcome, compV, itW, wipeE, callV, callPV, callLV, lentRes, celV, arrange, pureRes, callRes, restoreE, noLst, andV, orV, notV, andT, orT, notT, iteV, boolR, ownAt, parB, sliceV, inrV, chainV, cidxV, truth, len_list, len_tuple, tup_list, tup_tuple, lst_list, lst_tuple, toint_b, srcB, binOp, e4, e5, e6, e7, e8]
theorem source_spec {G : List D} {F : List Fn} {i : Nat} (hF : F[i]? = some sourceFn) (n : Nat) (ns : List Int) (j : Nat) : ∃ a b : Int, callD G F (n + 1) i [.d (.list (ns.map PyData.int)), .d (.int j)] [] = .ok (.own [.int a, .int b, .int 0]) [] ∧ 0 ≤ a ∧ 0 ≤ b ∧ b < 2147483543 := by
  have hlen : b1Op .len (.list (ns.map PyData.int)) = some (.d (.int ns.length)) := by simp [b1Op]
  have hlt : cmpOp .lt (.int (j : Int)) (.int (ns.length : Int)) = some (decide (j < ns.length)) := by
    show some (decide ((j : Int) < (ns.length : Int))) = _
    congr 1
    simp
  obtain ⟨x, hx⟩ : ∃ x : Int, (if j < ns.length then ixD (.list (ns.map PyData.int)) (.int j) else some (.d (.int 0))) = some (.d (.int x)) := by
    split
    · exact ⟨ns[j], ixD_nat rfl j _ (by simp [*])⟩
    · exact ⟨0, rfl⟩
  have hp : Pv.intOp .pow 10 18 = some 1000000000000000000 := by decide +kernel
  obtain ⟨a, ha, ha0⟩ := srcA_ok G (callD G F n) (some (.d (.list (ns.map PyData.int)))) (some (.d (.int j))) [] x 10 18 ⟨_, hp⟩
  have hb := srcB_ok G (callD G F n) (some (.d (.list (ns.map PyData.int)))) [] x j 2147483563 91807 53 40111 2147483543 (by decide) (by decide) (by decide) (by decide)
  have hb1 := fmod_rng (a := (x.fmod 2147483563 + 91807 * (j : Int) + 53) * 40111) (b := 2147483543) (by decide)
  generalize ((x.fmod 2147483563 + 91807 * (j : Int) + 53) * 40111).fmod 2147483543 = b at hb hb1
  refine ⟨a, b, ?_, ha0, hb1.1, hb1.2⟩
  refine callD_ok hF (Nat.le_of_ble_eq_true rfl) ?_
  have h3 : 3 ≤ lim := by decide +kernel
  have key : ∀ (A B : X), sourceFn = ⟨3, [.asg (.v 2) (.int 0), .ite (.cmp .lt (.var 1) (.b1 .len (.var 0))) [.asg (.v 2) (.ix (.var 0) (.var 1))] [], .ret (.lst [A, B, .int 0])]⟩ → (sem G (callD G F n) A).v [some (.d (.list (ns.map PyData.int))), some (.d (.int j)), some (.d (.int x))] [] = .ok (.d (.int a)) [some (.d (.list (ns.map PyData.int))), some (.d (.int j)), some (.d (.int x))] [] → (sem G (callD G F n) A).var = none → (sem G (callD G F n) B).var = none → (sem G (callD G F n) B).v [some (.d (.list (ns.map PyData.int))), some (.d (.int j)), some (.d (.int x))] [] = .ok (.d (.int b)) [some (.d (.list (ns.map PyData.int))), some (.d (.int j)), some (.d (.int x))] [] → outcome (Pv.execs G (callD G F n) sourceFn.body (startE sourceFn.slots [.d (.list (ns.map PyData.int)), .d (.int j)]) []) = .ok (.own [.int a, .int b, .int 0]) [] := by
    intro A B hs hA hA' hB' hB
    rw [hs]
    by_cases hj : j < ns.length
    · rw [if_pos hj] at hx
      simp [startE, Pv.execs, Pv.exec, sem, sems, Sm.mk', Sm.g, Sm.r, Sm.c, Sm.o, getV, takeV, two2, one1, dispV, smG, smV, smA, lentOf, frzAll, frz_d, frz_own, frzArg, bindT, bindTs, dat_d, dat_own, datAll, tOf, Res.of, outcome, compV, itW, wipeE, callV, callPV, callLV, lentRes, celV, arrange, pureRes, callRes, restoreE, noLst, andV, orV, notV, andT, orT, notT, iteV, boolR, ownAt, parB, sliceV, inrV, chainV, cidxV, truth, len_list, len_tuple, tup_list, tup_tuple, lst_list, lst_tuple, toint_b, hlen, hlt, hj, hx, hA, hB, hA', hB', h3]
    · rw [if_neg hj] at hx
      cases hx
      simp [startE, Pv.execs, Pv.exec, sem, sems, Sm.mk', Sm.g, Sm.r, Sm.c, Sm.o, getV, takeV, two2, one1, dispV, smG, smV, smA, lentOf, frzAll, frz_d, frz_own, frzArg, bindT, bindTs, dat_d, dat_own, datAll, tOf, Res.of, outcome, compV, itW, wipeE, callV, callPV, callLV, lentRes, celV, arrange, pureRes, callRes, restoreE, noLst, andV, orV, notV, andT, orT, notT, iteV, boolR, ownAt, parB, sliceV, inrV, chainV, cidxV, truth, len_list, len_tuple, tup_list, tup_tuple, lst_list, lst_tuple, toint_b, hlen, hlt, hj, hA, hB, hA', hB', h3]
  exact key (srcA 10 18) (srcB 2147483563 91807 53 40111 2147483543) rfl ha rfl rfl hb
theorem src_new (m : Cels) (hn : noLstC m = true) (a b : Int) (ha : 0 ≤ a) (hb : 0 ≤ b) (hb2 : b < 2147483543) : Src (m ++ [.arr [.int a, .int b, .int 0]]) m.length 1000000000 := ⟨noC_app hn rfl, a, b, 0, by simp, ha, hb, hb2, by decide, by decide⟩

/-! ### draws, choices -/
theorem draw_N {G : List D} {F : List Fn} {i : Nat} (hF : F[i]? = some (drawFn i)) (n k B : Nat) (m : Cels) (b : Nat) (hs : Src m k (B + 1)) (h1 : 1 ≤ b) (h2 : b ≤ 10000000) :
    ∃ r m', callD G F (n + 1) i [.cell k, .d (N b)] m = .ok (.d (N r)) m' ∧ r < b ∧ Src m' k B := by
  obtain ⟨r, m', e, r1, r2, hs'⟩ := draw_spec (G := G) hF n k B m b hs (by omega) (by omega)
  refine ⟨r.toNat, m', ?_, by omega, hs'⟩
  rw [e]
  congr 3
  omega
def choiceFn (i : Nat) : Fn := ⟨2, [.ret (.ix (.var 1) (.call i [.var 0, .b1 .len (.var 1)] [.inl 0, .inl 1]))]⟩
theorem choice_spec {G : List D} {F : List Fn} {i c : Nat} (hF : F[i]? = some (drawFn i)) (hC : F[c]? = some (choiceFn i)) (n k B : Nat) (m : Cels) (xs : List D) (t : D) (ht : seqOf t = some xs) (hs : Src m k (B + 1)) (h1 : 0 < xs.length) (h2 : xs.length ≤ 10000000) :
    ∃ x m', callD G F (n + 2) c [.cell k, .d t] m = .ok (.d x) m' ∧ x ∈ xs ∧ Src m' k B := by
  obtain ⟨r, m', e, r1, hs'⟩ := draw_N (G := G) hF n k B m xs.length hs (by omega) (by omega)
  refine ⟨xs[r], m', ?_, List.getElem_mem r1, hs'⟩
  have hl := len_seq ht
  have hix := ixD_nat ht r _ (List.getElem?_eq_getElem r1)
  refine callD_ok hC (Nat.le_of_ble_eq_true rfl) ?_
  simp [startE, Pv.execs, Pv.exec, sem, sems, Sm.mk', Sm.g, Sm.r, Sm.c, Sm.o, getV, takeV, two2, one1, dispV, smG, smV, smA, lentOf, frzAll, frz_d, frz_own, frzArg, bindT, bindTs, dat_d, dat_own, datAll, tOf, Res.of, outcome, compV, itW, wipeE, callV, callPV, callLV, lentRes, celV, arrange, pureRes, callRes, restoreE, noLst, andV, orV, notV, andT, orT, notT, iteV, boolR, ownAt, parB, sliceV, inrV, chainV, cidxV, truth, len_list, len_tuple, tup_list, tup_tuple, lst_list, lst_tuple, toint_b, choiceFn, hl, e, hix]
theorem choice_map {α : Type} {G : List D} {F : List Fn} {i c : Nat} (hF : F[i]? = some (drawFn i)) (hC : F[c]? = some (choiceFn i)) (n k B : Nat) (m : Cels) (f : α → D) (xs : List α) (t : D) (ht : seqOf t = some (xs.map f)) (hs : Src m k (B + 1)) (h1 : xs ≠ []) (h2 : xs.length ≤ 10000000) :
    ∃ x m', callD G F (n + 2) c [.cell k, .d t] m = .ok (.d (f x)) m' ∧ x ∈ xs ∧ Src m' k B := by
  have h0 : 0 < xs.length := List.length_pos_iff.mpr h1
  obtain ⟨y, m', e, hy, hs'⟩ := choice_spec (G := G) hF hC n k B m _ t ht hs (by simpa using h0) (by simpa using h2)
  obtain ⟨x, hx, rfl⟩ := List.mem_map.mp hy
  exact ⟨x, m', e, hx, hs'⟩

/-! ### comprehensions that draw -/
theorem comp_ok {G : List D} {call : Nat → List Vl → Cels → FRes} {tg : Tg} {own : List Nat} {k : IK} {as : List X} {cond elt : X} {e e0 e1 : Slots} {m m0 m1 : Cels} {items xs : List D}
    (hi : itW (smV (sems G call as) e m) k = .ok items e0 m0) (hc : compL (turnC tg own (sem G call cond) (sem G call elt)) items [] (wipeE e0 own) m0 = .ok xs e1 m1) :
    (sem G call (.comp tg own k as cond elt)).v e m = .ok (.own xs) (restoreE e1 e0 own) m1 := by
  have h : (sem G call (.comp tg own k as cond elt)).v e m = compV tg own k (sems G call as) (sem G call cond) (sem G call elt) e m := rfl
  rw [h]
  unfold compV
  rw [hi, Res.bind_ok, hc, Res.bind_ok]
theorem eq0_true {r : Nat} (h : r = 0) : eqD (.int (r : Int)) (.int 0) = some true := by subst h; rfl
theorem eq0_false {r : Nat} (h : ¬ r = 0) : eqD (.int (r : Int)) (.int 0) = some false := by
  show some ((r : Int) == 0) = _
  have : ¬ (r : Int) = 0 := by omega
  simp [h, this]
theorem compL_filt {α : Type} {turn : D → Slots → Cels → Res (Option D)} {e : Slots} (g h : α → D) (I : Nat → Cels → Prop) : ∀ (xs : List α) (acc : List D) (m : Cels), (∀ x ∈ xs, ∀ j m, I (j + 1) m → ∃ m', (turn (g x) e m = .ok none e m' ∨ turn (g x) e m = .ok (some (h x)) e m') ∧ I j m') → I xs.length m → acc.length + xs.length ≤ lim →
    ∃ (sub : List α) (m' : Cels), compL turn (xs.map g) acc e m = .ok (acc ++ sub.map h) e m' ∧ sub.Sublist xs ∧ I 0 m'
  | [], acc, m, _, hI, _ => ⟨[], m, by simp [compL], .slnil, hI⟩
  | x :: xs, acc, m, ht, hI, hl => by
    rw [List.length_cons] at hl
    obtain ⟨m1, h1, h2⟩ := ht x List.mem_cons_self xs.length m hI
    rcases h1 with h1 | h1
    · obtain ⟨sub, m2, h3, h4, h5⟩ := compL_filt g h I xs acc m1 (fun z hz => ht z (List.mem_cons_of_mem _ hz)) h2 (by omega)
      refine ⟨sub, m2, ?_, h4.cons _, h5⟩
      rw [List.map_cons]
      unfold compL
      rw [h1]
      exact h3
    · obtain ⟨sub, m2, h3, h4, h5⟩ := compL_filt g h I xs (acc ++ [h x]) m1 (fun z hz => ht z (List.mem_cons_of_mem _ hz)) h2 (by rw [List.length_append, List.length_singleton]; omega)
      refine ⟨x :: sub, m2, ?_, h4.cons_cons _, h5⟩
      rw [List.map_cons]
      unfold compL
      rw [h1]
      dsimp only
      rw [if_pos (by omega), h3]
      simp
/-- one each -/
theorem compL_each {α β : Type} {turn : D → Slots → Cels → Res (Option D)} {e : Slots} (g : α → D) (h : β → D) (R : α → β → Prop) (I : Nat → Cels → Prop) : ∀ (xs : List α) (acc : List D) (m : Cels), (∀ x ∈ xs, ∀ j m, I (j + 1) m → ∃ y m', turn (g x) e m = .ok (some (h y)) e m' ∧ R x y ∧ I j m') → I xs.length m → acc.length + xs.length ≤ lim →
    ∃ (ys : List β) (m' : Cels), compL turn (xs.map g) acc e m = .ok (acc ++ ys.map h) e m' ∧ ys.length = xs.length ∧ (∀ (i : Nat) x y, xs[i]? = some x → ys[i]? = some y → R x y) ∧ I 0 m'
  | [], acc, m, _, hI, _ => ⟨[], m, by simp [compL], rfl, fun i x y hx => by simp at hx, hI⟩
  | x :: xs, acc, m, ht, hI, hl => by
    rw [List.length_cons] at hl
    obtain ⟨y, m1, h1, h2, h3⟩ := ht x List.mem_cons_self xs.length m hI
    obtain ⟨ys, m2, h4, h5, h6, h7⟩ := compL_each g h R I xs (acc ++ [h y]) m1 (fun z hz => ht z (List.mem_cons_of_mem _ hz)) h3 (by rw [List.length_append, List.length_singleton]; omega)
    refine ⟨y :: ys, m2, ?_, by simp [h5], ?_, h7⟩
    · rw [List.map_cons]
      unfold compL
      rw [h1]
      dsimp only
      rw [if_pos (by omega), h4]
      simp
    · intro i a b ha hb
      cases i with
      | zero => cases ha; cases hb; exact h2
      | succ i => exact h6 i a b ha hb

/-! ### tables that grow -/
def upd {α : Type} (f : Nat → α) (n : Nat) (v : α) (i : Nat) : α := if i = n then v else f i
theorem upd_at {α : Type} (f : Nat → α) (n : Nat) (v : α) : upd f n v n = v := if_pos rfl
theorem upd_ne {α : Type} (f : Nat → α) (n : Nat) (v : α) {i : Nat} (h : i ≠ n) : upd f n v i = f i := if_neg h
theorem tab_congr {n : Nat} {g g' : Nat → D} (h : ∀ i, i < n → g i = g' i) : tab n g = tab n g' := List.map_congr_left fun i hi => h i (List.mem_range.mp hi)
theorem rows_ext (n : Nat) (R : Nat → List Nat) (l : List Nat) : (tab n fun i => T (R i)) ++ [T l] = tab (n + 1) fun i => T (upd R n l i) := by
  rw [← tab_succ, upd_at]
  congr 1
  apply tab_congr
  intro i hi
  rw [upd_ne _ _ _ (by omega)]
theorem cut_from (n : Nat) (g : Nat → D) : cutD (tab n g) (some 1) none = (List.range (n - 1)).map fun i => g (i + 1) := by
  have e : cutD (tab n g) (some 1) none = ((tab n g).drop (min 1 (tab n g).length)).take ((tab n g).length - min 1 (tab n g).length) := rfl
  rw [e, tab_len]
  apply List.ext_getElem?
  intro i
  rw [List.getElem?_take, List.getElem?_drop]
  by_cases h : i < n - 1
  · rw [if_pos (by omega), show min 1 n + i = i + 1 by omega, tab_at (by omega)]
    simp [h]
  · rw [List.getElem?_eq_none (l := List.map _ _) (by simp; omega)]
    split
    · rw [List.getElem?_eq_none (by rw [tab_len]; omega)]
    · rfl
theorem chart_list {n : Nat} (hn : 0 < n) {ys : List Nat} (hl : ys.length = n - 1) : .none :: ys.map N = tab n (cg fun i => ys.getD (i - 1) 0) := by
  apply List.ext_getElem?
  intro i
  by_cases h : i < n
  · rw [tab_at h]
    cases i with
    | zero => rfl
    | succ i =>
      have hi : i < ys.length := by omega
      simp [cg, hi]
  · rw [List.getElem?_eq_none (l := tab _ _) (by rw [tab_len]; omega), List.getElem?_eq_none (by simp; omega)]
end Pv

/-! PvK: random lists, charts, pins. -/
namespace Pv
open PySem

def rulesSome (i : Nat) : X := .comp (.v 6) [6] .rng1 [.var 4] (.cmp .eq (.call i [.var 0, .var 3] [.inl 0, .inl 1]) (.int 0)) (.var 6)
def rulesBody (i : Nat) : List S := [.asg (.v 5) (rulesSome i), .app 2 (.b1 .totuple (.ite (.cmp .ne (.var 5) (.lst [])) (.var 5) (.lst [.call i [.var 0, .var 4] [.inl 0, .inl 1]])))]
def rulesFor (i : Nat) : S := .for (.v 4) .rng2 [.int 1, .op .add (.int 1) (.call i [.var 0, .var 1] [.inl 0, .inl 1])] (rulesBody i)
def rulesFn (i : Nat) : Fn := ⟨7, [
  .asg (.v 2) (.lst [.tup []]),
  .asg (.v 3) (.op .add (.int 1) (.call i [.var 0, .int 3] [.inl 0, .inl 1])),
  rulesFor i,
  .ret (.b1 .totuple (.var 2))]⟩
theorem eqD_N0 (r : Nat) : eqD (.int (r : Int)) (.int 0) = some (decide (r = 0)) := by
  show some ((r : Int) == 0) = _
  congr 1
  by_cases h : r = 0
  · subst h; rfl
  · have : ¬ (r : Int) = 0 := by omega
    simp [h, this]
theorem rulesSome_ok {G : List D} {F : List Fn} {i : Nat} (hF : F[i]? = some (drawFn i)) (p k : Nat) (m : Cels) (most w odds B : Nat) (h1 : 1 ≤ odds) (h2 : odds ≤ 3) (hw : w ≤ 1000) (x2 x5 x6 : Option Vl) (hs : Src m k (B + w)) :
    ∃ l m', (sem G (callD G F (p + 1)) (rulesSome i)).v [some (.cell k), some (.d (N most)), x2, some (.d (N odds)), some (.d (N w)), x5, x6] m = .ok (.own (l.map N)) [some (.cell k), some (.d (N most)), x2, some (.d (N odds)), some (.d (N w)), x5, x6] m' ∧ Asc l ∧ (∀ x ∈ l, x < w) ∧ Src m' k B := by
  obtain ⟨sub, m', e1, e2, e3⟩ := compL_filt (turn := turnC (.v 6) [6] (sem G (callD G F (p + 1)) (.cmp .eq (.call i [.var 0, .var 3] [.inl 0, .inl 1]) (.int 0))) (sem G (callD G F (p + 1)) (.var 6))) (e := [some (.cell k), some (.d (N most)), x2, some (.d (N odds)), some (.d (N w)), x5, none]) N N (fun j m => Src m k (B + j)) (List.range w) [] m (fun x hx j m hI => by
    obtain ⟨r, m', e, hr, hs'⟩ := draw_N (G := G) hF p k (B + j) m odds hI h1 (by omega)
    refine ⟨m', ?_, hs'⟩
    by_cases h0 : r = 0
    · refine .inr ?_
      simp [startE, Pv.execs, Pv.exec, sem, sems, Sm.mk', Sm.g, Sm.r, Sm.c, Sm.o, getV, takeV, two2, one1, dispV, smG, smV, smA, lentOf, frzAll, frz_d, frz_own, frzArg, bindT, bindTs, dat_d, dat_own, datAll, tOf, Res.of, outcome, compV, itW, wipeE, callV, callPV, callLV, lentRes, celV, arrange, pureRes, callRes, restoreE, noLst, andV, orV, notV, andT, orT, notT, iteV, boolR, ownAt, parB, sliceV, inrV, chainV, cidxV, truth, len_list, len_tuple, tup_list, tup_tuple, lst_list, lst_tuple, toint_b, turnC, e, cmpOp, eq0_true h0]
    · refine .inl ?_
      simp [startE, Pv.execs, Pv.exec, sem, sems, Sm.mk', Sm.g, Sm.r, Sm.c, Sm.o, getV, takeV, two2, one1, dispV, smG, smV, smA, lentOf, frzAll, frz_d, frz_own, frzArg, bindT, bindTs, dat_d, dat_own, datAll, tOf, Res.of, outcome, compV, itW, wipeE, callV, callPV, callLV, lentRes, celV, arrange, pureRes, callRes, restoreE, noLst, andV, orV, notV, andT, orT, notT, iteV, boolR, ownAt, parB, sliceV, inrV, chainV, cidxV, truth, len_list, len_tuple, tup_list, tup_tuple, lst_list, lst_tuple, toint_b, turnC, e, cmpOp, eq0_false h0]) (by simpa using hs) (by simp [lim]; omega)
  refine ⟨sub, m', ?_, (asc_range w).sublist e2, fun x hx => List.mem_range.mp (e2.subset hx), e3⟩
  have e1' : compL (turnC (.v 6) [6] (sem G (callD G F (p + 1)) (.cmp .eq (.call i [.var 0, .var 3] [.inl 0, .inl 1]) (.int 0))) (sem G (callD G F (p + 1)) (.var 6))) ((List.range w).map N) [] [some (.cell k), some (.d (N most)), x2, some (.d (N odds)), some (.d (N w)), x5, none] m = .ok (sub.map N) [some (.cell k), some (.d (N most)), x2, some (.d (N odds)), some (.d (N w)), x5, none] m' := e1
  have hi : itW (smV (sems G (callD G F (p + 1)) [.var 4]) [some (.cell k), some (.d (N most)), x2, some (.d (N odds)), some (.d (N w)), x5, x6] m) .rng1 = .ok ((List.range w).map N) [some (.cell k), some (.d (N most)), x2, some (.d (N odds)), some (.d (N w)), x5, x6] m := by
    simp [startE, Pv.execs, Pv.exec, sem, sems, Sm.mk', Sm.g, Sm.r, Sm.c, Sm.o, getV, takeV, two2, one1, dispV, smG, smV, smA, lentOf, frzAll, frz_d, frz_own, frzArg, bindT, bindTs, dat_d, dat_own, datAll, tOf, Res.of, outcome, compV, itW, wipeE, callV, callPV, callLV, lentRes, celV, arrange, pureRes, callRes, restoreE, noLst, andV, orV, notV, andT, orT, notT, iteV, boolR, ownAt, parB, sliceV, inrV, chainV, cidxV, truth, len_list, len_tuple, tup_list, tup_tuple, lst_list, lst_tuple, toint_b, rng1_N (show w ≤ 1000000 by omega)]
  exact comp_ok hi e1'
theorem eqD_nil (xs : List Nat) : eqD (.list (xs.map N)) (.list []) = some (decide (xs = [])) := by
  show (if okD _ && okD _ then some (PyData.eqv _ _) else none) = _
  have h1 : okD (.list (xs.map N)) = true := shpAll_N 59 xs
  rw [h1]
  cases xs <;> rfl
theorem rules_spec {G : List D} {F : List Fn} {i f : Nat} (hF : F[f]? = some (rulesFn i)) (hD : F[i]? = some (drawFn i)) (p k B : Nat) (m : Cels) (most : Nat) (h1 : 1 ≤ most) (h2 : most ≤ 20) (hs : Src m k (B + 500)) :
    ∃ n R m', callD G F (p + 2) f [.cell k, .d (N most)] m = .ok (.d (rowsD n R)) m' ∧ Good n R ∧ n ≤ most ∧ Src m' k B := by
  obtain ⟨o, m1, e1, ho, hs1⟩ := draw_N (G := G) hD p k (B + 499) m 3 hs (by omega) (by omega)
  obtain ⟨q, m2, e2, hq, hs2⟩ := draw_N (G := G) hD p k (B + 498) m1 most hs1 h1 (by omega)
  have a1 : binOp .add (.int 1) (.int (o : Int)) = some (.d (N (1 + o))) := by simp [binOp, Pv.intOp]
  have a2 : binOp .add (.int 1) (.int (q : Int)) = some (.d (N (1 + q))) := by simp [binOp, Pv.intOp]
  have hr := rng2_1 (b := 1 + q) (by omega)
  have hw := for_ok (G := G) (call := callD G F (p + 1)) (t := .v 4) (k := .rng2) (as := [.int 1, .op .add (.int 1) (.call i [.var 0, .var 1] [.inl 0, .inl 1])]) (body := rulesBody i)
    (fun j e m => Src m k (B + (20 - j) * 22) ∧ ∃ R x4 x5, e = [some (.cell k), some (.d (N most)), some (.own (tab (j + 1) fun i => T (R i))), some (.d (N (1 + o))), x4, x5, none] ∧ Good (j + 1) R)
    (e := [some (.cell k), some (.d (N most)), some (.own (tab 1 fun i => T [])), some (.d (N (1 + o))), none, none, none]) (e0 := [some (.cell k), some (.d (N most)), some (.own (tab 1 fun i => T [])), some (.d (N (1 + o))), none, none, none]) (m := m1) (m0 := m2) (items := (List.range (1 + q - 1)).map fun i => N (1 + i)) ?hi ?h0 ?hs
  case hi => simp [startE, Pv.execs, Pv.exec, sem, sems, Sm.mk', Sm.g, Sm.r, Sm.c, Sm.o, getV, takeV, two2, one1, dispV, smG, smV, smA, lentOf, frzAll, frz_d, frz_own, frzArg, bindT, bindTs, dat_d, dat_own, datAll, tOf, Res.of, outcome, compV, itW, wipeE, callV, callPV, callLV, lentRes, celV, arrange, pureRes, callRes, restoreE, noLst, andV, orV, notV, andT, orT, notT, iteV, boolR, ownAt, parB, sliceV, inrV, chainV, cidxV, truth, len_list, len_tuple, tup_list, tup_tuple, lst_list, lst_tuple, toint_b, e2, a2, hr]
  case h0 =>
    refine ⟨hs2.mono (by omega), fun _ => [], none, none, rfl, ⟨by omega, rfl, fun i h0 h1 => by omega, fun i h1 => by simp, fun i h1 x hx => by cases hx⟩⟩
  case hs =>
    rintro j x e m3 hx ⟨hs3, R, x4, x5, rfl, g⟩
    have hj : j < q := by
      have := (List.getElem?_eq_some_iff.mp hx).1
      simp at this
      omega
    have hx' : x = N (j + 1) := by
      rw [List.getElem?_map, List.getElem?_range (by omega)] at hx
      cases hx
      rw [Nat.add_comm]
    subst hx'
    refine ⟨_, rfl, ?_⟩
    obtain ⟨l, m4, e4, hl1, hl2, hs4⟩ := rulesSome_ok (G := G) hD p k m3 most (j + 1) (1 + o) (B + (20 - (j + 1)) * 22 + 1) (by omega) (by omega) (by omega) (some (.own (tab (j + 1) fun i => T (R i)))) x5 none (hs3.mono (by
      have : (20 - j) * 22 = (20 - (j + 1)) * 22 + 22 := by
        rw [show 20 - j = (20 - (j + 1)) + 1 by omega, Nat.add_mul]
      omega))
    have hlim : (tab (j + 1) fun i => T (R i)).length < 1000000 := by rw [tab_len]; omega
    have hne := eqD_nil l
    have hvar : (sem G (callD G F (p + 1)) (rulesSome i)).var = none := rfl
    have hgood : ∀ l, l ≠ [] → Asc l → (∀ x ∈ l, x < j + 1) → Good (j + 1 + 1) (upd R (j + 1) l) := by
      intro l h1 h2 h3
      refine ⟨by omega, ?_, ?_, ?_, ?_⟩
      · rw [upd_ne _ _ _ (by omega)]; exact g.zero
      · intro i h0 hi
        by_cases e : i = j + 1
        · subst e; rw [upd_at]; exact h1
        · rw [upd_ne _ _ _ e]; exact g.ne i h0 (by omega)
      · intro i hi
        by_cases e : i = j + 1
        · subst e; rw [upd_at]; exact h2
        · rw [upd_ne _ _ _ e]; exact g.asc i (by omega)
      · intro i hi
        by_cases e : i = j + 1
        · subst e; rw [upd_at]; exact h3
        · rw [upd_ne _ _ _ e]; exact g.lt i (by omega)
    by_cases hnil : l = []
    · subst hnil
      obtain ⟨c, m5, e5, hc, hs5⟩ := draw_N (G := G) hD p k (B + (20 - (j + 1)) * 22) m4 (j + 1) hs4 (by omega) (by omega)
      refine ⟨[some (.cell k), some (.d (N most)), some (.own (tab (j + 1 + 1) fun i => T (upd R (j + 1) [c] i))), some (.d (N (1 + o))), some (.d (N (j + 1))), some (.own []), none], m5, .inl ?_, hs5, _, _, _, rfl, hgood [c] (by simp) (by simp) (by simpa using hc)⟩
      have hrow : (tab (j + 1) fun i => T (R i)) ++ [.tuple [.int (c : Nat)]] = _ := rows_ext (j + 1) R [c]
      have hne0 : eqD (.list []) (.list []) = some true := rfl
      simp [startE, Pv.execs, Pv.exec, sem, sems, Sm.mk', Sm.g, Sm.r, Sm.c, Sm.o, getV, takeV, two2, one1, dispV, smG, smV, smA, lentOf, frzAll, frz_d, frz_own, frzArg, bindT, bindTs, dat_d, dat_own, datAll, tOf, Res.of, outcome, compV, itW, wipeE, callV, callPV, callLV, lentRes, celV, arrange, pureRes, callRes, restoreE, noLst, andV, orV, notV, andT, orT, notT, iteV, boolR, ownAt, parB, sliceV, inrV, chainV, cidxV, truth, len_list, len_tuple, tup_list, tup_tuple, lst_list, lst_tuple, toint_b, rulesBody, hvar, e4, cmpOp, hne0, e5, hlim, hrow, lim]
    · refine ⟨[some (.cell k), some (.d (N most)), some (.own (tab (j + 1 + 1) fun i => T (upd R (j + 1) l i))), some (.d (N (1 + o))), some (.d (N (j + 1))), some (.d (.list (l.map N))), none], m4, .inl ?_, hs4.mono (by omega), _, _, _, rfl, hgood l hnil hl1 hl2⟩
      have hrow : (tab (j + 1) fun i => T (R i)) ++ [.tuple (l.map N)] = _ := rows_ext (j + 1) R l
      simp [startE, Pv.execs, Pv.exec, sem, sems, Sm.mk', Sm.g, Sm.r, Sm.c, Sm.o, getV, takeV, two2, one1, dispV, smG, smV, smA, lentOf, frzAll, frz_d, frz_own, frzArg, bindT, bindTs, dat_d, dat_own, datAll, tOf, Res.of, outcome, compV, itW, wipeE, callV, callPV, callLV, lentRes, celV, arrange, pureRes, callRes, restoreE, noLst, andV, orV, notV, andT, orT, notT, iteV, boolR, ownAt, parB, sliceV, inrV, chainV, cidxV, truth, len_list, len_tuple, tup_list, tup_tuple, lst_list, lst_tuple, toint_b, rulesBody, hvar, e4, cmpOp, hne, hlim, hrow, hnil, lim]
  obtain ⟨e', m', h1', hs', R, x4, x5, rfl, g⟩ := hw
  have e4 : (List.map (fun i => N (1 + i)) (List.range (1 + q - 1))).length + 1 = q + 1 := by simp
  rw [e4] at h1' g
  refine ⟨q + 1, R, m', ?_, g, by omega, hs'.mono (by omega)⟩
  have h1'' : Pv.exec G (callD G F (p + 1)) (rulesFor i) [some (.cell k), some (.d (N most)), some (.own [.tuple []]), some (.d (N (1 + o))), none, none, none] m1 = _ := h1'
  have e1' : callD G F (p + 1) i [.cell k, .d (.int 3)] m = .ok (.d (.int o)) m1 := e1
  refine callD_ok hF (Nat.le_of_ble_eq_true rfl) ?_
  simp [startE, Pv.execs, Pv.exec, sem, sems, Sm.mk', Sm.g, Sm.r, Sm.c, Sm.o, getV, takeV, two2, one1, dispV, smG, smV, smA, lentOf, frzAll, frz_d, frz_own, frzArg, bindT, bindTs, dat_d, dat_own, datAll, tOf, Res.of, outcome, compV, itW, wipeE, callV, callPV, callLV, lentRes, celV, arrange, pureRes, callRes, restoreE, noLst, andV, orV, notV, andT, orT, notT, iteV, boolR, ownAt, parB, sliceV, inrV, chainV, cidxV, truth, len_list, len_tuple, tup_list, tup_tuple, lst_list, lst_tuple, toint_b, rulesFn, lim, e1', a1, h1'']
  rfl

/-! ### charts -/
def treeAll (c : Nat) : X := .comp (.v 2) [2] .seq [.sl (.var 1) (.int 1) (.omit)] (.omit) (.call c [.var 0, .var 2] [.inl 0, .inl 1])
def treeFn (c : Nat) : Fn := ⟨3, [
  .ret (.op .add (.tup [.non]) (.b1 .totuple (treeAll c)))]⟩
theorem slD_tab {n : Nat} {g : Nat → D} : slD (some 1) none (.tuple (tab n g)) = some (.d (.tuple ((List.range (n - 1)).map fun i => g (i + 1)))) := by
  show some (Vl.d (.tuple (cutD (tab n g) (some 1) none))) = _
  rw [cut_from]
theorem tree_spec {G : List D} {F : List Fn} {i f c : Nat} (hF : F[f]? = some (treeFn c)) (hC : F[c]? = some (choiceFn i)) (hD : F[i]? = some (drawFn i)) (p k B : Nat) (m : Cels) {n : Nat} {R : Nat → List Nat} (g : Good n R) (hn : n ≤ 1000) (hs : Src m k (B + n)) :
    ∃ ch m', callD G F (p + 3) f [.cell k, .d (rowsD n R)] m = .ok (.d (chartD n ch)) m' ∧ Chart n R ch ∧ Src m' k B := by
  obtain ⟨ys, m', e1, e2, e3, e4⟩ := compL_each (turn := turnC (.v 2) [2] (sem G (callD G F (p + 2)) .omit) (sem G (callD G F (p + 2)) (.call c [.var 0, .var 2] [.inl 0, .inl 1]))) (e := [some (.cell k), some (.d (rowsD n R)), none]) (fun i => T (R (i + 1))) N (fun i y => y ∈ R (i + 1)) (fun j m => Src m k (B + j)) (List.range (n - 1)) [] m (fun x hx j m hI => by
    have hx' := List.mem_range.mp hx
    have hlen : (R (x + 1)).length ≤ 10000000 := by
      have := (g.asc (x + 1) (by omega)).nodup.length_le_of_subset (l₂ := List.range (x + 1)) fun y hy => List.mem_range.mpr (g.lt (x + 1) (by omega) y hy)
      rw [List.length_range] at this
      omega
    obtain ⟨y, m', e, hy, hs'⟩ := choice_map (G := G) hD hC p k (B + j) m N (R (x + 1)) (T (R (x + 1))) rfl hI (g.ne (x + 1) (by omega) (by omega)) hlen
    refine ⟨y, m', ?_, hy, hs'⟩
    simp [startE, Pv.execs, Pv.exec, sem, sems, Sm.mk', Sm.g, Sm.r, Sm.c, Sm.o, getV, takeV, two2, one1, dispV, smG, smV, smA, lentOf, frzAll, frz_d, frz_own, frzArg, bindT, bindTs, dat_d, dat_own, datAll, tOf, Res.of, outcome, compV, itW, wipeE, callV, callPV, callLV, lentRes, celV, arrange, pureRes, callRes, restoreE, noLst, andV, orV, notV, andT, orT, notT, iteV, boolR, ownAt, parB, sliceV, inrV, chainV, cidxV, truth, len_list, len_tuple, tup_list, tup_tuple, lst_list, lst_tuple, toint_b, turnC, e]) (hs.mono (by simp)) (by simp [lim]; omega)
  rw [List.length_range] at e2
  refine ⟨fun i => ys.getD (i - 1) 0, m', ?_, ?_, e4⟩
  · have hch := chart_list g.pos e2
    have e1' : compL (turnC (.v 2) [2] (sem G (callD G F (p + 2)) .omit) (sem G (callD G F (p + 2)) (.call c [.var 0, .var 2] [.inl 0, .inl 1]))) ((List.range (n - 1)).map fun i => T (R (i + 1))) [] [some (.cell k), some (.d (rowsD n R)), none] m = .ok (ys.map N) [some (.cell k), some (.d (rowsD n R)), none] m' := e1
    have hsl : slD (some 1) none (rowsD n R) = _ := slD_tab
    have hv : (sem G (callD G F (p + 2)) (treeAll c)).v [some (.cell k), some (.d (rowsD n R)), none] m = .ok (.own (ys.map N)) [some (.cell k), some (.d (rowsD n R)), none] m' := by
      have hi : itW (smV (sems G (callD G F (p + 2)) [.sl (.var 1) (.int 1) (.omit)]) [some (.cell k), some (.d (rowsD n R)), none] m) .seq = .ok ((List.range (n - 1)).map fun i => T (R (i + 1))) [some (.cell k), some (.d (rowsD n R)), none] m := by
        simp [startE, Pv.execs, Pv.exec, sem, sems, Sm.mk', Sm.g, Sm.r, Sm.c, Sm.o, getV, takeV, two2, one1, dispV, smG, smV, smA, lentOf, frzAll, frz_d, frz_own, frzArg, bindT, bindTs, dat_d, dat_own, datAll, tOf, Res.of, outcome, compV, itW, wipeE, callV, callPV, callLV, lentRes, celV, arrange, pureRes, callRes, restoreE, noLst, andV, orV, notV, andT, orT, notT, iteV, boolR, ownAt, parB, sliceV, inrV, chainV, cidxV, truth, len_list, len_tuple, tup_list, tup_tuple, lst_list, lst_tuple, toint_b, hsl, itemsOf, seqOf]
      exact comp_ok hi e1'
    have hadd : binOp .add (.tuple [.none]) (.tuple (ys.map N)) = some (.d (chartD n fun i => ys.getD (i - 1) 0)) := by
      show (if 1 + (ys.map N).length ≤ lim then some (Vl.d (.tuple (.none :: ys.map N))) else none) = _
      rw [if_pos (by simp [lim]; omega), hch]
      rfl
    refine callD_ok hF (Nat.le_of_ble_eq_true rfl) ?_
    simp [startE, Pv.execs, Pv.exec, sem, sems, Sm.mk', Sm.g, Sm.r, Sm.c, Sm.o, getV, takeV, two2, one1, dispV, smG, smV, smA, lentOf, frzAll, frz_d, frz_own, frzArg, bindT, bindTs, dat_d, dat_own, datAll, tOf, Res.of, outcome, compV, itW, wipeE, callV, callPV, callLV, lentRes, celV, arrange, pureRes, callRes, restoreE, noLst, andV, orV, notV, andT, orT, notT, iteV, boolR, ownAt, parB, sliceV, inrV, chainV, cidxV, truth, len_list, len_tuple, tup_list, tup_tuple, lst_list, lst_tuple, toint_b, treeFn, hv, hadd, lim]
  · intro i h0 hi
    have h1 : i - 1 < ys.length := by omega
    have := e3 (i - 1) (i - 1) ys[i - 1] (by rw [List.getElem?_range (by omega)]) (List.getElem?_eq_getElem h1)
    rw [show i - 1 + 1 = i by omega] at this
    simp [h1]
    exact this

/-! ### pins -/
def stuckAll (i : Nat) : X := .comp (.v 2) [2] .rng2 [.int 1, .b1 .len (.var 1)] (.cmp .eq (.call i [.var 0, .int 4] [.inl 0, .inl 1]) (.int 0)) (.var 2)
def stuckFn (i : Nat) : Fn := ⟨3, [
  .ite (.cmp .eq (.call i [.var 0, .int 2] [.inl 0, .inl 1]) (.int 0)) [.ret (.tup [])] [],
  .ret (.b1 .totuple (stuckAll i))]⟩
/-- pinned members -/
structure Pins (n : Nat) (P : List Nat) : Prop where
  asc : Asc P
  pos : ∀ x ∈ P, 0 < x
  lt : ∀ x ∈ P, x < n
theorem stuck_spec {G : List D} {F : List Fn} {i f : Nat} (hF : F[f]? = some (stuckFn i)) (hD : F[i]? = some (drawFn i)) (p k B : Nat) (m : Cels) {n : Nat} (g : Nat → D) (hn : n ≤ 1000) (hs : Src m k (B + n + 1)) :
    ∃ P m', callD G F (p + 2) f [.cell k, .d (.tuple (tab n g))] m = .ok (.d (T P)) m' ∧ Pins n P ∧ Src m' k B := by
  obtain ⟨o, m1, e1, ho, hs1⟩ := draw_N (G := G) hD p k (B + n) m 2 hs (by omega) (by omega)
  have e1' : callD G F (p + 1) i [.cell k, .d (.int 2)] m = .ok (.d (.int o)) m1 := e1
  have heq := eqD_N0 o
  by_cases h0 : o = 0
  · refine ⟨[], m1, ?_, ⟨by simp, by simp, by simp⟩, hs1.mono (by omega)⟩
    refine callD_ok hF (Nat.le_of_ble_eq_true rfl) ?_
    simp [startE, Pv.execs, Pv.exec, sem, sems, Sm.mk', Sm.g, Sm.r, Sm.c, Sm.o, getV, takeV, two2, one1, dispV, smG, smV, smA, lentOf, frzAll, frz_d, frz_own, frzArg, bindT, bindTs, dat_d, dat_own, datAll, tOf, Res.of, outcome, compV, itW, wipeE, callV, callPV, callLV, lentRes, celV, arrange, pureRes, callRes, restoreE, noLst, andV, orV, notV, andT, orT, notT, iteV, boolR, ownAt, parB, sliceV, inrV, chainV, cidxV, truth, len_list, len_tuple, tup_list, tup_tuple, lst_list, lst_tuple, toint_b, stuckFn, e1', cmpOp, eq0_true h0]
    rfl
  · obtain ⟨sub, m', e2, e3, e4⟩ := compL_filt (turn := turnC (.v 2) [2] (sem G (callD G F (p + 1)) (.cmp .eq (.call i [.var 0, .int 4] [.inl 0, .inl 1]) (.int 0))) (sem G (callD G F (p + 1)) (.var 2))) (e := [some (.cell k), some (.d (.tuple (tab n g))), none]) (fun i => N (1 + i)) (fun i => N (1 + i)) (fun j m => Src m k (B + j)) (List.range (n - 1)) [] m1 (fun x hx j m hI => by
      obtain ⟨r, m', e, hr, hs'⟩ := draw_N (G := G) hD p k (B + j) m 4 hI (by omega) (by omega)
      have e' : callD G F (p + 1) i [.cell k, .d (.int 4)] m = .ok (.d (.int r)) m' := e
      refine ⟨m', ?_, hs'⟩
      by_cases h0 : r = 0
      · refine .inr ?_
        simp [startE, Pv.execs, Pv.exec, sem, sems, Sm.mk', Sm.g, Sm.r, Sm.c, Sm.o, getV, takeV, two2, one1, dispV, smG, smV, smA, lentOf, frzAll, frz_d, frz_own, frzArg, bindT, bindTs, dat_d, dat_own, datAll, tOf, Res.of, outcome, compV, itW, wipeE, callV, callPV, callLV, lentRes, celV, arrange, pureRes, callRes, restoreE, noLst, andV, orV, notV, andT, orT, notT, iteV, boolR, ownAt, parB, sliceV, inrV, chainV, cidxV, truth, len_list, len_tuple, tup_list, tup_tuple, lst_list, lst_tuple, toint_b, turnC, e', cmpOp, eq0_true h0]
      · refine .inl ?_
        simp [startE, Pv.execs, Pv.exec, sem, sems, Sm.mk', Sm.g, Sm.r, Sm.c, Sm.o, getV, takeV, two2, one1, dispV, smG, smV, smA, lentOf, frzAll, frz_d, frz_own, frzArg, bindT, bindTs, dat_d, dat_own, datAll, tOf, Res.of, outcome, compV, itW, wipeE, callV, callPV, callLV, lentRes, celV, arrange, pureRes, callRes, restoreE, noLst, andV, orV, notV, andT, orT, notT, iteV, boolR, ownAt, parB, sliceV, inrV, chainV, cidxV, truth, len_list, len_tuple, tup_list, tup_tuple, lst_list, lst_tuple, toint_b, turnC, e', cmpOp, eq0_false h0]) (hs1.mono (by simp)) (by simp [lim]; omega)
    have e2' : compL (turnC (.v 2) [2] (sem G (callD G F (p + 1)) (.cmp .eq (.call i [.var 0, .int 4] [.inl 0, .inl 1]) (.int 0))) (sem G (callD G F (p + 1)) (.var 2))) ((List.range (n - 1)).map fun i => N (1 + i)) [] [some (.cell k), some (.d (.tuple (tab n g))), none] m1 = .ok (sub.map fun i => N (1 + i)) [some (.cell k), some (.d (.tuple (tab n g))), none] m' := e2
    have hv : (sem G (callD G F (p + 1)) (stuckAll i)).v [some (.cell k), some (.d (.tuple (tab n g))), none] m1 = .ok (.own (sub.map fun i => N (1 + i))) [some (.cell k), some (.d (.tuple (tab n g))), none] m' := by
      have hi : itW (smV (sems G (callD G F (p + 1)) [.int 1, .b1 .len (.var 1)]) [some (.cell k), some (.d (.tuple (tab n g))), none] m1) .rng2 = .ok ((List.range (n - 1)).map fun i => N (1 + i)) [some (.cell k), some (.d (.tuple (tab n g))), none] m1 := by
        have hl : b1Op .len (.tuple (tab n g)) = some (.d (.int n)) := len_tab (g := g) rfl
        simp [startE, Pv.execs, Pv.exec, sem, sems, Sm.mk', Sm.g, Sm.r, Sm.c, Sm.o, getV, takeV, two2, one1, dispV, smG, smV, smA, lentOf, frzAll, frz_d, frz_own, frzArg, bindT, bindTs, dat_d, dat_own, datAll, tOf, Res.of, outcome, compV, itW, wipeE, callV, callPV, callLV, lentRes, celV, arrange, pureRes, callRes, restoreE, noLst, andV, orV, notV, andT, orT, notT, iteV, boolR, ownAt, parB, sliceV, inrV, chainV, cidxV, truth, len_list, len_tuple, tup_list, tup_tuple, lst_list, lst_tuple, toint_b, hl, tab_len, rng2_1 (show n ≤ 1000000 by omega)]
      exact comp_ok hi e2'
    refine ⟨sub.map (1 + ·), m', ?_, ⟨?_, ?_, ?_⟩, e4⟩
    · refine callD_ok hF (Nat.le_of_ble_eq_true rfl) ?_
      simp [startE, Pv.execs, Pv.exec, sem, sems, Sm.mk', Sm.g, Sm.r, Sm.c, Sm.o, getV, takeV, two2, one1, dispV, smG, smV, smA, lentOf, frzAll, frz_d, frz_own, frzArg, bindT, bindTs, dat_d, dat_own, datAll, tOf, Res.of, outcome, compV, itW, wipeE, callV, callPV, callLV, lentRes, celV, arrange, pureRes, callRes, restoreE, noLst, andV, orV, notV, andT, orT, notT, iteV, boolR, ownAt, parB, sliceV, inrV, chainV, cidxV, truth, len_list, len_tuple, tup_list, tup_tuple, lst_list, lst_tuple, toint_b, stuckFn, e1', cmpOp, eq0_false h0, hv]
      simp [T]
    · exact List.pairwise_map.mpr ((List.Pairwise.sublist e3 List.pairwise_lt_range).imp fun h => by omega)
    · intro x hx
      obtain ⟨y, _, rfl⟩ := List.mem_map.mp hx
      omega
    · intro x hx
      obtain ⟨y, hy, rfl⟩ := List.mem_map.mp hx
      have := List.mem_range.mp (e3.subset hy)
      omega
end Pv

/-! PvI: the laws' own equality; the program's block; the laws' own blocks. -/
namespace Pv
open PySem

def equalAll (j : Nat) : X := .comp (.t [.v 2, .v 3]) [2, 3] .zip [.var 0, .var 1] (.omit) (.callP j [.var 2, .var 3] [.inl 0, .inl 1])
def equalFn (j : Nat) : Fn := ⟨4, [
  .ite (.isi .listtuple (.var 1)) [.ite (.or (.cmp .ne (.isi .list (.var 0)) (.isi .list (.var 1))) (.cmp .ne (.isi .tuple (.var 0)) (.isi .tuple (.var 1)))) [.ret (.bl false)] [], .ret (.and (.cmp .eq (.b1 .len (.var 0)) (.b1 .len (.var 1))) (.b1 .all (equalAll j)))] [],
  .ite (.or (.cmp .is (.var 1) (.non)) (.isi .str (.var 1))) [.ret (.and (.cmp .eq (.var 0) (.var 1)) (.cmp .eq (.isi .str (.var 0)) (.isi .str (.var 1))))] [],
  .ret (.and (.isi .int (.var 0)) (.and (.cmp .eq (.isi .bool (.var 0)) (.isi .bool (.var 1))) (.cmp .eq (.var 0) (.var 1))))]⟩
mutual
/-- no dict within, no deeper than n, no list too long -/
def sml : Nat → D → Bool
  | _, .none => true
  | _, .bool _ => true
  | _, .int _ => true
  | _, .str _ => true
  | 0, .list _ => false
  | 0, .tuple _ => false
  | n + 1, .list xs => decide (xs.length ≤ lim) && smlAll n xs
  | n + 1, .tuple xs => decide (xs.length ≤ lim) && smlAll n xs
  | _, .dict _ => false
def smlAll : Nat → List D → Bool
  | _, [] => true
  | n, x :: xs => sml n x && smlAll n xs
end
theorem smlAll_mem {n : Nat} : ∀ {xs : List D}, smlAll n xs = true → ∀ x ∈ xs, sml n x = true
  | y :: ys, h, x, hx => by
    rw [smlAll, Bool.and_eq_true] at h
    rcases List.mem_cons.mp hx with e | e
    · subst e; exact h.1
    · exact smlAll_mem h.2 x e
theorem smlAll_map {α : Type} (n : Nat) (f : α → D) : ∀ (xs : List α), (∀ x ∈ xs, sml n (f x) = true) → smlAll n (xs.map f) = true
  | [], _ => rfl
  | x :: xs, h => by
    rw [List.map_cons, smlAll, h x List.mem_cons_self, Bool.true_and]
    exact smlAll_map n f xs fun y hy => h y (List.mem_cons_of_mem _ hy)
theorem sml_N (n x : Nat) : sml n (N x) = true := by cases n <;> rfl
theorem zip_self : ∀ xs : List D, zipD xs xs = xs.map fun x => .tuple [x, x]
  | [] => rfl
  | x :: xs => by rw [zipD, zip_self xs]; rfl
theorem bools_true {α : Type} : ∀ xs : List α, boolsOf (xs.map fun _ => PyData.bool true) = some (xs.map fun _ => true)
  | [] => rfl
  | x :: xs => by rw [List.map_cons, boolsOf, bools_true xs]; rfl
theorem all_true {α : Type} (xs : List α) : b1Op .all (.list (xs.map fun _ => PyData.bool true)) = some (.d (.bool true)) := by
  show (match boolsOf (xs.map fun _ => PyData.bool true) with
    | some bs => some (Vl.d (.bool (bs.all id)))
    | none => none) = _
  rw [bools_true]
  simp
theorem eqD_bool (a b : Bool) : eqD (.bool a) (.bool b) = some (a == b) := rfl
theorem eqD_int (a b : Int) : eqD (.int a) (.int b) = some (a == b) := rfl
theorem eqD_str (a b : Str) : eqD (.str a) (.str b) = some (a == b) := rfl
theorem equal_self {G : List D} {F : List Fn} {j : Nat} (hF : F[j]? = some (equalFn j)) (p : Nat) : ∀ (n : Nat) (x : D), sml n x = true → callD G F (p + n + 1) j [.d x, .d x] [] = .ok (.d (.bool true)) [] := by
  have key : ∀ (n : Nat) (xs : List D), xs.length ≤ lim → (∀ x ∈ xs, callD G F (p + n + 1) j [.d x, .d x] [] = .ok (.d (.bool true)) []) → ∀ s : D, (s = .list xs ∨ s = .tuple xs) → (sem G (callD G F (p + n + 1)) (equalAll j)).v [some (.d s), some (.d s), none, none] [] = .ok (.own (xs.map fun _ => .bool true)) [some (.d s), some (.d s), none, none] [] := by
    intro n xs hl hx s hs
    refine comp_ok (items := xs.map fun x => .tuple [x, x]) (e0 := [some (.d s), some (.d s), none, none]) (m0 := []) ?_ (e1 := [some (.d s), some (.d s), none, none]) ?_
    · rcases hs with e | e <;> (subst e; simp [startE, Pv.execs, Pv.exec, sem, sems, Sm.mk', Sm.g, Sm.r, Sm.c, Sm.o, getV, takeV, two2, one1, dispV, smG, smV, smA, lentOf, frzAll, frz_d, frz_own, frzArg, bindT, bindTs, dat_d, dat_own, datAll, tOf, Res.of, outcome, compV, itW, wipeE, callV, callPV, callLV, lentRes, celV, arrange, pureRes, callRes, restoreE, noLst, andV, orV, notV, andT, orT, notT, iteV, boolR, ownAt, parB, sliceV, inrV, chainV, cidxV, truth, len_list, len_tuple, tup_list, tup_tuple, lst_list, lst_tuple, toint_b, itemsOf, zip_self])
    · show compL _ _ [] [some (.d s), some (.d s), none, none] [] = _
      rw [compL_tab (h := fun _ => some (.bool true)) (g := fun x : D => .tuple [x, x])]
      · rw [List.nil_append, filterMap_all]
      · intro x hx'
        have := hx x hx'
        simp [startE, Pv.execs, Pv.exec, sem, sems, Sm.mk', Sm.g, Sm.r, Sm.c, Sm.o, getV, takeV, two2, one1, dispV, smG, smV, smA, lentOf, frzAll, frz_d, frz_own, frzArg, bindT, bindTs, dat_d, dat_own, datAll, tOf, Res.of, outcome, compV, itW, wipeE, callV, callPV, callLV, lentRes, celV, arrange, pureRes, callRes, restoreE, noLst, andV, orV, notV, andT, orT, notT, iteV, boolR, ownAt, parB, sliceV, inrV, chainV, cidxV, truth, len_list, len_tuple, tup_list, tup_tuple, lst_list, lst_tuple, toint_b, turnC, this]
      · simpa using hl
  intro n
  induction n with
  | zero =>
    intro x hx
    refine callD_ok hF (Nat.le_of_ble_eq_true rfl) ?_
    cases x with
    | none => simp [startE, Pv.execs, Pv.exec, sem, sems, Sm.mk', Sm.g, Sm.r, Sm.c, Sm.o, getV, takeV, two2, one1, dispV, smG, smV, smA, lentOf, frzAll, frz_d, frz_own, frzArg, bindT, bindTs, dat_d, dat_own, datAll, tOf, Res.of, outcome, compV, itW, wipeE, callV, callPV, callLV, lentRes, celV, arrange, pureRes, callRes, restoreE, noLst, andV, orV, notV, andT, orT, notT, iteV, boolR, ownAt, parB, sliceV, inrV, chainV, cidxV, truth, len_list, len_tuple, tup_list, tup_tuple, lst_list, lst_tuple, toint_b, equalFn, isTy, cmpOp, isOp, isNon, eqD, okD, shp, PyData.eqv]
    | bool b => simp [startE, Pv.execs, Pv.exec, sem, sems, Sm.mk', Sm.g, Sm.r, Sm.c, Sm.o, getV, takeV, two2, one1, dispV, smG, smV, smA, lentOf, frzAll, frz_d, frz_own, frzArg, bindT, bindTs, dat_d, dat_own, datAll, tOf, Res.of, outcome, compV, itW, wipeE, callV, callPV, callLV, lentRes, celV, arrange, pureRes, callRes, restoreE, noLst, andV, orV, notV, andT, orT, notT, iteV, boolR, ownAt, parB, sliceV, inrV, chainV, cidxV, truth, len_list, len_tuple, tup_list, tup_tuple, lst_list, lst_tuple, toint_b, equalFn, isTy, cmpOp, isOp, isNon, eqD_bool]
    | int i => simp [startE, Pv.execs, Pv.exec, sem, sems, Sm.mk', Sm.g, Sm.r, Sm.c, Sm.o, getV, takeV, two2, one1, dispV, smG, smV, smA, lentOf, frzAll, frz_d, frz_own, frzArg, bindT, bindTs, dat_d, dat_own, datAll, tOf, Res.of, outcome, compV, itW, wipeE, callV, callPV, callLV, lentRes, celV, arrange, pureRes, callRes, restoreE, noLst, andV, orV, notV, andT, orT, notT, iteV, boolR, ownAt, parB, sliceV, inrV, chainV, cidxV, truth, len_list, len_tuple, tup_list, tup_tuple, lst_list, lst_tuple, toint_b, equalFn, isTy, cmpOp, isOp, isNon, eqD_bool, eqD_int]
    | str s => simp [startE, Pv.execs, Pv.exec, sem, sems, Sm.mk', Sm.g, Sm.r, Sm.c, Sm.o, getV, takeV, two2, one1, dispV, smG, smV, smA, lentOf, frzAll, frz_d, frz_own, frzArg, bindT, bindTs, dat_d, dat_own, datAll, tOf, Res.of, outcome, compV, itW, wipeE, callV, callPV, callLV, lentRes, celV, arrange, pureRes, callRes, restoreE, noLst, andV, orV, notV, andT, orT, notT, iteV, boolR, ownAt, parB, sliceV, inrV, chainV, cidxV, truth, len_list, len_tuple, tup_list, tup_tuple, lst_list, lst_tuple, toint_b, equalFn, isTy, cmpOp, isOp, isNon, eqD_bool, eqD_str]
    | list xs => cases hx
    | tuple xs => cases hx
    | dict xs => cases hx
  | succ n ih =>
    intro x hx
    refine callD_ok hF (Nat.le_of_ble_eq_true rfl) ?_
    cases x with
    | none => simp [startE, Pv.execs, Pv.exec, sem, sems, Sm.mk', Sm.g, Sm.r, Sm.c, Sm.o, getV, takeV, two2, one1, dispV, smG, smV, smA, lentOf, frzAll, frz_d, frz_own, frzArg, bindT, bindTs, dat_d, dat_own, datAll, tOf, Res.of, outcome, compV, itW, wipeE, callV, callPV, callLV, lentRes, celV, arrange, pureRes, callRes, restoreE, noLst, andV, orV, notV, andT, orT, notT, iteV, boolR, ownAt, parB, sliceV, inrV, chainV, cidxV, truth, len_list, len_tuple, tup_list, tup_tuple, lst_list, lst_tuple, toint_b, equalFn, isTy, cmpOp, isOp, isNon, eqD, okD, shp, PyData.eqv]
    | bool b => simp [startE, Pv.execs, Pv.exec, sem, sems, Sm.mk', Sm.g, Sm.r, Sm.c, Sm.o, getV, takeV, two2, one1, dispV, smG, smV, smA, lentOf, frzAll, frz_d, frz_own, frzArg, bindT, bindTs, dat_d, dat_own, datAll, tOf, Res.of, outcome, compV, itW, wipeE, callV, callPV, callLV, lentRes, celV, arrange, pureRes, callRes, restoreE, noLst, andV, orV, notV, andT, orT, notT, iteV, boolR, ownAt, parB, sliceV, inrV, chainV, cidxV, truth, len_list, len_tuple, tup_list, tup_tuple, lst_list, lst_tuple, toint_b, equalFn, isTy, cmpOp, isOp, isNon, eqD_bool]
    | int i => simp [startE, Pv.execs, Pv.exec, sem, sems, Sm.mk', Sm.g, Sm.r, Sm.c, Sm.o, getV, takeV, two2, one1, dispV, smG, smV, smA, lentOf, frzAll, frz_d, frz_own, frzArg, bindT, bindTs, dat_d, dat_own, datAll, tOf, Res.of, outcome, compV, itW, wipeE, callV, callPV, callLV, lentRes, celV, arrange, pureRes, callRes, restoreE, noLst, andV, orV, notV, andT, orT, notT, iteV, boolR, ownAt, parB, sliceV, inrV, chainV, cidxV, truth, len_list, len_tuple, tup_list, tup_tuple, lst_list, lst_tuple, toint_b, equalFn, isTy, cmpOp, isOp, isNon, eqD_bool, eqD_int]
    | str s => simp [startE, Pv.execs, Pv.exec, sem, sems, Sm.mk', Sm.g, Sm.r, Sm.c, Sm.o, getV, takeV, two2, one1, dispV, smG, smV, smA, lentOf, frzAll, frz_d, frz_own, frzArg, bindT, bindTs, dat_d, dat_own, datAll, tOf, Res.of, outcome, compV, itW, wipeE, callV, callPV, callLV, lentRes, celV, arrange, pureRes, callRes, restoreE, noLst, andV, orV, notV, andT, orT, notT, iteV, boolR, ownAt, parB, sliceV, inrV, chainV, cidxV, truth, len_list, len_tuple, tup_list, tup_tuple, lst_list, lst_tuple, toint_b, equalFn, isTy, cmpOp, isOp, isNon, eqD_bool, eqD_str]
    | list xs =>
      rw [sml, Bool.and_eq_true, decide_eq_true_eq] at hx
      have hk := key n xs hx.1 (fun y hy => ih y (smlAll_mem hx.2 y hy)) (.list xs) (.inl rfl)
      have := all_true xs
      simp [startE, Pv.execs, Pv.exec, sem, sems, Sm.mk', Sm.g, Sm.r, Sm.c, Sm.o, getV, takeV, two2, one1, dispV, smG, smV, smA, lentOf, frzAll, frz_d, frz_own, frzArg, bindT, bindTs, dat_d, dat_own, datAll, tOf, Res.of, outcome, compV, itW, wipeE, callV, callPV, callLV, lentRes, celV, arrange, pureRes, callRes, restoreE, noLst, andV, orV, notV, andT, orT, notT, iteV, boolR, ownAt, parB, sliceV, inrV, chainV, cidxV, truth, len_list, len_tuple, tup_list, tup_tuple, lst_list, lst_tuple, toint_b, equalFn, isTy, cmpOp, eqD_bool, eqD_int]
      rw [show p + (n + 1) = p + n + 1 by omega, hk]
      simp [startE, Pv.execs, Pv.exec, sem, sems, Sm.mk', Sm.g, Sm.r, Sm.c, Sm.o, getV, takeV, two2, one1, dispV, smG, smV, smA, lentOf, frzAll, frz_d, frz_own, frzArg, bindT, bindTs, dat_d, dat_own, datAll, tOf, Res.of, outcome, compV, itW, wipeE, callV, callPV, callLV, lentRes, celV, arrange, pureRes, callRes, restoreE, noLst, andV, orV, notV, andT, orT, notT, iteV, boolR, ownAt, parB, sliceV, inrV, chainV, cidxV, truth, len_list, len_tuple, tup_list, tup_tuple, lst_list, lst_tuple, toint_b, this]
    | tuple xs =>
      rw [sml, Bool.and_eq_true, decide_eq_true_eq] at hx
      have hk := key n xs hx.1 (fun y hy => ih y (smlAll_mem hx.2 y hy)) (.tuple xs) (.inr rfl)
      have := all_true xs
      simp [startE, Pv.execs, Pv.exec, sem, sems, Sm.mk', Sm.g, Sm.r, Sm.c, Sm.o, getV, takeV, two2, one1, dispV, smG, smV, smA, lentOf, frzAll, frz_d, frz_own, frzArg, bindT, bindTs, dat_d, dat_own, datAll, tOf, Res.of, outcome, compV, itW, wipeE, callV, callPV, callLV, lentRes, celV, arrange, pureRes, callRes, restoreE, noLst, andV, orV, notV, andT, orT, notT, iteV, boolR, ownAt, parB, sliceV, inrV, chainV, cidxV, truth, len_list, len_tuple, tup_list, tup_tuple, lst_list, lst_tuple, toint_b, equalFn, isTy, cmpOp, eqD_bool, eqD_int]
      rw [show p + (n + 1) = p + n + 1 by omega, hk]
      simp [startE, Pv.execs, Pv.exec, sem, sems, Sm.mk', Sm.g, Sm.r, Sm.c, Sm.o, getV, takeV, two2, one1, dispV, smG, smV, smA, lentOf, frzAll, frz_d, frz_own, frzArg, bindT, bindTs, dat_d, dat_own, datAll, tOf, Res.of, outcome, compV, itW, wipeE, callV, callPV, callLV, lentRes, celV, arrange, pureRes, callRes, restoreE, noLst, andV, orV, notV, andT, orT, notT, iteV, boolR, ownAt, parB, sliceV, inrV, chainV, cidxV, truth, len_list, len_tuple, tup_list, tup_tuple, lst_list, lst_tuple, toint_b, this]
    | dict xs => cases hx
end Pv

/-! PvG: the laws' own blocks. -/
namespace Pv
open PySem

/-! ### the closure by passes -/
def addIf (r : Nat → List Nat) (lot : List Nat) (y : Nat) : List Nat := if y ∈ lot then lot else if lot.any (fun z => decide (J r y z)) then lot ++ [y] else lot
def passB (r : Nat → List Nat) (bs lot : List Nat) : List Nat := bs.foldl (addIf r) lot
def iterB (r : Nat → List Nat) (bs : List Nat) : Nat → List Nat → List Nat
  | 0, l => l
  | k + 1, l => passB r bs (iterB r bs k l)
theorem addIf_or (r : Nat → List Nat) (lot : List Nat) (y : Nat) : addIf r lot y = lot ∧ (y ∈ lot ∨ ¬ ∃ z ∈ lot, J r y z) ∨ addIf r lot y = lot ++ [y] ∧ y ∉ lot ∧ ∃ z ∈ lot, J r y z := by
  unfold addIf
  by_cases h : y ∈ lot
  · exact .inl ⟨by simp [h], .inl h⟩
  · by_cases h2 : ∃ z ∈ lot, J r y z
    · refine .inr ⟨?_, h, h2⟩
      rw [if_neg h, if_pos]
      obtain ⟨z, h3, h4⟩ := h2
      exact List.any_eq_true.mpr ⟨z, h3, decide_eq_true h4⟩
    · refine .inl ⟨?_, .inr h2⟩
      rw [if_neg h, if_neg]
      intro h3
      obtain ⟨z, h4, h5⟩ := List.any_eq_true.mp h3
      exact h2 ⟨z, h4, of_decide_eq_true h5⟩
structure Lot (r : Nat → List Nat) (bs : List Nat) (a : Nat) (l : List Nat) : Prop where
  nd : l.Nodup
  me : a ∈ l
  cn : ∀ x ∈ l, x ∈ bs ∧ Cn' r bs a x
theorem Lot.add {r : Nat → List Nat} {bs : List Nat} {a : Nat} {l : List Nat} (h : Lot r bs a l) {y : Nat} (hy : y ∈ bs) : Lot r bs a (addIf r l y) := by
  rcases addIf_or r l y with ⟨e, _⟩ | ⟨e, h1, z, h2, h3⟩
  · rw [e]; exact h
  · rw [e]
    refine ⟨?_, List.mem_append_left _ h.me, ?_⟩
    · rw [List.nodup_append]
      refine ⟨h.nd, by simp, ?_⟩
      intro p hp q hq e
      rw [List.mem_singleton.mp hq] at e
      subst e
      exact h1 hp
    · intro x hx
      rcases List.mem_append.mp hx with hx | hx
      · exact h.cn x hx
      · rw [List.mem_singleton.mp hx]
        exact ⟨hy, .step (h.cn z h2).2 hy h3.symm⟩
theorem Lot.fold {r : Nat → List Nat} {bs : List Nat} {a : Nat} : ∀ (ys : List Nat) {l : List Nat}, Lot r bs a l → (∀ y ∈ ys, y ∈ bs) → Lot r bs a (ys.foldl (addIf r) l)
  | [], _, h, _ => h
  | y :: ys, _, h, hy => Lot.fold ys (h.add (hy y List.mem_cons_self)) fun z hz => hy z (List.mem_cons_of_mem _ hz)
theorem addIf_le (r : Nat → List Nat) (l : List Nat) (y : Nat) : l.length ≤ (addIf r l y).length := by
  rcases addIf_or r l y with ⟨e, _⟩ | ⟨e, _⟩ <;> (rw [e]; simp)
theorem fold_le (r : Nat → List Nat) : ∀ (ys l : List Nat), l.length ≤ (ys.foldl (addIf r) l).length
  | [], _ => Nat.le_refl _
  | y :: ys, l => Nat.le_trans (addIf_le r l y) (fold_le r ys _)
theorem fold_same (r : Nat → List Nat) : ∀ (ys l : List Nat), (ys.foldl (addIf r) l).length = l.length → ∀ y ∈ ys, y ∈ l ∨ ¬ ∃ z ∈ l, J r y z
  | [], _, _, y, hy => by cases hy
  | x :: ys, l, h, y, hy => by
    rw [List.foldl_cons] at h
    rcases addIf_or r l x with ⟨e, h1⟩ | ⟨e, _⟩
    · rw [e] at h
      rcases List.mem_cons.mp hy with e' | e'
      · subst e'; exact h1
      · exact fold_same r ys l h y e'
    · have := fold_le r ys (addIf r l x)
      rw [h, e, List.length_append, List.length_singleton] at this
      omega
theorem fold_closed (r : Nat → List Nat) : ∀ (ys l : List Nat), (∀ y ∈ ys, y ∈ l ∨ ¬ ∃ z ∈ l, J r y z) → ys.foldl (addIf r) l = l
  | [], _, _ => rfl
  | x :: ys, l, h => by
    rw [List.foldl_cons]
    have h0 := h x List.mem_cons_self
    rcases addIf_or r l x with ⟨e, _⟩ | ⟨e, h1, h2⟩
    · rw [e]; exact fold_closed r ys l fun y hy => h y (List.mem_cons_of_mem _ hy)
    · rcases h0 with h0 | h0
      · exact absurd h0 h1
      · exact absurd h2 h0
theorem iter_lot {r : Nat → List Nat} {bs : List Nat} {a : Nat} (ha : a ∈ bs) : ∀ k, Lot r bs a (iterB r bs k [a])
  | 0 => ⟨by simp [iterB], by simp [iterB], fun x hx => by rw [List.mem_singleton.mp hx]; exact ⟨ha, .refl⟩⟩
  | k + 1 => (iter_lot ha k).fold bs fun _ h => h
theorem iter_grow {r : Nat → List Nat} {bs : List Nat} (a : Nat) : ∀ k, k + 1 ≤ (iterB r bs k [a]).length ∨ ∀ y ∈ bs, y ∈ iterB r bs k [a] ∨ ¬ ∃ z ∈ iterB r bs k [a], J r y z
  | 0 => .inl (Nat.le_refl 1)
  | k + 1 => by
    rcases iter_grow (r := r) (bs := bs) a k with h | h
    · by_cases e : (passB r bs (iterB r bs k [a])).length = (iterB r bs k [a]).length
      · have h1 := fold_same r bs _ e
        have h2 : iterB r bs (k + 1) [a] = iterB r bs k [a] := fold_closed r bs _ h1
        rw [h2]
        exact .inr h1
      · refine .inl ?_
        have := fold_le r bs (iterB r bs k [a])
        show k + 1 + 1 ≤ (passB r bs (iterB r bs k [a])).length
        unfold passB at *
        omega
    · have h2 : iterB r bs (k + 1) [a] = iterB r bs k [a] := fold_closed r bs _ h
      rw [h2]
      exact .inr h
theorem iter_all {r : Nat → List Nat} {bs : List Nat} {a : Nat} (ha : a ∈ bs) {n : Nat} (hn : bs.length ≤ n) (y : Nat) : y ∈ iterB r bs n [a] ↔ Cn' r bs a y := by
  have hL := iter_lot (r := r) ha n
  constructor
  · exact fun h => (hL.cn y h).2
  · have hle : (iterB r bs n [a]).length ≤ bs.length := hL.nd.length_le_of_subset fun x hx => (hL.cn x hx).1
    rcases iter_grow (r := r) (bs := bs) a n with h | h
    · omega
    · intro hy
      induction hy with
      | refl => exact hL.me
      | step h1 h2 h3 ih =>
        rcases h _ h2 with h4 | h4
        · exact h4
        · exact absurd ⟨_, ih, h3.symm⟩ h4

/-! ### the program's block -/
def lookFn (s : S) : Fn := ⟨2, [.ite (.not (.chain .lt .lt (.int 0) (.var 1) (.var 0))) [s] []]⟩
theorem look_spec {G : List D} {F : List Fn} {i : Nat} {s : S} (hF : F[i]? = some (lookFn s)) (p : Nat) (m : Cels) {n w : Nat} (h0 : 0 < w) (h1 : w < n) :
    callD G F (p + 1) i [.d (N n), .d (N w)] m = .ok (.d .none) m := by
  refine callD_ok hF (Nat.le_of_ble_eq_true rfl) ?_
  have e1 : cmpOp .lt (.int 0) (.int (w : Int)) = some true := by
    show some (decide ((0 : Int) < (w : Int))) = _
    rw [decide_eq_true (by omega)]
  have e2 : cmpOp .lt (.int (w : Int)) (.int (n : Int)) = some true := by
    show some (decide ((w : Int) < (n : Int))) = _
    rw [decide_eq_true (by omega)]
  simp [startE, Pv.execs, Pv.exec, sem, sems, Sm.mk', Sm.g, Sm.r, Sm.c, Sm.o, getV, takeV, two2, one1, dispV, smG, smV, smA, lentOf, frzAll, frz_d, frz_own, frzArg, bindT, bindTs, dat_d, dat_own, datAll, tOf, Res.of, outcome, compV, itW, wipeE, callV, callPV, callLV, lentRes, celV, arrange, pureRes, callRes, restoreE, noLst, andV, orV, notV, andT, orT, notT, iteV, boolR, ownAt, parB, sliceV, inrV, chainV, cidxV, truth, len_list, len_tuple, tup_list, tup_tuple, lst_list, lst_tuple, toint_b, lookFn, e1, e2]
def blockFn (l b : Nat) : Fn := ⟨4, [
  .expr (.callP l [.b1 .len (.var 0), .var 2] [.inl 0, .inl 1]),
  .ret (.ix (.callP b [.var 0, .var 1, .var 3] [.inl 0, .inl 1, .inl 2]) (.var 2))]⟩
theorem block_spec {G : List D} {F : List Fn} {f l i c j : Nat} {s : S} (hB : F[f]? = some (blockFn l i)) (hL : F[l]? = some (lookFn s)) (hF : F[i]? = some (blocksFn c)) (hC : F[c]? = some (compFn j)) (hJ : F[j]? = some joinedFn) (p : Nat) (m : Cels)
    {n : Nat} {R : Nat → List Nat} {ch : Nat → Nat} {P : List Nat} {ld cd pd : D} (hl : Rows ld n R) (hc : IsChart cd n ch) (hp : seqOf pd = some (P.map N)) (g : Good n R) (c' : Chart n R ch) (hn : n ≤ 1000) {w : Nat} (h0 : 0 < w) (h1 : w < n) :
    callD G F (p + 4) f [.d ld, .d cd, .d (N w), .d pd] m = .ok (.d (T (blk R ch P w))) m := by
  refine callD_ok hB (Nat.le_of_ble_eq_true rfl) ?_
  have e1 := look_spec (G := G) hL (p + 2) [] h0 h1
  have e2 := blocks_spec (G := G) hF hC hJ p [] hl hc hp g c' hn
  have e3 := hl.len
  have e4 : ixD (rowsD n (blk R ch P)) (.int (w : Int)) = some (.d (T (blk R ch P w))) := ixD_tab (g := fun i => T (blk R ch P i)) rfl h1
  simp [startE, Pv.execs, Pv.exec, sem, sems, Sm.mk', Sm.g, Sm.r, Sm.c, Sm.o, getV, takeV, two2, one1, dispV, smG, smV, smA, lentOf, frzAll, frz_d, frz_own, frzArg, bindT, bindTs, dat_d, dat_own, datAll, tOf, Res.of, outcome, compV, itW, wipeE, callV, callPV, callLV, lentRes, celV, arrange, pureRes, callRes, restoreE, noLst, andV, orV, notV, andT, orT, notT, iteV, boolR, ownAt, parB, sliceV, inrV, chainV, cidxV, truth, len_list, len_tuple, tup_list, tup_tuple, lst_list, lst_tuple, toint_b, blockFn, e1, e2, e3, e4]

/-! ### the laws' blocks -/
def lbJoin : X := .comp (.v 9) [9] .seq [.var 5] (.cmp .isin (.b2 .min2 (.var 7) (.var 9)) (.ix (.var 3) (.b2 .max2 (.var 7) (.var 9)))) (.var 9)
def lbIn : List S := [.asg (.v 8) lbJoin, .asg (.v 5) (.op .add (.var 5) (.op .mul (.lst [.var 7]) (.b1 .toint (.and (.cmp .notin (.var 7) (.var 5)) (.cmp .ne (.var 8) (.lst []))))))]
def lbFor3 : S := .for (.v 7) .seq [.ix (.var 0) (.var 4)] lbIn
def lbFor2 : S := .for (.v 6) .rng1 [.op .mul (.b1 .len (.var 0)) (.b1 .toint (.cmp .notin (.var 4) (.var 2)))] [lbFor3]
def lbBody : List S := [.asg (.v 5) (.lst [.ix (.var 1) (.var 4)]), lbFor2, .app 3 (.b1 .totuple (.b1 .sorted (.var 5)))]
def lbFor1 : S := .for (.v 4) .rng2 [.int 1, .b1 .len (.var 0)] lbBody
def lbFn : Fn := ⟨10, [
  .asg (.v 3) (.lst [.tup []]),
  lbFor1,
  .ret (.b1 .totuple (.var 3))]⟩

/-- a row's number, out of the items of a range from 1 -/
theorem item1 {k n : Nat} {x : D} (h : ((List.range n).map fun i => N (1 + i))[k]? = some x) : k < n ∧ x = N (k + 1) := by
  have hk : k < n := by simpa using (List.getElem?_eq_some_iff.mp h).1
  rw [List.getElem?_map, List.getElem?_range hk] at h
  cases h
  exact ⟨hk, by rw [Nat.add_comm]⟩
theorem itemM {α : Type} {k : Nat} {f : α → D} {xs : List α} {x : D} (h : (xs.map f)[k]? = some x) : ∃ a, xs[k]? = some a ∧ x = f a := by
  rw [List.getElem?_map] at h
  cases ha : xs[k]? with
  | none => rw [ha] at h; cases h
  | some a => rw [ha] at h; cases h; exact ⟨a, rfl, rfl⟩
theorem fold_take {α β : Type} (f : β → α → β) (b : β) (xs : List α) {k : Nat} {a : α} (h : xs[k]? = some a) : (xs.take (k + 1)).foldl f b = f ((xs.take k).foldl f b) a := by
  rw [List.take_succ, h, List.foldl_append]
  rfl
theorem any_filter {α : Type} (p : α → Bool) : ∀ l : List α, l.any p = !decide (l.filter p = [])
  | [] => rfl
  | x :: l => by
    rw [List.any_cons, List.filter_cons, any_filter p l]
    cases hp : p x <;> simp
theorem lb_in {G : List D} {call : Nat → List Vl → Cels → FRes} (m : Cels) {d0 d1 d2 fd : D} {w : Nat} {r : Nat → List Nat} (hf : Rows fd w r) (F : Vl) (hF : dat m F = some fd) {lot : List Nat} (hl : lot.length ≤ 1000) (hw : ∀ x ∈ lot, x < w) {y : Nat} (hy : y < w) (x4 x6 x8 x9 : Option Vl) :
    ∃ x8', Pv.execs G call lbIn [some (.d d0), some (.d d1), some (.d d2), some F, x4, some (.own (lot.map N)), x6, some (.d (N y)), x8, x9] m = .ok .nx [some (.d d0), some (.d d1), some (.d d2), some F, x4, some (.own ((addIf r lot y).map N)), x6, some (.d (N y)), x8', x9] m := by
  have hj : (sem G call lbJoin).v [some (.d d0), some (.d d1), some (.d d2), some F, x4, some (.own (lot.map N)), x6, some (.d (N y)), x8, x9] m = .ok (.own ((lot.filter fun z => decide (J r y z)).map N)) [some (.d d0), some (.d d1), some (.d d2), some F, x4, some (.own (lot.map N)), x6, some (.d (N y)), x8, x9] m := by
    refine comp_ok (items := lot.map N) (e0 := [some (.d d0), some (.d d1), some (.d d2), some F, x4, some (.own (lot.map N)), x6, some (.d (N y)), x8, x9]) (m0 := m) ?_ (e1 := [some (.d d0), some (.d d1), some (.d d2), some F, x4, some (.own (lot.map N)), x6, some (.d (N y)), x8, none]) ?_
    · simp [startE, Pv.execs, Pv.exec, sem, sems, Sm.mk', Sm.g, Sm.r, Sm.c, Sm.o, getV, takeV, two2, one1, dispV, smG, smV, smA, lentOf, frzAll, frz_d, frz_own, frzArg, bindT, bindTs, dat_d, dat_own, datAll, tOf, Res.of, outcome, compV, itW, wipeE, callV, callPV, callLV, lentRes, celV, arrange, pureRes, callRes, restoreE, noLst, andV, orV, notV, andT, orT, notT, iteV, boolR, ownAt, parB, sliceV, inrV, chainV, cidxV, truth, len_list, len_tuple, tup_list, tup_tuple, lst_list, lst_tuple, toint_b, itemsOf, seqOf]
    · show compL _ _ [] [some (.d d0), some (.d d1), some (.d d2), some F, x4, some (.own (lot.map N)), x6, some (.d (N y)), x8, none] m = _
      rw [compL_tab (h := fun z => if decide (J r y z) then some (N z) else none)]
      · rw [filterMap_if]
        rfl
      · intro z hz
        obtain ⟨xd, h1, h2⟩ := hf.ix (i := max y z) (by have := hw z hz; omega)
        have h3 := inOp_N h2 (min y z)
        by_cases hb : J r y z
        · have h3 : inOp (.int ((min y z : Nat) : Int)) xd = some true := by rw [h3]; exact congrArg some (decide_eq_true hb)
          simp [startE, Pv.execs, Pv.exec, sem, sems, Sm.mk', Sm.g, Sm.r, Sm.c, Sm.o, getV, takeV, two2, one1, dispV, smG, smV, smA, lentOf, frzAll, frz_d, frz_own, frzArg, bindT, bindTs, dat_d, dat_own, datAll, tOf, Res.of, outcome, compV, itW, wipeE, callV, callPV, callLV, lentRes, celV, arrange, pureRes, callRes, restoreE, noLst, andV, orV, notV, andT, orT, notT, iteV, boolR, ownAt, parB, sliceV, inrV, chainV, cidxV, truth, len_list, len_tuple, tup_list, tup_tuple, lst_list, lst_tuple, toint_b, turnC, hF, cmpOp, max_N, min_N, h1, h3, hb]
        · have h3 : inOp (.int ((min y z : Nat) : Int)) xd = some false := by rw [h3]; exact congrArg some (decide_eq_false hb)
          simp [startE, Pv.execs, Pv.exec, sem, sems, Sm.mk', Sm.g, Sm.r, Sm.c, Sm.o, getV, takeV, two2, one1, dispV, smG, smV, smA, lentOf, frzAll, frz_d, frz_own, frzArg, bindT, bindTs, dat_d, dat_own, datAll, tOf, Res.of, outcome, compV, itW, wipeE, callV, callPV, callLV, lentRes, celV, arrange, pureRes, callRes, restoreE, noLst, andV, orV, notV, andT, orT, notT, iteV, boolR, ownAt, parB, sliceV, inrV, chainV, cidxV, truth, len_list, len_tuple, tup_list, tup_tuple, lst_list, lst_tuple, toint_b, turnC, hF, cmpOp, max_N, min_N, h1, h3, hb]
      · simp [lim]; omega
  have hin : inOp (.int (y : Int)) (.list (lot.map N)) = some (decide (y ∈ lot)) := inOp_N rfl y
  have hvar : (sem G call lbJoin).var = none := rfl
  have hnil := eqD_nil (lot.filter fun z => decide (J r y z))
  have hany := any_filter (fun z => decide (J r y z)) lot
  have ht : binOp .mul (.list [.int (y : Int)]) (.int 1) = some (.own [.int (y : Int)]) := by
    simp [binOp, lim]
  have hfl : binOp .mul (.list [.int (y : Int)]) (.int 0) = some (.own []) := by
    simp [binOp, lim]
  have a0 : binOp .add (.list (lot.map N)) (.list []) = some (.own (lot.map N)) := by
    show (if _ then _ else _) = _
    rw [if_pos (by simp [lim]; omega)]
    simp
  have a1 : binOp .add (.list (lot.map N)) (.list [.int (y : Int)]) = some (.own (lot.map N ++ [N y])) := by
    show (if _ then _ else _) = _
    rw [if_pos (by simp [lim]; omega)]
  by_cases h1 : y ∈ lot
  · have : addIf r lot y = lot := by simp [addIf, h1]
    refine ⟨some (.own ((lot.filter fun z => decide (J r y z)).map N)), ?_⟩
    rw [this]
    simp [startE, Pv.execs, Pv.exec, sem, sems, Sm.mk', Sm.g, Sm.r, Sm.c, Sm.o, getV, takeV, two2, one1, dispV, smG, smV, smA, lentOf, frzAll, frz_d, frz_own, frzArg, bindT, bindTs, dat_d, dat_own, datAll, tOf, Res.of, outcome, compV, itW, wipeE, callV, callPV, callLV, lentRes, celV, arrange, pureRes, callRes, restoreE, noLst, andV, orV, notV, andT, orT, notT, iteV, boolR, ownAt, parB, sliceV, inrV, chainV, cidxV, truth, len_list, len_tuple, tup_list, tup_tuple, lst_list, lst_tuple, toint_b, lbIn, hj, hvar, cmpOp, hin, h1, hfl, a0, lim]
  · by_cases h2 : (lot.filter fun z => decide (J r y z)) = []
    · have : addIf r lot y = lot := by
        unfold addIf
        rw [if_neg h1, if_neg]
        rw [hany, h2]
        simp
      rw [h2] at hj
      refine ⟨some (.own []), ?_⟩
      rw [this]
      have hne0 : eqD (.list []) (.list []) = some true := rfl
      simp [startE, Pv.execs, Pv.exec, sem, sems, Sm.mk', Sm.g, Sm.r, Sm.c, Sm.o, getV, takeV, two2, one1, dispV, smG, smV, smA, lentOf, frzAll, frz_d, frz_own, frzArg, bindT, bindTs, dat_d, dat_own, datAll, tOf, Res.of, outcome, compV, itW, wipeE, callV, callPV, callLV, lentRes, celV, arrange, pureRes, callRes, restoreE, noLst, andV, orV, notV, andT, orT, notT, iteV, boolR, ownAt, parB, sliceV, inrV, chainV, cidxV, truth, len_list, len_tuple, tup_list, tup_tuple, lst_list, lst_tuple, toint_b, lbIn, hj, hvar, cmpOp, hin, h1, hne0, hfl, a0, lim]
    · have : addIf r lot y = lot ++ [y] := by
        unfold addIf
        rw [if_neg h1, if_pos]
        rw [hany, decide_eq_false h2]
        rfl
      refine ⟨some (.own ((lot.filter fun z => decide (J r y z)).map N)), ?_⟩
      rw [decide_eq_false h2] at hnil
      rw [this]
      simp [startE, Pv.execs, Pv.exec, sem, sems, Sm.mk', Sm.g, Sm.r, Sm.c, Sm.o, getV, takeV, two2, one1, dispV, smG, smV, smA, lentOf, frzAll, frz_d, frz_own, frzArg, bindT, bindTs, dat_d, dat_own, datAll, tOf, Res.of, outcome, compV, itW, wipeE, callV, callPV, callLV, lentRes, celV, arrange, pureRes, callRes, restoreE, noLst, andV, orV, notV, andT, orT, notT, iteV, boolR, ownAt, parB, sliceV, inrV, chainV, cidxV, truth, len_list, len_tuple, tup_list, tup_tuple, lst_list, lst_tuple, toint_b, lbIn, hj, hvar, cmpOp, hin, h1, hnil, ht, a1, lim]
theorem lb_spec {G : List D} {F : List Fn} {f : Nat} (hF : F[f]? = some lbFn) (p : Nat) (m : Cels)
    {n : Nat} {R : Nat → List Nat} {ch : Nat → Nat} {P : List Nat} {ld cd pd : D} (hl : Rows ld n R) (hc : IsChart cd n ch) (hp : seqOf pd = some (P.map N)) (g : Good n R) (c' : Chart n R ch) (hn : n ≤ 500) :
    callD G F (p + 1) f [.d ld, .d cd, .d pd] m = .ok (.d (rowsD n (blk R ch P))) m := by
  have hlen := hl.len
  have hw := for_ok (G := G) (call := callD G F p) (t := .v 4) (k := .rng2) (as := [.int 1, .b1 .len (.var 0)]) (body := lbBody)
    (fun k e m' => m' = m ∧ ∃ x4 x5 x6 x7 x8, e = [some (.d ld), some (.d cd), some (.d pd), some (.own (tab (k + 1) fun i => T (blk R ch P i))), x4, x5, x6, x7, x8, none])
    (e := [some (.d ld), some (.d cd), some (.d pd), some (.own (tab 1 fun i => T (blk R ch P i))), none, none, none, none, none, none]) (e0 := [some (.d ld), some (.d cd), some (.d pd), some (.own (tab 1 fun i => T (blk R ch P i))), none, none, none, none, none, none]) (m := m) (m0 := m) (items := (List.range (n - 1)).map fun i => N (1 + i)) ?hi ?h0 ?hs
  case hi => simp [startE, Pv.execs, Pv.exec, sem, sems, Sm.mk', Sm.g, Sm.r, Sm.c, Sm.o, getV, takeV, two2, one1, dispV, smG, smV, smA, lentOf, frzAll, frz_d, frz_own, frzArg, bindT, bindTs, dat_d, dat_own, datAll, tOf, Res.of, outcome, compV, itW, wipeE, callV, callPV, callLV, lentRes, celV, arrange, pureRes, callRes, restoreE, noLst, andV, orV, notV, andT, orT, notT, iteV, boolR, ownAt, parB, sliceV, inrV, chainV, cidxV, truth, len_list, len_tuple, tup_list, tup_tuple, lst_list, lst_tuple, toint_b, hlen, rng2_1 (show n ≤ 1000000 by omega)]
  case h0 => exact ⟨rfl, none, none, none, none, none, rfl⟩
  case hs =>
    rintro k x e m' hx ⟨rfl, x4, x5, x6, x7, x8, rfl⟩
    obtain ⟨hk, rfl⟩ := item1 hx
    refine ⟨_, rfl, ?_⟩
    have hci := hc.ix (i := k + 1) (by omega) (by omega)
    have hin := inOp_N hp (k + 1)
    obtain ⟨rd, hri, hrs⟩ := hl.ix (i := k + 1) (by omega)
    have hcm := c' (k + 1) (by omega) (by omega)
    have hlt := g.lt (k + 1) (by omega)
    have hrl : (R (k + 1)).length ≤ n := by
      have := (g.asc (k + 1) (by omega)).nodup.length_le_of_subset (l₂ := List.range (k + 1)) fun y hy => List.mem_range.mpr (hlt y hy)
      rw [List.length_range] at this
      omega
    have hrows : Rows (.list (tab (k + 1) fun i => T (blk R ch P i))) (k + 1) (blk R ch P) := ⟨⟨_, rfl, fun _ _ => rfl⟩⟩
    have hmid := for_ok (G := G) (call := callD G F p) (t := .v 6) (k := .rng1) (as := [.op .mul (.b1 .len (.var 0)) (.b1 .toint (.cmp .notin (.var 4) (.var 2)))]) (body := [lbFor3])
      (fun q e m => m = m' ∧ ∃ x6 x7 x8, e = [some (.d ld), some (.d cd), some (.d pd), some (.own (tab (k + 1) fun i => T (blk R ch P i))), some (.d (N (k + 1))), some (.own ((iterB (blk R ch P) (R (k + 1)) q [ch (k + 1)]).map N)), x6, x7, x8, none])
      (e := [some (.d ld), some (.d cd), some (.d pd), some (.own (tab (k + 1) fun i => T (blk R ch P i))), some (.d (N (k + 1))), some (.own ([ch (k + 1)].map N)), x6, x7, x8, none]) (e0 := [some (.d ld), some (.d cd), some (.d pd), some (.own (tab (k + 1) fun i => T (blk R ch P i))), some (.d (N (k + 1))), some (.own ([ch (k + 1)].map N)), x6, x7, x8, none]) (m := m') (m0 := m') (items := (List.range (if k + 1 ∈ P then 0 else n)).map N) ?hi2 ⟨rfl, x6, x7, x8, rfl⟩ ?hs2
    case hi2 =>
      have h0 : itemsOf .rng1 [.int 0] = some [] := rfl
      have hn' := rng1_N (show n ≤ 1000000 by omega)
      by_cases hpin : k + 1 ∈ P
      · have hm : binOp .mul (.int (n : Int)) (.int 0) = some (.d (.int 0)) := by simp [binOp, Pv.intOp]
        simp [startE, Pv.execs, Pv.exec, sem, sems, Sm.mk', Sm.g, Sm.r, Sm.c, Sm.o, getV, takeV, two2, one1, dispV, smG, smV, smA, lentOf, frzAll, frz_d, frz_own, frzArg, bindT, bindTs, dat_d, dat_own, datAll, tOf, Res.of, outcome, compV, itW, wipeE, callV, callPV, callLV, lentRes, celV, arrange, pureRes, callRes, restoreE, noLst, andV, orV, notV, andT, orT, notT, iteV, boolR, ownAt, parB, sliceV, inrV, chainV, cidxV, truth, len_list, len_tuple, tup_list, tup_tuple, lst_list, lst_tuple, toint_b, hlen, cmpOp, hin, hpin, hm, h0]
      · have hm : binOp .mul (.int (n : Int)) (.int 1) = some (.d (.int n)) := by simp [binOp, Pv.intOp]
        simp [startE, Pv.execs, Pv.exec, sem, sems, Sm.mk', Sm.g, Sm.r, Sm.c, Sm.o, getV, takeV, two2, one1, dispV, smG, smV, smA, lentOf, frzAll, frz_d, frz_own, frzArg, bindT, bindTs, dat_d, dat_own, datAll, tOf, Res.of, outcome, compV, itW, wipeE, callV, callPV, callLV, lentRes, celV, arrange, pureRes, callRes, restoreE, noLst, andV, orV, notV, andT, orT, notT, iteV, boolR, ownAt, parB, sliceV, inrV, chainV, cidxV, truth, len_list, len_tuple, tup_list, tup_tuple, lst_list, lst_tuple, toint_b, hlen, cmpOp, hin, hpin, hm, hn']
    case hs2 =>
      rintro q x e m hx ⟨rfl, x6, x7, x8, rfl⟩
      refine ⟨_, rfl, ?_⟩
      have hbase := iter_lot (r := blk R ch P) hcm q
      have hin3 := for_ok (G := G) (call := callD G F p) (t := .v 7) (k := .seq) (as := [.ix (.var 0) (.var 4)]) (body := lbIn)
        (fun j e m' => m' = m ∧ ∃ x7 x8, e = [some (.d ld), some (.d cd), some (.d pd), some (.own (tab (k + 1) fun i => T (blk R ch P i))), some (.d (N (k + 1))), some (.own ((((R (k + 1)).take j).foldl (addIf (blk R ch P)) (iterB (blk R ch P) (R (k + 1)) q [ch (k + 1)])).map N)), some (.d x), x7, x8, none])
        (e := [some (.d ld), some (.d cd), some (.d pd), some (.own (tab (k + 1) fun i => T (blk R ch P i))), some (.d (N (k + 1))), some (.own ((iterB (blk R ch P) (R (k + 1)) q [ch (k + 1)]).map N)), some (.d x), x7, x8, none]) (e0 := [some (.d ld), some (.d cd), some (.d pd), some (.own (tab (k + 1) fun i => T (blk R ch P i))), some (.d (N (k + 1))), some (.own ((iterB (blk R ch P) (R (k + 1)) q [ch (k + 1)]).map N)), some (.d x), x7, x8, none]) (m := m) (m0 := m) (items := (R (k + 1)).map N) ?hi3 ⟨rfl, x7, x8, rfl⟩ ?hs3
      case hi3 =>
        have : itemsOf .seq [rd] = some ((R (k + 1)).map N) := hrs
        simp [startE, Pv.execs, Pv.exec, sem, sems, Sm.mk', Sm.g, Sm.r, Sm.c, Sm.o, getV, takeV, two2, one1, dispV, smG, smV, smA, lentOf, frzAll, frz_d, frz_own, frzArg, bindT, bindTs, dat_d, dat_own, datAll, tOf, Res.of, outcome, compV, itW, wipeE, callV, callPV, callLV, lentRes, celV, arrange, pureRes, callRes, restoreE, noLst, andV, orV, notV, andT, orT, notT, iteV, boolR, ownAt, parB, sliceV, inrV, chainV, cidxV, truth, len_list, len_tuple, tup_list, tup_tuple, lst_list, lst_tuple, toint_b, hri, this]
      case hs3 =>
        rintro j yd e m' hyd ⟨rfl, x7, x8, rfl⟩
        obtain ⟨y, hy, rfl⟩ := itemM hyd
        have hym := List.mem_of_getElem? hy
        have hL := hbase.fold ((R (k + 1)).take j) fun z hz => List.mem_of_mem_take hz
        refine ⟨_, rfl, ?_⟩
        obtain ⟨x8', h⟩ := lb_in (G := G) (call := callD G F p) m' (d0 := ld) (d1 := cd) (d2 := pd) hrows (.own (tab (k + 1) fun i => T (blk R ch P i))) rfl (lot := ((R (k + 1)).take j).foldl (addIf (blk R ch P)) (iterB (blk R ch P) (R (k + 1)) q [ch (k + 1)])) (by
          have := hL.nd.length_le_of_subset fun z hz => (hL.cn z hz).1
          omega) (fun z hz => hlt z (hL.cn z hz).1) (hlt y hym) (some (.d (N (k + 1)))) (some (.d x)) x8 none
        refine ⟨_, _, .inl h, rfl, some (.d (N y)), x8', ?_⟩
        rw [fold_take _ _ _ hy]
      obtain ⟨e3, m3, h3, rfl, y7, y8, rfl⟩ := hin3
      have h3' : Pv.exec G (callD G F p) lbFor3 [some (.d ld), some (.d cd), some (.d pd), some (.own (tab (k + 1) fun i => T (blk R ch P i))), some (.d (N (k + 1))), some (.own ((iterB (blk R ch P) (R (k + 1)) q [ch (k + 1)]).map N)), some (.d x), x7, x8, none] m3 = _ := h3
      refine ⟨_, m3, .inl ?_, rfl, some (.d x), y7, y8, rfl⟩
      rw [List.length_map, List.take_length] at h3'
      show (Pv.exec G (callD G F p) lbFor3 [some (.d ld), some (.d cd), some (.d pd), some (.own (tab (k + 1) fun i => T (blk R ch P i))), some (.d (N (k + 1))), some (.own ((iterB (blk R ch P) (R (k + 1)) q [ch (k + 1)]).map N)), some (.d x), x7, x8, none] m3).bind _ = _
      rw [h3']
      rfl
    obtain ⟨e2, m2, h2, rfl, y6, y7, y8, rfl⟩ := hmid
    rw [List.length_map, List.length_range] at h2
    have h2' : Pv.exec G (callD G F p) lbFor2 [some (.d ld), some (.d cd), some (.d pd), some (.own (tab (k + 1) fun i => T (blk R ch P i))), some (.d (N (k + 1))), some (.own [.int (ch (k + 1) : Nat)]), x6, x7, x8, none] m2 = _ := h2
    have hfin : sortN (iterB (blk R ch P) (R (k + 1)) (if k + 1 ∈ P then 0 else n) [ch (k + 1)]) = blk R ch P (k + 1) := by
      by_cases hpin : k + 1 ∈ P
      · rw [if_pos hpin, blk_pin (by omega) hpin]
        rfl
      · rw [if_neg hpin]
        refine blk_uniq g c' (by omega) (by omega) hpin (sortN_asc (iter_lot hcm n).nd) fun y => ?_
        rw [mem_sortN]
        exact iter_all hcm hrl y
    have hsucc := tab_succ (k + 1) fun i => T (blk R ch P i)
    have hsrt := sorted_N (iterB (blk R ch P) (R (k + 1)) (if k + 1 ∈ P then 0 else n) [ch (k + 1)])
    rw [hfin] at hsrt
    have hT : T (blk R ch P (k + 1)) = .tuple ((blk R ch P (k + 1)).map N) := rfl
    rw [hT] at hsucc
    refine ⟨[some (.d ld), some (.d cd), some (.d pd), some (.own (tab (k + 1 + 1) fun i => T (blk R ch P i))), some (.d (N (k + 1))), some (.own ((iterB (blk R ch P) (R (k + 1)) (if k + 1 ∈ P then 0 else n) [ch (k + 1)]).map N)), y6, y7, y8, none], m2, .inl ?_, rfl, _, _, _, _, _, rfl⟩
    have hlim : (tab (k + 1) fun i => T (blk R ch P i)).length < 1000000 := by rw [tab_len]; omega
    simp [startE, Pv.execs, Pv.exec, sem, sems, Sm.mk', Sm.g, Sm.r, Sm.c, Sm.o, getV, takeV, two2, one1, dispV, smG, smV, smA, lentOf, frzAll, frz_d, frz_own, frzArg, bindT, bindTs, dat_d, dat_own, datAll, tOf, Res.of, outcome, compV, itW, wipeE, callV, callPV, callLV, lentRes, celV, arrange, pureRes, callRes, restoreE, noLst, andV, orV, notV, andT, orT, notT, iteV, boolR, ownAt, parB, sliceV, inrV, chainV, cidxV, truth, len_list, len_tuple, tup_list, tup_tuple, lst_list, lst_tuple, toint_b, lbBody, hci, h2', hsrt, hlim, hsucc, lim]
  obtain ⟨e', m', h1, rfl, x4, x5, x6, x7, x8, rfl⟩ := hw
  refine callD_ok hF (Nat.le_of_ble_eq_true rfl) ?_
  have e3 : (tab 1 fun i => T (blk R ch P i)) = [.tuple []] := by rw [tab_one, blk_zero]; rfl
  have e4 : (List.map (fun i => N (1 + i)) (List.range (n - 1))).length + 1 = n := by
    have := g.pos
    simp
    omega
  rw [e3, e4] at h1
  have h1' : Pv.exec G (callD G F p) lbFor1 [some (.d ld), some (.d cd), some (.d pd), some (.own [.tuple []]), none, none, none, none, none, none] m' = _ := h1
  simp [startE, Pv.execs, Pv.exec, sem, sems, Sm.mk', Sm.g, Sm.r, Sm.c, Sm.o, getV, takeV, two2, one1, dispV, smG, smV, smA, lentOf, frzAll, frz_d, frz_own, frzArg, bindT, bindTs, dat_d, dat_own, datAll, tOf, Res.of, outcome, compV, itW, wipeE, callV, callPV, callLV, lentRes, celV, arrange, pureRes, callRes, restoreE, noLst, andV, orV, notV, andT, orT, notT, iteV, boolR, ownAt, parB, sliceV, inrV, chainV, cidxV, truth, len_list, len_tuple, tup_list, tup_tuple, lst_list, lst_tuple, toint_b, lbFn, lim, h1']
  rfl
end Pv

/-! PvW: the laws' outer loops. -/
namespace Pv
open PySem

theorem eqD_T (a b : List Nat) : eqD (T a) (T b) = some (decide (a = b)) := by
  show (if okD (T a) && okD (T b) then some (PyData.eqv (T a) (T b)) else none) = _
  have h1 : okD (T a) = true := shpAll_N 59 a
  have h2 : okD (T b) = true := shpAll_N 59 b
  rw [h1, h2, tells_T]
  rfl
theorem times_ok (K : Nat) (hK : 1 ≤ K) (l : Nat) : ∃ t, t ≤ K ∧ (b2Op .min2 (.int (K : Int)) (.int (l : Int))).bind (fun v => match v with
    | .d y => b2Op .max2 (.int 1) y
    | _ => none) = some (.d (N t)) := by
  refine ⟨max 1 (min K l), by omega, ?_⟩
  rw [min_N]
  exact max_N 1 (min K l)
def idxX (K : Int) : X := .b2 .max2 (.int 1) (.b2 .min2 (.int K) (.b1 .len (.var 0)))
theorem idx_ok {G : List D} {call : Nat → List Vl → Cels → FRes} (K : Nat) (hK : 1 ≤ K) (ns : List Int) (e : Slots) (m : Cels) : ∃ t, t ≤ K ∧ (sem G call (idxX K)).v (some (.d (.list (ns.map PyData.int))) :: e) m = .ok (.d (N t)) (some (.d (.list (ns.map PyData.int))) :: e) m := by
  refine ⟨max 1 (min K ns.length), by omega, ?_⟩
  have h1 := min_N K ns.length
  have h2 : b2Op .max2 (.int 1) (.int ((min K ns.length : Nat) : Int)) = some (.d (.int ((max 1 (min K ns.length) : Nat) : Int))) := max_N 1 (min K ns.length)
  simp [startE, Pv.execs, Pv.exec, sem, sems, Sm.mk', Sm.g, Sm.r, Sm.c, Sm.o, getV, takeV, two2, one1, dispV, smG, smV, smA, lentOf, frzAll, frz_d, frz_own, frzArg, bindT, bindTs, dat_d, dat_own, datAll, tOf, Res.of, outcome, compV, itW, wipeE, callV, callPV, callLV, lentRes, celV, arrange, pureRes, callRes, restoreE, noLst, andV, orV, notV, andT, orT, notT, iteV, boolR, ownAt, parB, sliceV, inrV, chainV, cidxV, truth, len_list, len_tuple, tup_list, tup_tuple, lst_list, lst_tuple, toint_b, idxX, List.length_map, h1, h2]
/-! a for over the numbers, a source each, so many turns each -/
def lawAll (h : Nat) (t : Int) : X := .comp (.v 3) [3] .rng1 [.int t] (.omit) (.call h [.var 2] [.inl 0])
def lawABody (s h : Nat) (t : Int) : List S := [.asg (.v 2) (.cel (.callP s [.var 0, .var 1] [.inl 0, .inl 1])), .ite (.not (.b1 .all (lawAll h t))) [.ret (.bl false)] []]
def lawAFor (s h : Nat) (K t : Int) : S := .for (.v 1) .rng1 [idxX K] (lawABody s h t)
def lawAFn (s h : Nat) (K t : Int) : Fn := ⟨4, [
  lawAFor s h K t,
  .ret (.bl true)]⟩
theorem lawA0 {G : List D} {F : List Fn} {f s h : Nat} (K t : Nat) (I : Cels → Prop) (m0 : Cels) (nl0 : noLstC m0 = true) (I0 : I m0) (Ia : ∀ m c, I m → I (m ++ [c])) (hF : F[f]? = some (lawAFn s h K t)) (hS : F[s]? = some sourceFn) (hK : 1 ≤ K) (hK2 : K ≤ 1000) (ht : t ≤ 1000) (p C : Nat) (hC : t * C ≤ 1000000000)
    (H : ∀ B m k, Src m k (B + C) → I m → ∃ m', callD G F (p + 1) h [.cell k] m = .ok (.d (.bool true)) m' ∧ Src m' k B ∧ I m') (ns : List Int) : ∃ m', callD G F (p + 2) f [.d (.list (ns.map PyData.int))] m0 = .ok (.d (.bool true)) m' := by
  obtain ⟨u, hu, hix⟩ := idx_ok (G := G) (call := callD G F (p + 1)) K hK ns [none, none, none] m0
  have hw := for_ok (G := G) (call := callD G F (p + 1)) (t := .v 1) (k := .rng1) (as := [idxX K]) (body := lawABody s h t)
    (fun j e m => (noLstC m = true ∧ I m) ∧ ∃ x1 x2, e = [some (.d (.list (ns.map PyData.int))), x1, x2, none])
    (e := [some (.d (.list (ns.map PyData.int))), none, none, none]) (e0 := [some (.d (.list (ns.map PyData.int))), none, none, none]) (m := m0) (m0 := m0) (items := (List.range u).map N) ?hi ⟨⟨nl0, I0⟩, none, none, rfl⟩ ?hs
  case hi =>
    have hv : (sem G (callD G F (p + 1)) (idxX K)).var = none := rfl
    simp [startE, Pv.execs, Pv.exec, sem, sems, Sm.mk', Sm.g, Sm.r, Sm.c, Sm.o, getV, takeV, two2, one1, dispV, smG, smV, smA, lentOf, frzAll, frz_d, frz_own, frzArg, bindT, bindTs, dat_d, dat_own, datAll, tOf, Res.of, outcome, compV, itW, wipeE, callV, callPV, callLV, lentRes, celV, arrange, pureRes, callRes, restoreE, noLst, andV, orV, notV, andT, orT, notT, iteV, boolR, ownAt, parB, sliceV, inrV, chainV, cidxV, truth, len_list, len_tuple, tup_list, tup_tuple, lst_list, lst_tuple, toint_b, hix, hv, rng1_N (show u ≤ 1000000 by omega)]
  case hs =>
    rintro j x e m hx ⟨⟨hnl, hIm⟩, x1, x2, rfl⟩
    obtain ⟨q, hq, rfl⟩ := itemM hx
    refine ⟨_, rfl, ?_⟩
    obtain ⟨a, b, e1, ha, hb, hb2⟩ := source_spec (G := G) hS p ns q
    have hsrc := src_new m hnl a b ha hb hb2
    obtain ⟨ys, m', e2, e3, e4, e5⟩ := compL_each (turn := turnC (.v 3) [3] (sem G (callD G F (p + 1)) .omit) (sem G (callD G F (p + 1)) (.call h [.var 2] [.inl 0]))) (e := [some (.d (.list (ns.map PyData.int))), some (.d (N q)), some (.cell m.length), none]) N PyData.bool (fun _ b => b = true) (fun j m' => Src m' m.length (j * C) ∧ I m') (List.range t) [] (m ++ [.arr [.int a, .int b, .int 0]]) (fun x hx j m' hI => by
      rw [Nat.add_mul, Nat.one_mul] at hI
      obtain ⟨m2, h1, h2⟩ := H (j * C) m' m.length hI.1 hI.2
      refine ⟨true, m2, ?_, rfl, h2⟩
      simp [startE, Pv.execs, Pv.exec, sem, sems, Sm.mk', Sm.g, Sm.r, Sm.c, Sm.o, getV, takeV, two2, one1, dispV, smG, smV, smA, lentOf, frzAll, frz_d, frz_own, frzArg, bindT, bindTs, dat_d, dat_own, datAll, tOf, Res.of, outcome, compV, itW, wipeE, callV, callPV, callLV, lentRes, celV, arrange, pureRes, callRes, restoreE, noLst, andV, orV, notV, andT, orT, notT, iteV, boolR, ownAt, parB, sliceV, inrV, chainV, cidxV, truth, len_list, len_tuple, tup_list, tup_tuple, lst_list, lst_tuple, toint_b, turnC, h1]) ⟨hsrc.mono (by simpa using hC), Ia m _ hIm⟩ (by simp [lim]; omega)
    have hb : boolsOf (ys.map PyData.bool) = some ys ∧ ys.all id = true := by
      have hall : ∀ y ∈ ys, y = true := by
        intro y hy
        obtain ⟨i, hi⟩ := List.mem_iff_getElem?.mp hy
        have hl := (List.getElem?_eq_some_iff.mp hi).1
        have hl2 : i < (List.range t).length := by omega
        exact e4 i _ y (List.getElem?_eq_getElem hl2) hi
      refine ⟨?_, List.all_eq_true.mpr fun y hy => hall y hy⟩
      clear e2 e3 e4 hall
      induction ys with
      | nil => rfl
      | cons y ys ih => rw [List.map_cons, boolsOf, ih]
    have hall : b1Op .all (.list (ys.map PyData.bool)) = some (.d (.bool true)) := by
      show (match boolsOf (ys.map PyData.bool) with
        | some bs => some (Vl.d (.bool (bs.all id)))
        | none => none) = _
      rw [hb.1]
      dsimp only
      rw [hb.2]
    have hcomp : (sem G (callD G F (p + 1)) (lawAll h t)).v [some (.d (.list (ns.map PyData.int))), some (.d (N q)), some (.cell m.length), none] (m ++ [.arr [.int a, .int b, .int 0]]) = .ok (.own (ys.map PyData.bool)) [some (.d (.list (ns.map PyData.int))), some (.d (N q)), some (.cell m.length), none] m' := by
      refine comp_ok (items := (List.range t).map N) (e0 := [some (.d (.list (ns.map PyData.int))), some (.d (N q)), some (.cell m.length), none]) (m0 := m ++ [.arr [.int a, .int b, .int 0]]) ?_ e2
      have := rng1_N (show t ≤ 1000000 by omega)
      simp [startE, Pv.execs, Pv.exec, sem, sems, Sm.mk', Sm.g, Sm.r, Sm.c, Sm.o, getV, takeV, two2, one1, dispV, smG, smV, smA, lentOf, frzAll, frz_d, frz_own, frzArg, bindT, bindTs, dat_d, dat_own, datAll, tOf, Res.of, outcome, compV, itW, wipeE, callV, callPV, callLV, lentRes, celV, arrange, pureRes, callRes, restoreE, noLst, andV, orV, notV, andT, orT, notT, iteV, boolR, ownAt, parB, sliceV, inrV, chainV, cidxV, truth, len_list, len_tuple, tup_list, tup_tuple, lst_list, lst_tuple, toint_b, this]
    refine ⟨[some (.d (.list (ns.map PyData.int))), some (.d (N q)), some (.cell m.length), none], m', .inl ?_, ⟨e5.1.1, e5.2⟩, _, _, rfl⟩
    simp [startE, Pv.execs, Pv.exec, sem, sems, Sm.mk', Sm.g, Sm.r, Sm.c, Sm.o, getV, takeV, two2, one1, dispV, smG, smV, smA, lentOf, frzAll, frz_d, frz_own, frzArg, bindT, bindTs, dat_d, dat_own, datAll, tOf, Res.of, outcome, compV, itW, wipeE, callV, callPV, callLV, lentRes, celV, arrange, pureRes, callRes, restoreE, noLst, andV, orV, notV, andT, orT, notT, iteV, boolR, ownAt, parB, sliceV, inrV, chainV, cidxV, truth, len_list, len_tuple, tup_list, tup_tuple, lst_list, lst_tuple, toint_b, lawABody, e1, hcomp, hall]
  obtain ⟨e', m', h1, _, x1, x2, rfl⟩ := hw
  refine ⟨m', callD_ok hF (Nat.le_of_ble_eq_true rfl) ?_⟩
  have h1' : Pv.exec G (callD G F (p + 1)) (lawAFor s h K t) [some (.d (.list (ns.map PyData.int))), none, none, none] m0 = _ := h1
  simp [startE, Pv.execs, Pv.exec, sem, sems, Sm.mk', Sm.g, Sm.r, Sm.c, Sm.o, getV, takeV, two2, one1, dispV, smG, smV, smA, lentOf, frzAll, frz_d, frz_own, frzArg, bindT, bindTs, dat_d, dat_own, datAll, tOf, Res.of, outcome, compV, itW, wipeE, callV, callPV, callLV, lentRes, celV, arrange, pureRes, callRes, restoreE, noLst, andV, orV, notV, andT, orT, notT, iteV, boolR, ownAt, parB, sliceV, inrV, chainV, cidxV, truth, len_list, len_tuple, tup_list, tup_tuple, lst_list, lst_tuple, toint_b, lawAFn, h1']
theorem lawA {G : List D} {F : List Fn} {f s h : Nat} (K t : Nat) (hF : F[f]? = some (lawAFn s h K t)) (hS : F[s]? = some sourceFn) (hK : 1 ≤ K) (hK2 : K ≤ 1000) (ht : t ≤ 1000) (p C : Nat) (hC : t * C ≤ 1000000000)
    (H : ∀ B m k, Src m k (B + C) → ∃ m', callD G F (p + 1) h [.cell k] m = .ok (.d (.bool true)) m' ∧ Src m' k B) (ns : List Int) : ∃ m', callD G F (p + 2) f [.d (.list (ns.map PyData.int))] [] = .ok (.d (.bool true)) m' :=
  lawA0 K t (fun _ => True) [] rfl True.intro (fun _ _ _ => True.intro) hF hS hK hK2 ht p C hC (fun B m k hs _ => let ⟨m', h1, h2⟩ := H B m k hs; ⟨m', h1, h2, True.intro⟩) ns
/-- .. of a law with a lambda: the table of its maker stands first -/
theorem lawAT {G : List D} {F : List Fn} {f s h : Nat} (K t : Nat) (q : Str) (hF : F[f]? = some (lawAFn s h K t)) (hS : F[s]? = some sourceFn) (hK : 1 ≤ K) (hK2 : K ≤ 1000) (ht : t ≤ 1000) (p C : Nat) (hC : t * C ≤ 1000000000)
    (H : ∀ B m k, Src m k (B + C) → m[0]? = some (.tbl q) → ∃ m', callD G F (p + 1) h [.cell k] m = .ok (.d (.bool true)) m' ∧ Src m' k B) (ns : List Int) : ∃ m', callD G F (p + 2) f [.d (.list (ns.map PyData.int))] [.tbl q] = .ok (.d (.bool true)) m' :=
  lawA0 K t (fun m => m[0]? = some (.tbl q)) [.tbl q] rfl rfl (fun m c e => by rw [List.getElem?_append_left (List.getElem?_eq_some_iff.mp e).1]; exact e) hF hS hK hK2 ht p C hC (fun B m k hs e => let ⟨m', h1, h2⟩ := H B m k hs e; ⟨m', h1, h2, tbl_call h1 e⟩) ns
end Pv

/-! PvF: transfers. -/
namespace Pv
open PySem

/-! ### a chart's entries compared -/
theorem shp_cg (n : Nat) (ch : Nat → Nat) (i : Nat) : shp n (cg ch i) = true := by
  unfold cg
  split
  · cases n <;> rfl
  · exact shp_N n _
theorem eq_cgN (ch : Nat → Nat) (i y : Nat) : eqD (cg ch i) (.int (y : Int)) = some (decide (0 < i ∧ ch i = y)) := by
  unfold cg
  by_cases h : i = 0
  · subst h; rfl
  · rw [if_neg h]
    show some ((ch i : Int) == (y : Int)) = _
    have : ((ch i : Int) == (y : Int)) = decide (ch i = y) := by
      by_cases e : ch i = y
      · simp [e]
      · have : ¬ (ch i : Int) = (y : Int) := by omega
        simp [e, this]
    rw [this]
    have h' : 0 < i := by omega
    simp [h']
theorem eq_NN (x y : Nat) : eqD (.int (x : Int)) (.int (y : Int)) = some (decide (x = y)) := by
  show some ((x : Int) == (y : Int)) = _
  by_cases e : x = y
  · simp [e]
  · have : ¬ (x : Int) = (y : Int) := by omega
    simp [e, this]
theorem IsChart.at {d : D} {n : Nat} {ch : Nat → Nat} (h : IsChart d n ch) {i : Nat} (hi : i < n) : ixD d (.int (i : Int)) = some (.d (cg ch i)) := ixD_tab h hi

/-! ### near -/
/-- next to the present boss -/
def Nx (ch : Nat → Nat) (w y : Nat) : Prop := (0 < ch w ∧ ch (ch w) = y) ∨ (0 < y ∧ ch y = ch w)
instance (ch : Nat → Nat) (w y : Nat) : Decidable (Nx ch w y) := inferInstanceAs (Decidable (_ ∨ _))
def nearFn : Fn := ⟨4, [
  .asg (.v 3) (.ix (.var 0) (.var 1)),
  .ret (.or (.cmp .eq (.ix (.var 0) (.var 3)) (.var 2)) (.cmp .eq (.ix (.var 0) (.var 2)) (.var 3)))]⟩
theorem near_spec {G : List D} {F : List Fn} {f : Nat} (hF : F[f]? = some nearFn) (p : Nat) (m : Cels) {n : Nat} {ch : Nat → Nat} {cd : D} (hc : IsChart cd n ch) {w y : Nat} (h0 : 0 < w) (hw : w < n) (hy : y < n) (hb : ch w < n) :
    callD G F (p + 1) f [.d cd, .d (N w), .d (N y)] m = .ok (.d (.bool (decide (Nx ch w y)))) m := by
  have e1 := hc.ix h0 hw
  have e2 := hc.at hb
  have e3 := hc.at hy
  have e4 := eq_cgN ch (ch w) y
  have e5 := eq_cgN ch y (ch w)
  refine callD_ok hF (Nat.le_of_ble_eq_true rfl) ?_
  by_cases a : 0 < ch w ∧ ch (ch w) = y
  · have e4 : eqD (cg ch (ch w)) (.int (y : Int)) = some true := by rw [e4, decide_eq_true a]
    have e6 : decide (Nx ch w y) = true := decide_eq_true (.inl a)
    simp [startE, Pv.execs, Pv.exec, sem, sems, Sm.mk', Sm.g, Sm.r, Sm.c, Sm.o, getV, takeV, two2, one1, dispV, smG, smV, smA, lentOf, frzAll, frz_d, frz_own, frzArg, bindT, bindTs, dat_d, dat_own, datAll, tOf, Res.of, outcome, compV, itW, wipeE, callV, callPV, callLV, lentRes, celV, arrange, pureRes, callRes, restoreE, noLst, andV, orV, notV, andT, orT, notT, iteV, boolR, ownAt, parB, sliceV, inrV, chainV, cidxV, isEV, fldV, truth, len_list, len_tuple, tup_list, tup_tuple, lst_list, lst_tuple, toint_b, nearFn, e1, e2, e3, cmpOp, e4, e6]
  · have e4 : eqD (cg ch (ch w)) (.int (y : Int)) = some false := by rw [e4, decide_eq_false a]
    by_cases b : 0 < y ∧ ch y = ch w
    · have e5 : eqD (cg ch y) (.int (ch w : Int)) = some true := by rw [e5, decide_eq_true b]
      have e6 : decide (Nx ch w y) = true := decide_eq_true (.inr b)
      simp [startE, Pv.execs, Pv.exec, sem, sems, Sm.mk', Sm.g, Sm.r, Sm.c, Sm.o, getV, takeV, two2, one1, dispV, smG, smV, smA, lentOf, frzAll, frz_d, frz_own, frzArg, bindT, bindTs, dat_d, dat_own, datAll, tOf, Res.of, outcome, compV, itW, wipeE, callV, callPV, callLV, lentRes, celV, arrange, pureRes, callRes, restoreE, noLst, andV, orV, notV, andT, orT, notT, iteV, boolR, ownAt, parB, sliceV, inrV, chainV, cidxV, isEV, fldV, truth, len_list, len_tuple, tup_list, tup_tuple, lst_list, lst_tuple, toint_b, nearFn, e1, e2, e3, cmpOp, e4, e5, e6]
    · have e5 : eqD (cg ch y) (.int (ch w : Int)) = some false := by rw [e5, decide_eq_false b]
      have e6 : decide (Nx ch w y) = false := decide_eq_false fun h => h.elim a b
      simp [startE, Pv.execs, Pv.exec, sem, sems, Sm.mk', Sm.g, Sm.r, Sm.c, Sm.o, getV, takeV, two2, one1, dispV, smG, smV, smA, lentOf, frzAll, frz_d, frz_own, frzArg, bindT, bindTs, dat_d, dat_own, datAll, tOf, Res.of, outcome, compV, itW, wipeE, callV, callPV, callLV, lentRes, celV, arrange, pureRes, callRes, restoreE, noLst, andV, orV, notV, andT, orT, notT, iteV, boolR, ownAt, parB, sliceV, inrV, chainV, cidxV, isEV, fldV, truth, len_list, len_tuple, tup_list, tup_tuple, lst_list, lst_tuple, toint_b, nearFn, e1, e2, e3, cmpOp, e4, e5, e6]

/-! ### moved -/
def movedAll : X := .comp (.t [.v 3, .v 4]) [3, 4] .enum [.var 0] (.omit) (.ite (.cmp .eq (.var 3) (.var 1)) (.var 2) (.var 4))
def movedFn : Fn := ⟨5, [.ret (.b1 .totuple movedAll)]⟩
theorem enum_tab (n : Nat) (g : Nat → D) : enumD 0 (tab n g) = (List.range n).map fun i => .tuple [N i, g i] := by
  have key : ∀ (xs : List D) (k : Nat), enumD (k : Int) xs = (List.range xs.length).map fun i => .tuple [N (k + i), xs.getD i .none] := by
    intro xs
    induction xs with
    | nil => intro k; rfl
    | cons x r ih =>
      intro k
      rw [enumD, show ((k : Int) + 1) = ((k + 1 : Nat) : Int) by omega, ih (k + 1), List.length_cons, List.range_succ_eq_map, List.map_cons, List.map_map]
      congr 1
      apply List.map_congr_left
      intro i _
      show PyData.tuple [N (k + 1 + i), r.getD i .none] = .tuple [N (k + (i + 1)), r.getD i .none]
      rw [show k + 1 + i = k + (i + 1) by omega]
  have := key (tab n g) 0
  rw [show ((0 : Nat) : Int) = 0 from rfl, tab_len] at this
  rw [this]
  apply List.map_congr_left
  intro i hi
  have hi' := List.mem_range.mp hi
  rw [List.getD_eq_getElem?_getD, tab_at hi', Nat.zero_add]
  rfl
theorem cg_upd {ch : Nat → Nat} {w y i : Nat} (h0 : 0 < w) : (if i = w then N y else cg ch i) = cg (upd ch w y) i := by
  unfold cg upd
  by_cases e : i = w
  · subst e
    have : ¬ i = 0 := by omega
    simp [this]
  · simp [e]
theorem moved_spec {G : List D} {F : List Fn} {f : Nat} (hF : F[f]? = some movedFn) (p : Nat) (m : Cels) {n : Nat} {ch : Nat → Nat} {cd : D} (hc : IsChart cd n ch) (hn : n ≤ 1000) {w y : Nat} (h0 : 0 < w) :
    callD G F (p + 1) f [.d cd, .d (N w), .d (N y)] m = .ok (.d (chartD n (upd ch w y))) m := by
  refine callD_ok hF (Nat.le_of_ble_eq_true rfl) ?_
  have hv : (sem G (callD G F p) movedAll).v [some (.d cd), some (.d (N w)), some (.d (N y)), none, none] m = .ok (.own (tab n (cg (upd ch w y)))) [some (.d cd), some (.d (N w)), some (.d (N y)), none, none] m := by
    refine comp_ok (items := (List.range n).map fun i => .tuple [N i, cg ch i]) (e0 := [some (.d cd), some (.d (N w)), some (.d (N y)), none, none]) (m0 := m) ?_ (e1 := [some (.d cd), some (.d (N w)), some (.d (N y)), none, none]) ?_
    · have : itemsOf .enum [cd] = some ((List.range n).map fun i => .tuple [N i, cg ch i]) := by
        show (seqOf cd).map (enumD 0) = _
        rw [hc]
        exact congrArg some (enum_tab n (cg ch))
      simp [startE, Pv.execs, Pv.exec, sem, sems, Sm.mk', Sm.g, Sm.r, Sm.c, Sm.o, getV, takeV, two2, one1, dispV, smG, smV, smA, lentOf, frzAll, frz_d, frz_own, frzArg, bindT, bindTs, dat_d, dat_own, datAll, tOf, Res.of, outcome, compV, itW, wipeE, callV, callPV, callLV, lentRes, celV, arrange, pureRes, callRes, restoreE, noLst, andV, orV, notV, andT, orT, notT, iteV, boolR, ownAt, parB, sliceV, inrV, chainV, cidxV, isEV, fldV, truth, len_list, len_tuple, tup_list, tup_tuple, lst_list, lst_tuple, toint_b, this]
    · show compL _ _ [] [some (.d cd), some (.d (N w)), some (.d (N y)), none, none] m = _
      rw [compL_tab (h := fun i => some (if i = w then N y else cg ch i)) (g := fun i => .tuple [N i, cg ch i])]
      · rw [List.nil_append, filterMap_all]
        show Res.ok ((List.range n).map fun i => if i = w then N y else cg ch i) _ _ = _
        congr 1
        apply List.map_congr_left
        intro i _
        exact cg_upd h0
      · intro i hi
        by_cases e : i = w
        · subst e
          have : eqD (.int (i : Int)) (.int (i : Int)) = some true := by rw [eq_NN, decide_eq_true rfl]
          simp [startE, Pv.execs, Pv.exec, sem, sems, Sm.mk', Sm.g, Sm.r, Sm.c, Sm.o, getV, takeV, two2, one1, dispV, smG, smV, smA, lentOf, frzAll, frz_d, frz_own, frzArg, bindT, bindTs, dat_d, dat_own, datAll, tOf, Res.of, outcome, compV, itW, wipeE, callV, callPV, callLV, lentRes, celV, arrange, pureRes, callRes, restoreE, noLst, andV, orV, notV, andT, orT, notT, iteV, boolR, ownAt, parB, sliceV, inrV, chainV, cidxV, isEV, fldV, truth, len_list, len_tuple, tup_list, tup_tuple, lst_list, lst_tuple, toint_b, turnC, cmpOp, this]
        · have : eqD (.int (i : Int)) (.int (w : Int)) = some false := by rw [eq_NN, decide_eq_false e]
          simp [startE, Pv.execs, Pv.exec, sem, sems, Sm.mk', Sm.g, Sm.r, Sm.c, Sm.o, getV, takeV, two2, one1, dispV, smG, smV, smA, lentOf, frzAll, frz_d, frz_own, frzArg, bindT, bindTs, dat_d, dat_own, datAll, tOf, Res.of, outcome, compV, itW, wipeE, callV, callPV, callLV, lentRes, celV, arrange, pureRes, callRes, restoreE, noLst, andV, orV, notV, andT, orT, notT, iteV, boolR, ownAt, parB, sliceV, inrV, chainV, cidxV, isEV, fldV, truth, len_list, len_tuple, tup_list, tup_tuple, lst_list, lst_tuple, toint_b, turnC, cmpOp, this, e]
      · simp [lim]; omega
  simp [startE, Pv.execs, Pv.exec, sem, sems, Sm.mk', Sm.g, Sm.r, Sm.c, Sm.o, getV, takeV, two2, one1, dispV, smG, smV, smA, lentOf, frzAll, frz_d, frz_own, frzArg, bindT, bindTs, dat_d, dat_own, datAll, tOf, Res.of, outcome, compV, itW, wipeE, callV, callPV, callLV, lentRes, celV, arrange, pureRes, callRes, restoreE, noLst, andV, orV, notV, andT, orT, notT, iteV, boolR, ownAt, parB, sliceV, inrV, chainV, cidxV, isEV, fldV, truth, len_list, len_tuple, tup_list, tup_tuple, lst_list, lst_tuple, toint_b, movedFn, hv]
  rfl

/-! ### transferred -/
def transferredFn (l a b : Nat) (s1 s2 : S) : Fn := ⟨4, [
  .expr (.callP l [.b1 .len (.var 0), .var 2] [.inl 0, .inl 1]),
  .ite (.cmp .notin (.var 3) (.ix (.var 0) (.var 2))) [s1] [],
  .ite (.not (.callP a [.var 1, .var 2, .var 3] [.inl 0, .inl 1, .inl 2])) [s2] [],
  .ret (.callP b [.var 1, .var 2, .var 3] [.inl 0, .inl 1, .inl 2])]⟩
theorem transferred_spec {G : List D} {F : List Fn} {f l a b : Nat} {s s1 s2 : S} (hF : F[f]? = some (transferredFn l a b s1 s2)) (hL : F[l]? = some (lookFn s)) (hA : F[a]? = some nearFn) (hB : F[b]? = some movedFn) (p : Nat) (m : Cels)
    {n : Nat} {R : Nat → List Nat} {ch : Nat → Nat} {ld cd : D} (hl : Rows ld n R) (hc : IsChart cd n ch) (g : Good n R) (c : Chart n R ch) (hn : n ≤ 1000) {w y : Nat} (h0 : 0 < w) (hw : w < n) (hy : y ∈ R w) (hx : Nx ch w y) :
    callD G F (p + 2) f [.d ld, .d cd, .d (N w), .d (N y)] m = .ok (.d (chartD n (upd ch w y))) m := by
  refine callD_ok hF (Nat.le_of_ble_eq_true rfl) ?_
  have hyn := g.lt w hw y hy
  have hbn := g.lt w hw _ (c w h0 hw)
  have e1 := look_spec (G := G) hL p [] h0 hw
  have e2 := hl.len
  obtain ⟨rd, e3, e4⟩ := hl.ix hw
  have e5 : inOp (.int (y : Int)) rd = some true := by rw [inOp_N e4, decide_eq_true hy]
  have e6 := near_spec (G := G) hA p [] hc h0 hw (show y < n by omega) (show ch w < n by omega)
  rw [decide_eq_true hx] at e6
  have e7 := moved_spec (G := G) hB p [] hc hn (y := y) h0
  have e8 : noLst (chartD n (upd ch w y)) = true := noLstAll_map _ (fun i => by unfold cg; split <;> rfl) _
  simp [startE, Pv.execs, Pv.exec, sem, sems, Sm.mk', Sm.g, Sm.r, Sm.c, Sm.o, getV, takeV, two2, one1, dispV, smG, smV, smA, lentOf, frzAll, frz_d, frz_own, frzArg, bindT, bindTs, dat_d, dat_own, datAll, tOf, Res.of, outcome, compV, itW, wipeE, callV, callPV, callLV, lentRes, celV, arrange, pureRes, callRes, restoreE, noLst, andV, orV, notV, andT, orT, notT, iteV, boolR, ownAt, parB, sliceV, inrV, chainV, cidxV, isEV, fldV, truth, len_list, len_tuple, tup_list, tup_tuple, lst_list, lst_tuple, toint_b, transferredFn, e1, e2, e3, cmpOp, e5, e6, e7]

/-! ### the laws' near, steps, moved -/
def lnearFn : Fn := ⟨4, [
  .ite (.or (.inr true (.var 2) [.int 1, .b1 .len (.var 0)]) (.or (.cmp .notin (.var 3) (.ix (.var 0) (.var 2))) (.cmp .eq (.var 3) (.ix (.var 1) (.var 2))))) [.ret (.bl false)] [],
  .ret (.or (.cmp .eq (.ix (.var 1) (.ix (.var 1) (.var 2))) (.var 3)) (.cmp .eq (.ix (.var 1) (.var 3)) (.ix (.var 1) (.var 2))))]⟩
/-- a transfer that is possible -/
def Near (n : Nat) (R : Nat → List Nat) (ch : Nat → Nat) (w y : Nat) : Prop := (0 < w ∧ w < n) ∧ y ∈ R w ∧ y ≠ ch w ∧ Nx ch w y
instance (n : Nat) (R : Nat → List Nat) (ch : Nat → Nat) (w y : Nat) : Decidable (Near n R ch w y) := inferInstanceAs (Decidable (_ ∧ _))
theorem lnear_spec {G : List D} {F : List Fn} {f : Nat} (hF : F[f]? = some lnearFn) (p : Nat) (m : Cels) {n : Nat} {R : Nat → List Nat} {ch : Nat → Nat} {ld cd : D} (hl : Rows ld n R) (hc : IsChart cd n ch) (g : Good n R) (c : Chart n R ch) (w y : Nat) :
    callD G F (p + 1) f [.d ld, .d cd, .d (N w), .d (N y)] m = .ok (.d (.bool (decide (Near n R ch w y)))) m := by
  refine callD_ok hF (Nat.le_of_ble_eq_true rfl) ?_
  have e1 := hl.len
  have er : rngIn true (w : Int) [.int 1, .int (n : Int)] = some (.d (.bool (!decide (0 < w ∧ w < n)))) := by
    show some (Vl.d (.bool (decide ((1 : Int) ≤ w ∧ (w : Int) < n) != true))) = _
    have : decide ((1 : Int) ≤ w ∧ (w : Int) < n) = decide (0 < w ∧ w < n) := by
      rw [decide_eq_decide]
      omega
    rw [this, Bool.bne_true]
  by_cases hw : 0 < w ∧ w < n
  · rw [decide_eq_true hw] at er
    obtain ⟨rd, e3, e4⟩ := hl.ix hw.2
    by_cases hy : y ∈ R w
    · have e5 : inOp (.int (y : Int)) rd = some true := by rw [inOp_N e4, decide_eq_true hy]
      have hyn := g.lt w hw.2 y hy
      have hbn := g.lt w hw.2 _ (c w hw.1 hw.2)
      have e6 := hc.ix hw.1 hw.2
      have e7 := eq_NN y (ch w)
      by_cases hne : y = ch w
      · have e7 : eqD (.int (y : Int)) (.int (ch w : Int)) = some true := by rw [e7, decide_eq_true hne]
        have e8 : decide (Near n R ch w y) = false := decide_eq_false fun h => h.2.2.1 hne
        simp [startE, Pv.execs, Pv.exec, sem, sems, Sm.mk', Sm.g, Sm.r, Sm.c, Sm.o, getV, takeV, two2, one1, dispV, smG, smV, smA, lentOf, frzAll, frz_d, frz_own, frzArg, bindT, bindTs, dat_d, dat_own, datAll, tOf, Res.of, outcome, compV, itW, wipeE, callV, callPV, callLV, lentRes, celV, arrange, pureRes, callRes, restoreE, noLst, andV, orV, notV, andT, orT, notT, iteV, boolR, ownAt, parB, sliceV, inrV, chainV, cidxV, isEV, fldV, truth, len_list, len_tuple, tup_list, tup_tuple, lst_list, lst_tuple, toint_b, lnearFn, e1, er, e3, cmpOp, e5, e6, e7, e8]
      · have e7 : eqD (.int (y : Int)) (.int (ch w : Int)) = some false := by rw [e7, decide_eq_false hne]
        have f1 := hc.at (show ch w < n by omega)
        have f2 := hc.at (show y < n by omega)
        have f3 := eq_cgN ch (ch w) y
        have f4 := eq_cgN ch y (ch w)
        by_cases a : 0 < ch w ∧ ch (ch w) = y
        · have f3 : eqD (cg ch (ch w)) (.int (y : Int)) = some true := by rw [f3, decide_eq_true a]
          have e8 : decide (Near n R ch w y) = true := decide_eq_true ⟨hw, hy, hne, .inl a⟩
          simp [startE, Pv.execs, Pv.exec, sem, sems, Sm.mk', Sm.g, Sm.r, Sm.c, Sm.o, getV, takeV, two2, one1, dispV, smG, smV, smA, lentOf, frzAll, frz_d, frz_own, frzArg, bindT, bindTs, dat_d, dat_own, datAll, tOf, Res.of, outcome, compV, itW, wipeE, callV, callPV, callLV, lentRes, celV, arrange, pureRes, callRes, restoreE, noLst, andV, orV, notV, andT, orT, notT, iteV, boolR, ownAt, parB, sliceV, inrV, chainV, cidxV, isEV, fldV, truth, len_list, len_tuple, tup_list, tup_tuple, lst_list, lst_tuple, toint_b, lnearFn, e1, er, e3, cmpOp, e5, e6, e7, f1, f2, f3, e8]
        · have f3 : eqD (cg ch (ch w)) (.int (y : Int)) = some false := by rw [f3, decide_eq_false a]
          by_cases b : 0 < y ∧ ch y = ch w
          · have f4 : eqD (cg ch y) (.int (ch w : Int)) = some true := by rw [f4, decide_eq_true b]
            have e8 : decide (Near n R ch w y) = true := decide_eq_true ⟨hw, hy, hne, .inr b⟩
            simp [startE, Pv.execs, Pv.exec, sem, sems, Sm.mk', Sm.g, Sm.r, Sm.c, Sm.o, getV, takeV, two2, one1, dispV, smG, smV, smA, lentOf, frzAll, frz_d, frz_own, frzArg, bindT, bindTs, dat_d, dat_own, datAll, tOf, Res.of, outcome, compV, itW, wipeE, callV, callPV, callLV, lentRes, celV, arrange, pureRes, callRes, restoreE, noLst, andV, orV, notV, andT, orT, notT, iteV, boolR, ownAt, parB, sliceV, inrV, chainV, cidxV, isEV, fldV, truth, len_list, len_tuple, tup_list, tup_tuple, lst_list, lst_tuple, toint_b, lnearFn, e1, er, e3, cmpOp, e5, e6, e7, f1, f2, f3, f4, e8]
          · have f4 : eqD (cg ch y) (.int (ch w : Int)) = some false := by rw [f4, decide_eq_false b]
            have e8 : decide (Near n R ch w y) = false := decide_eq_false fun h => h.2.2.2.elim a b
            simp [startE, Pv.execs, Pv.exec, sem, sems, Sm.mk', Sm.g, Sm.r, Sm.c, Sm.o, getV, takeV, two2, one1, dispV, smG, smV, smA, lentOf, frzAll, frz_d, frz_own, frzArg, bindT, bindTs, dat_d, dat_own, datAll, tOf, Res.of, outcome, compV, itW, wipeE, callV, callPV, callLV, lentRes, celV, arrange, pureRes, callRes, restoreE, noLst, andV, orV, notV, andT, orT, notT, iteV, boolR, ownAt, parB, sliceV, inrV, chainV, cidxV, isEV, fldV, truth, len_list, len_tuple, tup_list, tup_tuple, lst_list, lst_tuple, toint_b, lnearFn, e1, er, e3, cmpOp, e5, e6, e7, f1, f2, f3, f4, e8]
    · have e5 : inOp (.int (y : Int)) rd = some false := by rw [inOp_N e4, decide_eq_false hy]
      have e8 : decide (Near n R ch w y) = false := decide_eq_false fun h => hy h.2.1
      simp [startE, Pv.execs, Pv.exec, sem, sems, Sm.mk', Sm.g, Sm.r, Sm.c, Sm.o, getV, takeV, two2, one1, dispV, smG, smV, smA, lentOf, frzAll, frz_d, frz_own, frzArg, bindT, bindTs, dat_d, dat_own, datAll, tOf, Res.of, outcome, compV, itW, wipeE, callV, callPV, callLV, lentRes, celV, arrange, pureRes, callRes, restoreE, noLst, andV, orV, notV, andT, orT, notT, iteV, boolR, ownAt, parB, sliceV, inrV, chainV, cidxV, isEV, fldV, truth, len_list, len_tuple, tup_list, tup_tuple, lst_list, lst_tuple, toint_b, lnearFn, e1, er, e3, cmpOp, e5, e8]
  · rw [decide_eq_false hw] at er
    have e8 : decide (Near n R ch w y) = false := decide_eq_false fun h => hw h.1
    simp [startE, Pv.execs, Pv.exec, sem, sems, Sm.mk', Sm.g, Sm.r, Sm.c, Sm.o, getV, takeV, two2, one1, dispV, smG, smV, smA, lentOf, frzAll, frz_d, frz_own, frzArg, bindT, bindTs, dat_d, dat_own, datAll, tOf, Res.of, outcome, compV, itW, wipeE, callV, callPV, callLV, lentRes, celV, arrange, pureRes, callRes, restoreE, noLst, andV, orV, notV, andT, orT, notT, iteV, boolR, ownAt, parB, sliceV, inrV, chainV, cidxV, isEV, fldV, truth, len_list, len_tuple, tup_list, tup_tuple, lst_list, lst_tuple, toint_b, lnearFn, e1, er, e8]
/-- a pair -/
def pr (p : Nat × Nat) : D := .tuple [N p.1, N p.2]
def stepsAll (i : Nat) : X := .comp (.v 5) [5] .seq [.ix (.var 0) (.var 4)] (.and (.cmp .notin (.var 4) (.var 2)) (.callP i [.var 0, .var 1, .var 4, .var 5] [.inl 0, .inl 1, .inl 2, .inl 3])) (.tup [.var 4, .var 5])
def stepsFor (i : Nat) : S := .for (.v 4) .rng2 [.int 1, .b1 .len (.var 0)] [.ext 3 (stepsAll i)]
def stepsFn (i : Nat) : Fn := ⟨6, [
  .asg (.v 3) (.lst []),
  stepsFor i,
  .ret (.var 3)]⟩
/-- what the laws' steps give for one member; for the first ones -/
def steps1 (n : Nat) (R : Nat → List Nat) (ch : Nat → Nat) (P : List Nat) (w : Nat) : List (Nat × Nat) := ((R w).filter fun y => !decide (w ∈ P) && decide (Near n R ch w y)).map fun y => (w, y)
def stepsL (n : Nat) (R : Nat → List Nat) (ch : Nat → Nat) (P : List Nat) : Nat → List (Nat × Nat)
  | 0 => []
  | k + 1 => stepsL n R ch P k ++ steps1 n R ch P (k + 1)
theorem mem_steps {n : Nat} {R : Nat → List Nat} {ch : Nat → Nat} {P : List Nat} : ∀ {k : Nat} {q : Nat × Nat}, q ∈ stepsL n R ch P k ↔ q.1 ≤ k ∧ q.1 ∉ P ∧ Near n R ch q.1 q.2
  | 0, (w, y) => by
    constructor
    · intro h; cases h
    · intro ⟨h1, _, h2⟩
      have h1 : w ≤ 0 := h1
      have := h2.1.1
      have : 0 < w := this
      omega
  | k + 1, (w, y) => by
    rw [stepsL, List.mem_append, mem_steps]
    unfold steps1
    rw [List.mem_map]
    constructor
    · rintro (⟨h1, h2, h3⟩ | ⟨z, h1, h2⟩)
      · exact ⟨Nat.le_succ_of_le h1, h2, h3⟩
      · cases h2
        have := (List.mem_filter.mp h1).2
        rw [Bool.and_eq_true, Bool.not_eq_true', decide_eq_false_iff_not, decide_eq_true_eq] at this
        exact ⟨Nat.le_refl _, this.1, this.2⟩
    · intro ⟨h1, h2, h3⟩
      by_cases e : w = k + 1
      · subst e
        refine .inr ⟨y, List.mem_filter.mpr ⟨h3.2.1, ?_⟩, rfl⟩
        rw [Bool.and_eq_true, Bool.not_eq_true', decide_eq_false_iff_not, decide_eq_true_eq]
        exact ⟨h2, h3⟩
      · have h1 : w ≤ k + 1 := h1
        exact .inl ⟨show w ≤ k by omega, h2, h3⟩
theorem steps_len {n : Nat} {R : Nat → List Nat} {ch : Nat → Nat} {P : List Nat} (g : Good n R) : ∀ {k : Nat}, k < n → (stepsL n R ch P k).length ≤ k * n
  | 0, _ => by simp [stepsL]
  | k + 1, h => by
    have h1 := steps_len (ch := ch) (P := P) g (k := k) (by omega)
    have h2 : (R (k + 1)).length ≤ n := by
      have := (g.asc (k + 1) h).nodup.length_le_of_subset (l₂ := List.range (k + 1)) fun y hy => List.mem_range.mpr (g.lt (k + 1) h y hy)
      rw [List.length_range] at this
      omega
    have h3 : (steps1 n R ch P (k + 1)).length ≤ (R (k + 1)).length := by
      unfold steps1
      rw [List.length_map]
      exact List.length_filter_le _ _
    rw [stepsL, List.length_append, Nat.add_mul]
    omega
theorem steps_spec {G : List D} {F : List Fn} {f i : Nat} (hF : F[f]? = some (stepsFn i)) (hN : F[i]? = some lnearFn) (p : Nat) (m : Cels) {n : Nat} {R : Nat → List Nat} {ch : Nat → Nat} {P : List Nat} {ld cd pd : D} (hl : Rows ld n R) (hc : IsChart cd n ch) (hp : seqOf pd = some (P.map N)) (g : Good n R) (c : Chart n R ch) (hn : n ≤ 500) :
    callD G F (p + 2) f [.d ld, .d cd, .d pd] m = .ok (.own ((stepsL n R ch P (n - 1)).map pr)) m := by
  have hlen := hl.len
  have hw := for_ok (G := G) (call := callD G F (p + 1)) (t := .v 4) (k := .rng2) (as := [.int 1, .b1 .len (.var 0)]) (body := [.ext 3 (stepsAll i)])
    (fun k e m' => m' = m ∧ ∃ x4 : Option Vl, e = [some (.d ld), some (.d cd), some (.d pd), some (.own ((stepsL n R ch P k).map pr)), x4, none])
    (e := [some (.d ld), some (.d cd), some (.d pd), some (.own []), none, none]) (e0 := [some (.d ld), some (.d cd), some (.d pd), some (.own []), none, none]) (m := m) (m0 := m) (items := (List.range (n - 1)).map fun i => N (1 + i)) ?hi ⟨rfl, none, rfl⟩ ?hs
  case hi => simp [startE, Pv.execs, Pv.exec, sem, sems, Sm.mk', Sm.g, Sm.r, Sm.c, Sm.o, getV, takeV, two2, one1, dispV, smG, smV, smA, lentOf, frzAll, frz_d, frz_own, frzArg, bindT, bindTs, dat_d, dat_own, datAll, tOf, Res.of, outcome, compV, itW, wipeE, callV, callPV, callLV, lentRes, celV, arrange, pureRes, callRes, restoreE, noLst, andV, orV, notV, andT, orT, notT, iteV, boolR, ownAt, parB, sliceV, inrV, chainV, cidxV, isEV, fldV, truth, len_list, len_tuple, tup_list, tup_tuple, lst_list, lst_tuple, toint_b, hlen, rng2_1 (show n ≤ 1000000 by omega)]
  case hs =>
    rintro k x e m' hx ⟨rfl, x4, rfl⟩
    obtain ⟨hk, rfl⟩ := item1 hx
    refine ⟨_, rfl, [some (.d ld), some (.d cd), some (.d pd), some (.own ((stepsL n R ch P (k + 1)).map pr)), some (.d (N (k + 1))), none], m', .inl ?_, rfl, _, rfl⟩
    obtain ⟨rd, hri, hrs⟩ := hl.ix (i := k + 1) (by omega)
    have hin := inOp_N hp (k + 1)
    have hv : (sem G (callD G F (p + 1)) (stepsAll i)).v [some (.d ld), some (.d cd), some (.d pd), some (.own ((stepsL n R ch P k).map pr)), some (.d (N (k + 1))), none] m' = .ok (.own ((steps1 n R ch P (k + 1)).map pr)) [some (.d ld), some (.d cd), some (.d pd), some (.own ((stepsL n R ch P k).map pr)), some (.d (N (k + 1))), none] m' := by
      refine comp_ok (items := (R (k + 1)).map N) (e0 := [some (.d ld), some (.d cd), some (.d pd), some (.own ((stepsL n R ch P k).map pr)), some (.d (N (k + 1))), none]) (m0 := m') ?_ (e1 := [some (.d ld), some (.d cd), some (.d pd), some (.own ((stepsL n R ch P k).map pr)), some (.d (N (k + 1))), none]) ?_
      · have : itemsOf .seq [rd] = some ((R (k + 1)).map N) := hrs
        simp [startE, Pv.execs, Pv.exec, sem, sems, Sm.mk', Sm.g, Sm.r, Sm.c, Sm.o, getV, takeV, two2, one1, dispV, smG, smV, smA, lentOf, frzAll, frz_d, frz_own, frzArg, bindT, bindTs, dat_d, dat_own, datAll, tOf, Res.of, outcome, compV, itW, wipeE, callV, callPV, callLV, lentRes, celV, arrange, pureRes, callRes, restoreE, noLst, andV, orV, notV, andT, orT, notT, iteV, boolR, ownAt, parB, sliceV, inrV, chainV, cidxV, isEV, fldV, truth, len_list, len_tuple, tup_list, tup_tuple, lst_list, lst_tuple, toint_b, hri, this]
      · show compL _ _ [] [some (.d ld), some (.d cd), some (.d pd), some (.own ((stepsL n R ch P k).map pr)), some (.d (N (k + 1))), none] m' = _
        rw [compL_tab (h := fun y => if !decide (k + 1 ∈ P) && decide (Near n R ch (k + 1) y) then some (pr (k + 1, y)) else none)]
        · rw [filterMap_if]
          simp only [steps1, List.map_map, List.nil_append]
          rfl
        · intro y hy
          have hn' := lnear_spec (G := G) hN p [] hl hc g c (k + 1) y
          by_cases a : k + 1 ∈ P
          · simp [startE, Pv.execs, Pv.exec, sem, sems, Sm.mk', Sm.g, Sm.r, Sm.c, Sm.o, getV, takeV, two2, one1, dispV, smG, smV, smA, lentOf, frzAll, frz_d, frz_own, frzArg, bindT, bindTs, dat_d, dat_own, datAll, tOf, Res.of, outcome, compV, itW, wipeE, callV, callPV, callLV, lentRes, celV, arrange, pureRes, callRes, restoreE, noLst, andV, orV, notV, andT, orT, notT, iteV, boolR, ownAt, parB, sliceV, inrV, chainV, cidxV, isEV, fldV, truth, len_list, len_tuple, tup_list, tup_tuple, lst_list, lst_tuple, toint_b, turnC, cmpOp, hin, a]
          · by_cases b : Near n R ch (k + 1) y
            · simp [startE, Pv.execs, Pv.exec, sem, sems, Sm.mk', Sm.g, Sm.r, Sm.c, Sm.o, getV, takeV, two2, one1, dispV, smG, smV, smA, lentOf, frzAll, frz_d, frz_own, frzArg, bindT, bindTs, dat_d, dat_own, datAll, tOf, Res.of, outcome, compV, itW, wipeE, callV, callPV, callLV, lentRes, celV, arrange, pureRes, callRes, restoreE, noLst, andV, orV, notV, andT, orT, notT, iteV, boolR, ownAt, parB, sliceV, inrV, chainV, cidxV, isEV, fldV, truth, len_list, len_tuple, tup_list, tup_tuple, lst_list, lst_tuple, toint_b, turnC, cmpOp, hin, a, hn', b, lim]
              rfl
            · simp [startE, Pv.execs, Pv.exec, sem, sems, Sm.mk', Sm.g, Sm.r, Sm.c, Sm.o, getV, takeV, two2, one1, dispV, smG, smV, smA, lentOf, frzAll, frz_d, frz_own, frzArg, bindT, bindTs, dat_d, dat_own, datAll, tOf, Res.of, outcome, compV, itW, wipeE, callV, callPV, callLV, lentRes, celV, arrange, pureRes, callRes, restoreE, noLst, andV, orV, notV, andT, orT, notT, iteV, boolR, ownAt, parB, sliceV, inrV, chainV, cidxV, isEV, fldV, truth, len_list, len_tuple, tup_list, tup_tuple, lst_list, lst_tuple, toint_b, turnC, cmpOp, hin, a, hn', b, lim]
        · have := (g.asc (k + 1) (by omega)).nodup.length_le_of_subset (l₂ := List.range (k + 1)) fun y hy => List.mem_range.mpr (g.lt (k + 1) (by omega) y hy)
          rw [List.length_range] at this
          simp [lim]; omega
    have hlim : ((stepsL n R ch P k).map pr).length + ((steps1 n R ch P (k + 1)).map pr).length ≤ 1000000 := by
      have h1 := steps_len (ch := ch) (P := P) g (k := k + 1) (by omega)
      rw [stepsL, List.length_append] at h1
      have h2 : (k + 1) * n ≤ 500 * 500 := Nat.mul_le_mul (by omega) hn
      simp only [List.length_map]
      omega
    have happ : (stepsL n R ch P k).map pr ++ (steps1 n R ch P (k + 1)).map pr = (stepsL n R ch P (k + 1)).map pr := by rw [stepsL, List.map_append]
    simp only [List.length_map] at hlim
    simp [startE, Pv.execs, Pv.exec, sem, sems, Sm.mk', Sm.g, Sm.r, Sm.c, Sm.o, getV, takeV, two2, one1, dispV, smG, smV, smA, lentOf, frzAll, frz_d, frz_own, frzArg, bindT, bindTs, dat_d, dat_own, datAll, tOf, Res.of, outcome, compV, itW, wipeE, callV, callPV, callLV, lentRes, celV, arrange, pureRes, callRes, restoreE, noLst, andV, orV, notV, andT, orT, notT, iteV, boolR, ownAt, parB, sliceV, inrV, chainV, cidxV, isEV, fldV, truth, len_list, len_tuple, tup_list, tup_tuple, lst_list, lst_tuple, toint_b, hv, hlim, happ, lim]
  obtain ⟨e', m', h1, rfl, x4, rfl⟩ := hw
  rw [List.length_map, List.length_range] at h1
  refine callD_ok hF (Nat.le_of_ble_eq_true rfl) ?_
  have h1' : Pv.exec G (callD G F (p + 1)) (stepsFor i) [some (.d ld), some (.d cd), some (.d pd), some (.own []), none, none] m' = _ := h1
  simp [startE, Pv.execs, Pv.exec, sem, sems, Sm.mk', Sm.g, Sm.r, Sm.c, Sm.o, getV, takeV, two2, one1, dispV, smG, smV, smA, lentOf, frzAll, frz_d, frz_own, frzArg, bindT, bindTs, dat_d, dat_own, datAll, tOf, Res.of, outcome, compV, itW, wipeE, callV, callPV, callLV, lentRes, celV, arrange, pureRes, callRes, restoreE, noLst, andV, orV, notV, andT, orT, notT, iteV, boolR, ownAt, parB, sliceV, inrV, chainV, cidxV, isEV, fldV, truth, len_list, len_tuple, tup_list, tup_tuple, lst_list, lst_tuple, toint_b, stepsFn, lim, h1']
end Pv

/-! PvX: classes of charts; slices; shuffled lists; random transfers. -/
namespace Pv
open PySem

/-! ### the class of a chart -/
/-- every boss is in its block -/
def Cls (n : Nat) (R : Nat → List Nat) (ch : Nat → Nat) (P : List Nat) (ch' : Nat → Nat) : Prop := ∀ i, 0 < i → i < n → ch' i ∈ blk R ch P i
section
variable {n : Nat} {R : Nat → List Nat} {ch ch' ch2 : Nat → Nat} {P : List Nat}
theorem Cls.refl (g : Good n R) (c : Chart n R ch) : Cls n R ch P ch := fun _ h0 h => blk_self g c h0 h
theorem Cls.chart (g : Good n R) (c : Chart n R ch) (h : Cls n R ch P ch') : Chart n R ch' := fun i h0 hi => blk_sub g c hi (h i h0 hi)
theorem Cls.blk (g : Good n R) (c : Chart n R ch) (h : Cls n R ch P ch') {i : Nat} (hi : i < n) : blk R ch' P i = Pv.blk R ch P i := blk_class g c h hi
theorem Cls.trans (g : Good n R) (c : Chart n R ch) (h : Cls n R ch P ch') (h2 : Cls n R ch' P ch2) : Cls n R ch P ch2 := fun i h0 hi => by
  rw [← h.blk g c hi]
  exact h2 i h0 hi
theorem Cls.symm (g : Good n R) (c : Chart n R ch) (h : Cls n R ch P ch') : Cls n R ch' P ch := fun i h0 hi => by
  rw [h.blk g c hi]
  exact blk_self g c h0 hi
/-- who is next to the present boss is in the block -/
theorem nx_blk (g : Good n R) (c : Chart n R ch) {w y : Nat} (h0 : 0 < w) (hw : w < n) (hp : w ∉ P) (hy : y ∈ R w) (h : Nx ch w y) : y ∈ Pv.blk R ch P w := by
  have hb := g.lt w hw _ (c w h0 hw)
  have hyw := g.lt w hw y hy
  refine (mem_blk g c h0 hw hp y).mpr (.step .refl hy ?_)
  rcases h with ⟨h1, h2⟩ | ⟨h1, h2⟩
  · have h3 := blk_self (P := P) g c h1 (show ch w < n by omega)
    have h4 := blk_lt g c (show ch w < n by omega) h3
    rw [h2] at h3 h4
    unfold J
    rw [Nat.min_eq_right (by omega), Nat.max_eq_left (by omega)]
    exact h3
  · have h3 := blk_self (P := P) g c h1 (show y < n by omega)
    have h4 := blk_lt g c (show y < n by omega) h3
    rw [h2] at h3 h4
    unfold J
    rw [Nat.min_eq_left (by omega), Nat.max_eq_right (by omega)]
    exact h3
theorem Cls.step (g : Good n R) (c : Chart n R ch) (h : Cls n R ch P ch') {w y : Nat} (h0 : 0 < w) (hw : w < n) (hp : w ∉ P) (hy : y ∈ R w) (hx : Nx ch' w y) : Cls n R ch P (upd ch' w y) := fun i hi0 hi => by
  by_cases e : i = w
  · subst e
    rw [upd_at, ← h.blk g c hi]
    exact nx_blk g (h.chart g c) hi0 hi hp hy hx
  · rw [upd_ne _ _ _ e]
    exact h i hi0 hi
end

/-! ### slices -/
theorem cut_to {n k : Nat} (h : k ≤ n) (g : Nat → D) : cutD (tab n g) none (some (k : Int)) = tab k g := by
  have e : cutD (tab n g) none (some (k : Int)) = (tab n g).take (sIx (tab n g).length (tab n g).length (some (k : Int))) := rfl
  have e2 : sIx (tab n g).length (tab n g).length (some (k : Int)) = k := by
    unfold sIx
    dsimp only
    rw [if_neg (by omega), tab_len]
    omega
  rw [e, e2]
  unfold tab
  rw [← List.map_take, List.take_range, Nat.min_eq_left h]
theorem cut_at {n k : Nat} (h : k ≤ n) (g : Nat → D) : cutD (tab n g) (some (k : Int)) none = (List.range (n - k)).map fun i => g (k + i) := by
  have e : cutD (tab n g) (some (k : Int)) none = ((tab n g).drop (sIx (tab n g).length 0 (some (k : Int)))).take ((tab n g).length - sIx (tab n g).length 0 (some (k : Int))) := rfl
  have e2 : sIx (tab n g).length 0 (some (k : Int)) = k := by
    unfold sIx
    dsimp only
    rw [if_neg (by omega), tab_len]
    omega
  rw [e, e2, tab_len]
  apply List.ext_getElem?
  intro i
  rw [List.getElem?_take, List.getElem?_drop]
  by_cases hi : i < n - k
  · rw [if_pos hi, tab_at (by omega)]
    simp [hi]
  · rw [if_neg hi, List.getElem?_eq_none (by simp; omega)]
theorem cut_take {α : Type} (xs : List α) (k : Nat) : cutD xs none (some (k : Int)) = xs.take k := by
  have e : cutD xs none (some (k : Int)) = xs.take (sIx xs.length xs.length (some (k : Int))) := rfl
  have e2 : sIx xs.length xs.length (some (k : Int)) = min k xs.length := by
    unfold sIx
    dsimp only
    rw [if_neg (by omega)]
    simp
  rw [e, e2]
  by_cases h : k ≤ xs.length
  · rw [Nat.min_eq_left h]
  · rw [Nat.min_eq_right (by omega), List.take_of_length_le (Nat.le_refl _), List.take_of_length_le (by omega)]
theorem tab_append (k n : Nat) (g g' : Nat → D) : tab k g ++ (List.range n).map (fun i => g' (k + i)) = tab (k + n) (fun i => if i < k then g i else g' i) := by
  unfold tab
  rw [List.range_add, List.map_append, List.map_map]
  congr 1
  · apply List.map_congr_left
    intro i hi
    simp [List.mem_range.mp hi]
  · apply List.map_congr_left
    intro i hi
    have : ¬ k + i < k := by omega
    simp [this]

/-! ### shuffled -/
def shufLoop (i : Nat) : S := .while 1000000 (.cmp .ne (.var 2) (.lst [])) [.appPop 3 2 (.call i [.var 0, .b1 .len (.var 2)] [.inl 0, .inl 1])]
def shufFn (i : Nat) : Fn := ⟨4, [
  .par [2, 3] [.b1 .tolist (.var 1), .lst []],
  shufLoop i,
  .ret (.var 3)]⟩
theorem eqD_nil_map {α : Type} (f : α → D) (hs : ∀ a, shp 59 (f a) = true) (xs : List α) : eqD (.list (xs.map f)) (.list []) = some (decide (xs = [])) := by
  show (if okD _ && okD _ then some (PyData.eqv _ _) else none) = _
  have h1 : okD (.list (xs.map f)) = true := shpAll_map 59 f xs fun a _ => hs a
  rw [h1]
  cases xs <;> rfl
theorem erase_perm {α : Type} : ∀ (l : List α) (i : Nat) (a : α), l[i]? = some a → (l.eraseIdx i ++ [a]).Perm l
  | [], i, a, h => by simp at h
  | x :: l, 0, a, h => by
    cases h
    exact List.perm_append_comm
  | x :: l, i + 1, a, h => (erase_perm l i a h).cons x
theorem eraseIdx_map {α β : Type} (g : α → β) : ∀ (l : List α) (i : Nat), (l.map g).eraseIdx i = (l.eraseIdx i).map g
  | [], i => by simp
  | x :: l, 0 => rfl
  | x :: l, i + 1 => by
    show g x :: (l.map g).eraseIdx i = g x :: (l.eraseIdx i).map g
    rw [eraseIdx_map g l i]
theorem shuf_spec {α : Type} {G : List D} {F : List Fn} {f i : Nat} (hF : F[f]? = some (shufFn i)) (hD : F[i]? = some (drawFn i)) (p k B : Nat) (m : Cels) (g : α → D) (hg : ∀ a, shp 59 (g a) = true) (xs : List α) (t : D) (ht : seqOf t = some (xs.map g)) (hl : xs.length ≤ 1000) (hs : Src m k (B + xs.length)) :
    ∃ (ys : List α) (m' : Cels), callD G F (p + 2) f [.cell k, .d t] m = .ok (.own (ys.map g)) m' ∧ ys.Perm xs ∧ Src m' k B := by
  have hw := while_ok (G := G) (call := callD G F (p + 1)) (n := 1000000) (c := .cmp .ne (.var 2) (.lst [])) (body := [.appPop 3 2 (.call i [.var 0, .b1 .len (.var 2)] [.inl 0, .inl 1])])
    (fun j e m => ∃ rest found : List α, j = rest.length ∧ e = [some (.cell k), some (.d t), some (.own (rest.map g)), some (.own (found.map g))] ∧ (rest ++ found).Perm xs ∧ Src m k (B + rest.length))
    (fun e m => ∃ found : List α, e = [some (.cell k), some (.d t), some (.own []), some (.own (found.map g))] ∧ found.Perm xs ∧ Src m k B) xs.length
    (e := [some (.cell k), some (.d t), some (.own (xs.map g)), some (.own [])]) (m := m) ⟨xs, [], rfl, rfl, by rw [List.append_nil], hs⟩ (by omega) ?ht
  case ht =>
    rintro j e m1 ⟨rest, found, rfl, rfl, hp, hs1⟩
    have hnil := eqD_nil_map g hg rest
    have h0 : 0 ≤ lim := by decide +kernel
    cases hr : rest with
    | nil =>
      subst hr
      have hnil : eqD (.list []) (.list []) = some true := rfl
      refine .inl ⟨[some (.cell k), some (.d t), some (.own []), some (.own (found.map g))], m1, ?_, found, rfl, hp, hs1⟩
      simp [startE, Pv.execs, Pv.exec, sem, sems, Sm.mk', Sm.g, Sm.r, Sm.c, Sm.o, getV, takeV, two2, one1, dispV, smG, smV, smA, lentOf, frzAll, frz_d, frz_own, frzArg, bindT, bindTs, dat_d, dat_own, datAll, tOf, Res.of, outcome, compV, itW, wipeE, callV, callPV, callLV, lentRes, celV, arrange, pureRes, callRes, restoreE, noLst, andV, orV, notV, andT, orT, notT, iteV, boolR, ownAt, parB, sliceV, inrV, chainV, cidxV, isEV, fldV, truth, len_list, len_tuple, tup_list, tup_tuple, lst_list, lst_tuple, toint_b, cmpOp, hnil]
    | cons x r =>
      have hne : rest ≠ [] := by rw [hr]; simp
      rw [← hr]
      rw [decide_eq_false hne] at hnil
      have hpos : 0 < rest.length := List.length_pos_iff.mpr hne
      have hle : rest.length ≤ 1000 := by
        have := hp.length_eq
        rw [List.length_append] at this
        omega
      obtain ⟨q, m2, e1, hq, hs2⟩ := draw_N (G := G) hD p k (B + (rest.length - 1)) m1 rest.length (hs1.mono (by omega)) hpos (by omega)
      have hlen : b1Op .len (.list (rest.map g)) = some (.d (N rest.length)) := by simp [b1Op]
      have hq' : rest[q]? = some rest[q] := List.getElem?_eq_getElem hq
      have hix : ixOf rest.length (q : Int) = some q := by
        unfold ixOf
        rw [if_pos (by omega), if_pos (by omega)]
        simp
      have hit : (rest.map g)[q]? = some (g rest[q]) := by rw [List.getElem?_map, hq']; rfl
      have her : (rest.map g).eraseIdx q = (rest.eraseIdx q).map g := by
        rw [eraseIdx_map]
      have hfl : found.length < 1000000 := by
        have := hp.length_eq
        rw [List.length_append] at this
        omega
      have hrl : rest.length ≤ 1000000 := by omega
      refine .inr ⟨[some (.cell k), some (.d t), some (.own (rest.map g)), some (.own (found.map g))], m1, [some (.cell k), some (.d t), some (.own ((rest.eraseIdx q).map g)), some (.own ((found ++ [rest[q]]).map g))], m2, (rest.eraseIdx q).length, ?_, ?_, ?_, rest.eraseIdx q, found ++ [rest[q]], rfl, rfl, ?_, ?_⟩
      · simp [startE, Pv.execs, Pv.exec, sem, sems, Sm.mk', Sm.g, Sm.r, Sm.c, Sm.o, getV, takeV, two2, one1, dispV, smG, smV, smA, lentOf, frzAll, frz_d, frz_own, frzArg, bindT, bindTs, dat_d, dat_own, datAll, tOf, Res.of, outcome, compV, itW, wipeE, callV, callPV, callLV, lentRes, celV, arrange, pureRes, callRes, restoreE, noLst, andV, orV, notV, andT, orT, notT, iteV, boolR, ownAt, parB, sliceV, inrV, chainV, cidxV, isEV, fldV, truth, len_list, len_tuple, tup_list, tup_tuple, lst_list, lst_tuple, toint_b, cmpOp, hnil]
      · have hq2 : q < (rest.map g).length := by simpa using hq
        simp [startE, Pv.execs, Pv.exec, sem, sems, Sm.mk', Sm.g, Sm.r, Sm.c, Sm.o, getV, takeV, two2, one1, dispV, smG, smV, smA, lentOf, frzAll, frz_d, frz_own, frzArg, bindT, bindTs, dat_d, dat_own, datAll, tOf, Res.of, outcome, compV, itW, wipeE, callV, callPV, callLV, lentRes, celV, arrange, pureRes, callRes, restoreE, noLst, andV, orV, notV, andT, orT, notT, iteV, boolR, ownAt, parB, sliceV, inrV, chainV, cidxV, isEV, fldV, truth, len_list, len_tuple, tup_list, tup_tuple, lst_list, lst_tuple, toint_b, hlen, e1, hix, hq', her, lim, hfl, hrl]
      · rw [List.length_eraseIdx_of_lt hq]; omega
      · refine List.Perm.trans ?_ hp
        have h1 := erase_perm rest q _ hq'
        have h2 : (rest.eraseIdx q ++ (found ++ [rest[q]])).Perm ((rest.eraseIdx q ++ [rest[q]]) ++ found) := by
          rw [List.append_assoc]
          exact List.Perm.append_left _ List.perm_append_comm
        exact h2.trans (h1.append_right found)
      · rw [List.length_eraseIdx_of_lt hq]; exact hs2
  obtain ⟨e', m', h1, found, rfl, h2, h3⟩ := hw
  refine ⟨found, m', ?_, h2, h3⟩
  have h1' : Pv.exec G (callD G F (p + 1)) (shufLoop i) [some (.cell k), some (.d t), some (.own (xs.map g)), some (.own [])] m = _ := h1
  have htl : b1Op .tolist t = some (.own (xs.map g)) := by
    cases t <;> first | (cases ht; rfl) | cases ht
  refine callD_ok hF (Nat.le_of_ble_eq_true rfl) ?_
  simp [startE, Pv.execs, Pv.exec, sem, sems, Sm.mk', Sm.g, Sm.r, Sm.c, Sm.o, getV, takeV, two2, one1, dispV, smG, smV, smA, lentOf, frzAll, frz_d, frz_own, frzArg, bindT, bindTs, dat_d, dat_own, datAll, tOf, Res.of, outcome, compV, itW, wipeE, callV, callPV, callLV, lentRes, celV, arrange, pureRes, callRes, restoreE, noLst, andV, orV, notV, andT, orT, notT, iteV, boolR, ownAt, parB, sliceV, inrV, chainV, cidxV, isEV, fldV, truth, len_list, len_tuple, tup_list, tup_tuple, lst_list, lst_tuple, toint_b, shufFn, htl, h1', lim]

/-! ### the first members -/
theorem Good.cut {n k : Nat} {R : Nat → List Nat} (g : Good n R) (h0 : 0 < k) (h : k ≤ n) : Good k R := ⟨h0, g.zero, fun i h1 h2 => g.ne i h1 (by omega), fun i h1 => g.asc i (by omega), fun i h1 => g.lt i (by omega)⟩
theorem Chart.cut {n k : Nat} {R : Nat → List Nat} {ch : Nat → Nat} (c : Chart n R ch) (h : k ≤ n) : Chart k R ch := fun i h1 h2 => c i h1 (by omega)
/-- blocks are told by the first members alone -/
theorem blk_cut {n k : Nat} {R R' : Nat → List Nat} {ch ch' : Nat → Nat} {P P' : List Nat} (g : Good n R) (c : Chart n R ch) (hk : k ≤ n) (hR : ∀ i, i < k → R' i = R i) (hc : ∀ i, 0 < i → i < k → ch' i ∈ blk R ch P i) (hP : ∀ i, i < k → (i ∈ P' ↔ i ∈ P)) {i : Nat} (hi : i < k) : blk R' ch' P' i = blk R ch P i :=
  blk_same g c i (by omega) (fun j hj => hR j (by omega)) (fun j hj => hP j (by omega)) (fun j h0 hj => hc j h0 (by omega)) i (Nat.le_refl i)
theorem good_blk {n : Nat} {R : Nat → List Nat} {ch : Nat → Nat} {P : List Nat} (g : Good n R) (c : Chart n R ch) : Good n (blk R ch P) :=
  ⟨g.pos, blk_zero R ch P, fun i h0 h => List.ne_nil_of_mem (blk_self g c h0 h), fun i _ => blk_asc R ch P i, fun i h x hx => blk_lt g c h hx⟩
theorem good_len {n : Nat} {R : Nat → List Nat} (g : Good n R) {i : Nat} (h : i < n) : (R i).length ≤ i := by
  have := (g.asc i h).nodup.length_le_of_subset (l₂ := List.range i) fun y hy => List.mem_range.mpr (g.lt i h y hy)
  rwa [List.length_range] at this
theorem sl_to {n k : Nat} (h : k ≤ n) (g : Nat → D) : slD none (some (k : Int)) (.tuple (tab n g)) = some (.d (.tuple (tab k g))) := by
  show some (Vl.d (.tuple (cutD (tab n g) none (some (k : Int))))) = _
  rw [cut_to h]
theorem sl_at {n k : Nat} (h : k ≤ n) (g : Nat → D) : slD (some (k : Int)) none (.tuple (tab n g)) = some (.d (.tuple ((List.range (n - k)).map fun i => g (k + i)))) := by
  show some (Vl.d (.tuple (cutD (tab n g) (some (k : Int)) none))) = _
  rw [cut_at h]
theorem sl_1 {n : Nat} (g : Nat → D) : slD (some 1) none (.tuple (tab n g)) = some (.d (.tuple ((List.range (n - 1)).map fun i => g (i + 1)))) := slD_tab
theorem eqD_rows {n : Nat} {r r' : Nat → List Nat} (h : ∀ i, i < n → r i = r' i) : eqD (rowsD n r) (rowsD n r') = some true := by
  have e : rowsD n r = rowsD n r' := congrArg PyData.tuple (tab_congr fun i hi => by rw [h i hi])
  rw [e]
  have h1 : shp 60 (rowsD n r') = true := shpAll_map 59 _ _ fun i _ => shp_T 58 _
  show (if okD _ && okD _ then some (PyData.eqv _ _) else none) = _
  have h2 : okD (rowsD n r') = true := h1
  rw [h2, eqv_refl 60 _ h1]
  rfl
theorem eqD_self {d : D} (h : shp 60 d = true) : eqD d d = some true := by
  have h1 : okD d = true := h
  have h2 := eqv_refl 60 d h
  unfold eqD
  split
  · simp
  · simp
  · simp
  · rw [h1, h2]; rfl
theorem shp_pr : ∀ a, shp 59 (pr a) = true := fun a => by
  show shpAll 58 [N a.1, N a.2] = true
  rw [shpAll, shpAll, shp_N, shp_N]
  rfl
theorem shp_chart (n : Nat) (ch : Nat → Nat) : shp 59 (chartD n ch) = true := shpAll_map 58 _ _ fun i _ => shp_cg 58 ch i
/-- (None,) + tuple(..) -/
theorem chart_add {n : Nat} (h0 : 0 < n) (hn : n ≤ 1000) (f : Nat → Nat) : binOp .add (.tuple [.none]) (.tuple ((List.range (n - 1)).map fun i => N (f (i + 1)))) = some (.d (chartD n f)) := by
  have e : (PyData.none :: (List.range (n - 1)).map fun i => N (f (i + 1))) = tab n (cg f) := by
    unfold tab
    obtain ⟨k, rfl⟩ : ∃ k, n = k + 1 := ⟨n - 1, by omega⟩
    rw [List.range_succ_eq_map, List.map_cons, List.map_map]
    rfl
  show (if 1 + ((List.range (n - 1)).map fun i => N (f (i + 1))).length ≤ lim then some (Vl.d (.tuple (.none :: (List.range (n - 1)).map fun i => N (f (i + 1))))) else none) = _
  rw [if_pos (by simp [lim]; omega), e]
  rfl
theorem map_getD {q : Nat} {ys : List Nat} (h : ys.length = q) (a : Nat) : ys.map N = (List.range q).map fun i => N ((fun j => ys.getD (j - a) 0) (a + i)) := by
  apply List.ext_getElem?
  intro i
  by_cases hi : i < q
  · have : i < ys.length := by omega
    simp [hi, this]
  · rw [List.getElem?_eq_none (by simp; omega), List.getElem?_eq_none (by simp; omega)]
/-- a boss of each row -/
theorem draw_rows {turn : D → Slots → Cels → Res (Option D)} {e : Slots} {k B : Nat} (r : Nat → List Nat) (a q : Nat)
    (ht : ∀ i, i < q → ∀ j m, Src m k (B + (j + 1)) → ∃ y m', turn (T (r (a + i))) e m = .ok (some (N y)) e m' ∧ y ∈ r (a + i) ∧ Src m' k (B + j)) (hq : q ≤ 1000) {m : Cels} (hs : Src m k (B + q)) :
    ∃ (f : Nat → Nat) (m' : Cels), compL turn ((List.range q).map fun i => T (r (a + i))) [] e m = .ok ((List.range q).map fun i => N (f (a + i))) e m' ∧ (∀ i, i < q → f (a + i) ∈ r (a + i)) ∧ Src m' k B := by
  obtain ⟨ys, m', e1, e2, e3, e4⟩ := compL_each (turn := turn) (e := e) (fun i => T (r (a + i))) N (fun i y => y ∈ r (a + i)) (fun j m => Src m k (B + j)) (List.range q) [] m (fun x hx j m hI => ht x (List.mem_range.mp hx) j m hI) (by simpa using hs) (by simp [lim]; omega)
  rw [List.length_range] at e2
  refine ⟨fun j => ys.getD (j - a) 0, m', ?_, ?_, e4⟩
  · rw [e1, List.nil_append, map_getD e2 a]
  · intro i hi
    have h1 : i < ys.length := by omega
    have := e3 i i ys[i] (List.getElem?_range hi) (List.getElem?_eq_getElem h1)
    simp [h1]
    exact this
end Pv

/-! PvEx: outcomes; a member is looked for; the bosses above a member, the team under one. -/
namespace Pv
open PySem

/-! ### outcomes -/
theorem outc_val {G : List D} {call : Nat → List Vl → Cels → FRes} {t fr : Nat} {q : Str} {ks : List Nat} {a : X} {e e1 : Slots} {m m1 : Cels} {v : Vl} (ht : m[t]? = some (.tbl q)) (hv : (sem G call a).var = none) (h : (sem G call a).v e m = .ok v e1 m1) : (sem G call (.outc t q fr ks a)).v e m = .ok v e1 m1 := by
  show outcV call t q fr ks (sem G call a) e m = _
  unfold outcV
  rw [ht, hv]
  dsimp only
  rw [if_pos rfl, h]
theorem outc_exc {G : List D} {call : Nat → List Vl → Cels → FRes} {t fr k : Nat} {q : Str} {ks : List Nat} {a : X} {e e1 : Slots} {m m1 : Cels} {f x : D} (ht : m[t]? = some (.tbl q)) (hv : (sem G call a).var = none) (h : (sem G call a).v e m = .exc k f e1 m1) (hk : k ∈ ks) (hc : call fr [.cell m1.length] (m1 ++ [.exn k f]) = .ok (.d x) (m1 ++ [.exn k f])) : (sem G call (.outc t q fr ks a)).v e m = .ok (.d x) e1 m1 := by
  show outcV call t q fr ks (sem G call a) e m = _
  unfold outcV
  rw [ht, hv]
  dsimp only
  rw [if_pos rfl, h]
  dsimp only
  rw [if_pos hk, hc]
  dsimp only
  rw [if_pos (by simp)]
  simp
/-- the laws' def that names an error, of the classes NotAllowed, NotSenior, NoMember, NoChart, NotNear, Unreachable, Ungranted -/
def raisedFn : Fn := ⟨4, [
  .asg (.v 1) (.lst [.isE [false, false, true, false, false, false, false] (.var 0), .isE [false, false, false, true, false, false, false] (.var 0)]),
  .asg (.v 2) (.lst [.isE [true, false, false, false, false, false, false] (.var 0), .isE [false, true, false, false, false, false, false] (.var 0)]),
  .asg (.v 3) (.lst [.isE [false, false, false, false, true, false, false] (.var 0), .isE [false, false, false, false, false, true, false] (.var 0), .isE [false, false, false, false, false, false, true] (.var 0)]),
  .ite (.cmp .ne (.cntT (.op .add (.op .add (.var 1) (.var 2)) (.var 3))) (.int 1)) [.ret (.str "several")] [],
  .ite (.or (.cmp .ne (.isE [false, false, true, true, false, false, false] (.var 0)) (.cmp .isin (.bl true) (.var 1))) (.cmp .ne (.isE [true, true, false, false, false, false, false] (.var 0)) (.cmp .isin (.bl true) (.var 2)))) [.ret (.str "base")] [],
  .ite (.cmp .ne (.isE [false, false, false, false, true, true, true] (.var 0)) (.cmp .isin (.bl true) (.var 3))) [.ret (.str "base")] [],
  .ite (.ix (.var 1) (.int 0)) [.ret (.tup [.str "NoMember", .fld "member" [2, 5, 6] (.var 0)])] [],
  .ite (.ix (.var 1) (.int 1)) [.ret (.tup [.str "NoChart", .fld "number" [3] (.var 0)])] [],
  .ite (.or (.ix (.var 2) (.int 0)) (.or (.ix (.var 2) (.int 1)) (.ix (.var 3) (.int 0)))) [.ret (.tup [.ite (.ix (.var 2) (.int 0)) (.str "NotAllowed") (.ite (.ix (.var 2) (.int 1)) (.str "NotSenior") (.str "NotNear")), .fld "boss" [0, 1, 4] (.var 0)])] [],
  .ret (.tup [.ite (.ix (.var 3) (.int 1)) (.str "Unreachable") (.str "Ungranted"), .fld "member" [2, 5, 6] (.var 0)])]⟩
def excNm : Nat → Str
  | 0 => "NotAllowed"
  | 1 => "NotSenior"
  | 2 => "NoMember"
  | 4 => "NotNear"
  | 5 => "Unreachable"
  | _ => "Ungranted"
theorem inT2 (a b : Bool) : inOp (.bool true) (.list [.bool a, .bool b]) = some (a || b) := by cases a <;> cases b <;> rfl
theorem inT3 (a b c : Bool) : inOp (.bool true) (.list [.bool a, .bool b, .bool c]) = some (a || b || c) := by cases a <;> cases b <;> cases c <;> rfl
theorem raised_spec {G : List D} {F : List Fn} {r : Nat} (hF : F[r]? = some raisedFn) (p j k : Nat) (m : Cels) (f : D) (hk : k = 0 ∨ k = 1 ∨ k = 2 ∨ k = 4 ∨ k = 5 ∨ k = 6) (h : m[j]? = some (.exn k f)) : callD G F (p + 1) r [.cell j] m = .ok (.d (.tuple [.str (excNm k), f])) m := by
  refine callD_ok hF (Nat.le_of_ble_eq_true rfl) ?_
  rcases hk with rfl | rfl | rfl | rfl | rfl | rfl <;>
    simp [startE, Pv.execs, Pv.exec, sem, sems, Sm.mk', Sm.g, Sm.r, Sm.c, Sm.o, getV, takeV, two2, one1, dispV, smG, smV, smA, lentOf, frzAll, frz_d, frz_own, frzArg, bindT, bindTs, dat_d, dat_own, datAll, tOf, Res.of, outcome, compV, itW, wipeE, callV, callPV, callLV, lentRes, celV, arrange, pureRes, callRes, restoreE, noLst, andV, orV, notV, andT, orT, notT, iteV, boolR, ownAt, parB, sliceV, inrV, chainV, cidxV, isEV, fldV, truth, len_list, len_tuple, tup_list, tup_tuple, lst_list, lst_tuple, toint_b, raisedFn, excNm, h, cntTD, boolsOf, binOp, cmpOp, lim, inT2, inT3, eqD_bool, eqD_int, ixD, seqOf, atD, ixOf]
/-! ### a member is looked for -/
def lookMFn (k : Nat) : Fn := ⟨2, [
  .ite (.not (.chain .le .lt (.int 0) (.var 1) (.var 0))) [.raise k (.var 1)] []]⟩
theorem lookM_ok {G : List D} {F : List Fn} {i k : Nat} (hF : F[i]? = some (lookMFn k)) (p : Nat) (m : Cels) (n w : Nat) (hw : w < n) : callD G F (p + 1) i [.d (.int (n : Int)), .d (.int (w : Int))] m = .ok (.d .none) m := by
  refine callD_ok hF (Nat.le_of_ble_eq_true rfl) ?_
  have h1 : (0 : Int) ≤ (w : Int) := by omega
  have h2 : (w : Int) < (n : Int) := by omega
  simp [startE, Pv.execs, Pv.exec, sem, sems, Sm.mk', Sm.g, Sm.r, Sm.c, Sm.o, getV, takeV, two2, one1, dispV, smG, smV, smA, lentOf, frzAll, frz_d, frz_own, frzArg, bindT, bindTs, dat_d, dat_own, datAll, tOf, Res.of, outcome, compV, itW, wipeE, callV, callPV, callLV, lentRes, celV, arrange, pureRes, callRes, restoreE, noLst, andV, orV, notV, andT, orT, notT, iteV, boolR, ownAt, parB, sliceV, inrV, chainV, cidxV, isEV, fldV, truth, len_list, len_tuple, tup_list, tup_tuple, lst_list, lst_tuple, toint_b, lookMFn, cmpOp, intCmp, h1, h2]
theorem lookM_exc {G : List D} {F : List Fn} {i k : Nat} (hF : F[i]? = some (lookMFn k)) (p : Nat) (m : Cels) (n : Nat) (w : Int) (hw : ¬ (0 ≤ w ∧ w < n)) : callD G F (p + 1) i [.d (.int (n : Int)), .d (.int w)] m = .exc k (.int w) m := by
  refine callD_ok hF (Nat.le_of_ble_eq_true rfl) ?_
  by_cases h1 : (0 : Int) ≤ w
  · have h2 : ¬ w < (n : Int) := fun z => hw ⟨h1, z⟩
    simp [startE, Pv.execs, Pv.exec, sem, sems, Sm.mk', Sm.g, Sm.r, Sm.c, Sm.o, getV, takeV, two2, one1, dispV, smG, smV, smA, lentOf, frzAll, frz_d, frz_own, frzArg, bindT, bindTs, dat_d, dat_own, datAll, tOf, Res.of, outcome, compV, itW, wipeE, callV, callPV, callLV, lentRes, celV, arrange, pureRes, callRes, restoreE, noLst, andV, orV, notV, andT, orT, notT, iteV, boolR, ownAt, parB, sliceV, inrV, chainV, cidxV, isEV, fldV, truth, len_list, len_tuple, tup_list, tup_tuple, lst_list, lst_tuple, toint_b, lookMFn, cmpOp, intCmp, h1, h2]
  · simp [startE, Pv.execs, Pv.exec, sem, sems, Sm.mk', Sm.g, Sm.r, Sm.c, Sm.o, getV, takeV, two2, one1, dispV, smG, smV, smA, lentOf, frzAll, frz_d, frz_own, frzArg, bindT, bindTs, dat_d, dat_own, datAll, tOf, Res.of, outcome, compV, itW, wipeE, callV, callPV, callLV, lentRes, celV, arrange, pureRes, callRes, restoreE, noLst, andV, orV, notV, andT, orT, notT, iteV, boolR, ownAt, parB, sliceV, inrV, chainV, cidxV, isEV, fldV, truth, len_list, len_tuple, tup_list, tup_tuple, lst_list, lst_tuple, toint_b, lookMFn, cmpOp, intCmp, h1]
/-! ### the bosses above a member -/
def upF (ch : Nat → Nat) : Nat → Nat → List Nat
  | 0, _ => []
  | f + 1, w => if w = 0 then [] else ch w :: upF ch f (ch w)
def up (ch : Nat → Nat) (w : Nat) : List Nat := upF ch w w
theorem upF_le {ch : Nat → Nat} {n : Nat} (hc : ∀ i, 0 < i → i < n → ch i < i) : ∀ (f w : Nat), w ≤ f → w < n → upF ch f w = upF ch w w := by
  intro f
  induction f using Nat.strongRecOn with
  | ind f ih =>
    intro w hf hw
    cases f with
    | zero =>
      have : w = 0 := by omega
      subst this; rfl
    | succ f =>
      by_cases h0 : w = 0
      · subst h0; rfl
      · obtain ⟨v, rfl⟩ : ∃ v, w = v + 1 := ⟨w - 1, by omega⟩
        have hl := hc (v + 1) (by omega) hw
        unfold upF
        rw [if_neg h0, if_neg h0]
        rw [ih f (by omega) (ch (v + 1)) (by omega) (by omega), ih v (by omega) (ch (v + 1)) (by omega) (by omega)]
theorem up_zero (ch : Nat → Nat) : up ch 0 = [] := rfl
theorem up_pos {ch : Nat → Nat} {n w : Nat} (hc : ∀ i, 0 < i → i < n → ch i < i) (h0 : 0 < w) (hw : w < n) : up ch w = ch w :: up ch (ch w) := by
  obtain ⟨v, rfl⟩ : ∃ v, w = v + 1 := ⟨w - 1, by omega⟩
  have hl := hc (v + 1) h0 hw
  show upF ch (v + 1) (v + 1) = _
  unfold upF
  rw [if_neg (by omega), upF_le hc v (ch (v + 1)) (by omega) (by omega)]
  rfl
theorem up_len {ch : Nat → Nat} : ∀ f w, (upF ch f w).length ≤ f
  | 0, _ => Nat.le_refl _
  | f + 1, w => by
    unfold upF
    split
    · exact Nat.zero_le _
    · rw [List.length_cons]
      exact Nat.succ_le_succ (up_len f _)
def upTest : X := .cmp .ne (.var 1) (.int 0)
def upBody : List S := [.asg (.v 1) (.ix (.var 0) (.var 1)), .app 2 (.var 1)]
def upLoop : S := .while 1000000 upTest upBody
theorem up_loop {G : List D} {call : Nat → List Vl → Cels → FRes} (m : Cels) {cd : D} {n : Nat} {ch : Nat → Nat} (hd : IsChart cd n ch) (hc : ∀ i, 0 < i → i < n → ch i < i) (hn : n ≤ 1000) {w : Nat} (hw : w < n) :
    ∃ x, Pv.exec G call upLoop [some (.d cd), some (.d (N w)), some (.own [])] m = .ok .nx [some (.d cd), x, some (.own ((up ch w).map N))] m := by
  have hwh := while_ok (G := G) (call := call) (n := 1000000) (c := upTest) (body := upBody)
    (fun k e m' => m' = m ∧ ∃ v pre, k = v ∧ v < n ∧ pre ++ up ch v = up ch w ∧ e = [some (.d cd), some (.d (N v)), some (.own (pre.map N))])
    (fun e m' => m' = m ∧ ∃ x, e = [some (.d cd), x, some (.own ((up ch w).map N))]) w (e := [some (.d cd), some (.d (N w)), some (.own [])]) (m := m) ⟨rfl, w, [], rfl, hw, rfl, rfl⟩ (by omega) ?_
  · obtain ⟨e', m', h1, rfl, x, rfl⟩ := hwh
    exact ⟨x, h1⟩
  · rintro k e m' ⟨rfl, v, pre, rfl, hv, hp, rfl⟩
    have hz := eqD_N0 k
    by_cases h0 : k = 0
    · subst h0
      rw [up_zero, List.append_nil] at hp
      subst hp
      refine .inl ⟨_, _, ?_, rfl, some (.d (N 0)), rfl⟩
      simp [startE, Pv.execs, Pv.exec, sem, sems, Sm.mk', Sm.g, Sm.r, Sm.c, Sm.o, getV, takeV, two2, one1, dispV, smG, smV, smA, lentOf, frzAll, frz_d, frz_own, frzArg, bindT, bindTs, dat_d, dat_own, datAll, tOf, Res.of, outcome, compV, itW, wipeE, callV, callPV, callLV, lentRes, celV, arrange, pureRes, callRes, restoreE, noLst, andV, orV, notV, andT, orT, notT, iteV, boolR, ownAt, parB, sliceV, inrV, chainV, cidxV, isEV, fldV, truth, len_list, len_tuple, tup_list, tup_tuple, lst_list, lst_tuple, toint_b, upTest, cmpOp, hz]
    · have e1 := hd.ix (i := k) (by omega) hv
      have hl := hc k (by omega) hv
      rw [up_pos hc (by omega) hv] at hp
      have hlen : (pre.map N).length < lim := by
        have h1 := congrArg List.length hp
        have h2 : (up ch w).length ≤ w := up_len w w
        rw [List.length_append] at h1
        rw [List.length_map]
        simp only [lim]
        omega
      refine .inr ⟨[some (.d cd), some (.d (N k)), some (.own (pre.map N))], m', [some (.d cd), some (.d (N (ch k))), some (.own ((pre ++ [ch k]).map N))], m', ch k, ?_, ?_, hl, rfl, ch k, pre ++ [ch k], rfl, by omega, ?_, rfl⟩
      · simp [startE, Pv.execs, Pv.exec, sem, sems, Sm.mk', Sm.g, Sm.r, Sm.c, Sm.o, getV, takeV, two2, one1, dispV, smG, smV, smA, lentOf, frzAll, frz_d, frz_own, frzArg, bindT, bindTs, dat_d, dat_own, datAll, tOf, Res.of, outcome, compV, itW, wipeE, callV, callPV, callLV, lentRes, celV, arrange, pureRes, callRes, restoreE, noLst, andV, orV, notV, andT, orT, notT, iteV, boolR, ownAt, parB, sliceV, inrV, chainV, cidxV, isEV, fldV, truth, len_list, len_tuple, tup_list, tup_tuple, lst_list, lst_tuple, toint_b, upTest, cmpOp, hz, h0]
      · have hlen' : pre.length < lim := by simpa using hlen
        simp [startE, Pv.execs, Pv.exec, sem, sems, Sm.mk', Sm.g, Sm.r, Sm.c, Sm.o, getV, takeV, two2, one1, dispV, smG, smV, smA, lentOf, frzAll, frz_d, frz_own, frzArg, bindT, bindTs, dat_d, dat_own, datAll, tOf, Res.of, outcome, compV, itW, wipeE, callV, callPV, callLV, lentRes, celV, arrange, pureRes, callRes, restoreE, noLst, andV, orV, notV, andT, orT, notT, iteV, boolR, ownAt, parB, sliceV, inrV, chainV, cidxV, isEV, fldV, truth, len_list, len_tuple, tup_list, tup_tuple, lst_list, lst_tuple, toint_b, upBody, e1, hlen', List.map_append]
      · rw [List.append_assoc]; exact hp
def chainFn (l : Nat) : Fn := ⟨3, [
  .expr (.callP l [.b1 .len (.var 0), .var 1] [.inl 0, .inl 1]),
  .asg (.v 2) (.lst []),
  upLoop,
  .ret (.b1 .totuple (.var 2))]⟩
def lchainFn : Fn := ⟨3, [
  .asg (.v 2) (.lst []),
  upLoop,
  .ret (.var 2)]⟩
section
variable {G : List D} {F : List Fn} {l k i t : Nat} {cd : D} {n : Nat} {ch : Nat → Nat}
theorem chain_spec (hF : F[i]? = some (chainFn l)) (hL : F[l]? = some (lookMFn k)) (p : Nat) (m : Cels) (hd : IsChart cd n ch) (hc : ∀ i, 0 < i → i < n → ch i < i) (hn : n ≤ 1000) {w : Nat} (hw : w < n) : callD G F (p + 2) i [.d cd, .d (N w)] m = .ok (.d (T (up ch w))) m := by
  obtain ⟨x, h1⟩ := up_loop (G := G) (call := callD G F (p + 1)) m hd hc hn hw
  have h2 : callD G F (p + 1) l [.d (.int (n : Int)), .d (.int (w : Int))] [] = .ok (.d .none) [] := lookM_ok hL p [] n w hw
  refine callD_ok hF (Nat.le_of_ble_eq_true rfl) ?_
  have h3 := hd.len
  simp [startE, Pv.execs, Pv.exec, sem, sems, Sm.mk', Sm.g, Sm.r, Sm.c, Sm.o, getV, takeV, two2, one1, dispV, smG, smV, smA, lentOf, frzAll, frz_d, frz_own, frzArg, bindT, bindTs, dat_d, dat_own, datAll, tOf, Res.of, outcome, compV, itW, wipeE, callV, callPV, callLV, lentRes, celV, arrange, pureRes, callRes, restoreE, noLst, andV, orV, notV, andT, orT, notT, iteV, boolR, ownAt, parB, sliceV, inrV, chainV, cidxV, isEV, fldV, truth, len_list, len_tuple, tup_list, tup_tuple, lst_list, lst_tuple, toint_b, chainFn, h2, h3, lim, h1, T]
theorem chain_exc (hF : F[i]? = some (chainFn l)) (hL : F[l]? = some (lookMFn k)) (p : Nat) (m : Cels) (hd : IsChart cd n ch) {w : Int} (hw : ¬ (0 ≤ w ∧ w < n)) : callD G F (p + 2) i [.d cd, .d (.int w)] m = .exc k (.int w) m := by
  have h2 : callD G F (p + 1) l [.d (.int (n : Int)), .d (.int w)] [] = .exc k (.int w) [] := lookM_exc hL p [] n w hw
  refine callD_ok hF (Nat.le_of_ble_eq_true rfl) ?_
  have h3 := hd.len
  simp [startE, Pv.execs, Pv.exec, sem, sems, Sm.mk', Sm.g, Sm.r, Sm.c, Sm.o, getV, takeV, two2, one1, dispV, smG, smV, smA, lentOf, frzAll, frz_d, frz_own, frzArg, bindT, bindTs, dat_d, dat_own, datAll, tOf, Res.of, outcome, compV, itW, wipeE, callV, callPV, callLV, lentRes, celV, arrange, pureRes, callRes, restoreE, noLst, andV, orV, notV, andT, orT, notT, iteV, boolR, ownAt, parB, sliceV, inrV, chainV, cidxV, isEV, fldV, truth, len_list, len_tuple, tup_list, tup_tuple, lst_list, lst_tuple, toint_b, chainFn, h2, h3, noLst]
theorem lchain_spec (hF : F[i]? = some lchainFn) (p : Nat) (m : Cels) (hd : IsChart cd n ch) (hc : ∀ i, 0 < i → i < n → ch i < i) (hn : n ≤ 1000) {w : Nat} (hw : w < n) : callD G F (p + 1) i [.d cd, .d (N w)] m = .ok (.own ((up ch w).map N)) m := by
  obtain ⟨x, h1⟩ := up_loop (G := G) (call := callD G F p) m hd hc hn hw
  refine callD_ok hF (Nat.le_of_ble_eq_true rfl) ?_
  simp [startE, Pv.execs, Pv.exec, sem, sems, Sm.mk', Sm.g, Sm.r, Sm.c, Sm.o, getV, takeV, two2, one1, dispV, smG, smV, smA, lentOf, frzAll, frz_d, frz_own, frzArg, bindT, bindTs, dat_d, dat_own, datAll, tOf, Res.of, outcome, compV, itW, wipeE, callV, callPV, callLV, lentRes, celV, arrange, pureRes, callRes, restoreE, noLst, andV, orV, notV, andT, orT, notT, iteV, boolR, ownAt, parB, sliceV, inrV, chainV, cidxV, isEV, fldV, truth, len_list, len_tuple, tup_list, tup_tuple, lst_list, lst_tuple, toint_b, lchainFn, lim, h1]
def teamX (c : Nat) : X := .comp (.v 2) [2] .rng1 [.b1 .len (.var 0)] (.cmp .isin (.var 1) (.callP c [.var 0, .var 2] [.inl 0, .inl 1])) (.var 2)
def teamFn (l c : Nat) : Fn := ⟨3, [
  .expr (.callP l [.b1 .len (.var 0), .var 1] [.inl 0, .inl 1]),
  .ret (.b1 .totuple (teamX c))]⟩
def under (ch : Nat → Nat) (n w : Nat) : List Nat := (List.range n).filter fun o => decide (w ∈ up ch o)
theorem team_spec (hT : F[t]? = some (teamFn l i)) (hF : F[i]? = some (chainFn l)) (hL : F[l]? = some (lookMFn k)) (p : Nat) (m : Cels) (hd : IsChart cd n ch) (hc : ∀ i, 0 < i → i < n → ch i < i) (hn : n ≤ 1000) {w : Nat} (hw : w < n) : callD G F (p + 3) t [.d cd, .d (N w)] m = .ok (.d (T (under ch n w))) m := by
  have h2 : callD G F (p + 2) l [.d (.int (n : Int)), .d (.int (w : Int))] [] = .ok (.d .none) [] := lookM_ok hL (p + 1) [] n w hw
  have h3 := hd.len
  have h4 : (sem G (callD G F (p + 2)) (teamX i)).v [some (.d cd), some (.d (N w)), none] m = .ok (.own ((under ch n w).map N)) [some (.d cd), some (.d (N w)), none] m := by
    refine comp_ok (items := (List.range n).map N) (e0 := [some (.d cd), some (.d (N w)), none]) (m0 := m) ?_ (e1 := [some (.d cd), some (.d (N w)), none]) ?_
    · have := rng1_N (show n ≤ 1000000 by omega)
      simp [startE, Pv.execs, Pv.exec, sem, sems, Sm.mk', Sm.g, Sm.r, Sm.c, Sm.o, getV, takeV, two2, one1, dispV, smG, smV, smA, lentOf, frzAll, frz_d, frz_own, frzArg, bindT, bindTs, dat_d, dat_own, datAll, tOf, Res.of, outcome, compV, itW, wipeE, callV, callPV, callLV, lentRes, celV, arrange, pureRes, callRes, restoreE, noLst, andV, orV, notV, andT, orT, notT, iteV, boolR, ownAt, parB, sliceV, inrV, chainV, cidxV, isEV, fldV, truth, len_list, len_tuple, tup_list, tup_tuple, lst_list, lst_tuple, toint_b, h3, this]
    · show compL _ _ [] [some (.d cd), some (.d (N w)), none] m = _
      rw [compL_tab (h := fun o => if (decide (w ∈ up ch o)) = true then some (N o) else none) (g := N)]
      · rw [List.nil_append, filterMap_if (fun o => decide (w ∈ up ch o))]
        rfl
      · intro o ho
        have ho' := List.mem_range.mp ho
        have e1 : callD G F (p + 2) i [.d cd, .d (.int (o : Int))] [] = .ok (.d (T (up ch o))) [] := chain_spec hF hL p [] hd hc hn ho'
        have e2 := inOp_N (seqOf_T (up ch o)) w
        by_cases hm : w ∈ up ch o
        · simp [startE, Pv.execs, Pv.exec, sem, sems, Sm.mk', Sm.g, Sm.r, Sm.c, Sm.o, getV, takeV, two2, one1, dispV, smG, smV, smA, lentOf, frzAll, frz_d, frz_own, frzArg, bindT, bindTs, dat_d, dat_own, datAll, tOf, Res.of, outcome, compV, itW, wipeE, callV, callPV, callLV, lentRes, celV, arrange, pureRes, callRes, restoreE, noLst, andV, orV, notV, andT, orT, notT, iteV, boolR, ownAt, parB, sliceV, inrV, chainV, cidxV, isEV, fldV, truth, len_list, len_tuple, tup_list, tup_tuple, lst_list, lst_tuple, toint_b, turnC, e1, e2, hm, cmpOp, noLst_T]
        · simp [startE, Pv.execs, Pv.exec, sem, sems, Sm.mk', Sm.g, Sm.r, Sm.c, Sm.o, getV, takeV, two2, one1, dispV, smG, smV, smA, lentOf, frzAll, frz_d, frz_own, frzArg, bindT, bindTs, dat_d, dat_own, datAll, tOf, Res.of, outcome, compV, itW, wipeE, callV, callPV, callLV, lentRes, celV, arrange, pureRes, callRes, restoreE, noLst, andV, orV, notV, andT, orT, notT, iteV, boolR, ownAt, parB, sliceV, inrV, chainV, cidxV, isEV, fldV, truth, len_list, len_tuple, tup_list, tup_tuple, lst_list, lst_tuple, toint_b, turnC, e1, e2, hm, cmpOp, noLst_T]
      · simp [lim]; omega
  refine callD_ok hT (Nat.le_of_ble_eq_true rfl) ?_
  simp [startE, Pv.execs, Pv.exec, sem, sems, Sm.mk', Sm.g, Sm.r, Sm.c, Sm.o, getV, takeV, two2, one1, dispV, smG, smV, smA, lentOf, frzAll, frz_d, frz_own, frzArg, bindT, bindTs, dat_d, dat_own, datAll, tOf, Res.of, outcome, compV, itW, wipeE, callV, callPV, callLV, lentRes, celV, arrange, pureRes, callRes, restoreE, noLst, andV, orV, notV, andT, orT, notT, iteV, boolR, ownAt, parB, sliceV, inrV, chainV, cidxV, isEV, fldV, truth, len_list, len_tuple, tup_list, tup_tuple, lst_list, lst_tuple, toint_b, teamFn, h2, h3, h4, T]
theorem team_exc (hT : F[t]? = some (teamFn l i)) (hL : F[l]? = some (lookMFn k)) (p : Nat) (m : Cels) (hd : IsChart cd n ch) {w : Int} (hw : ¬ (0 ≤ w ∧ w < n)) : callD G F (p + 2) t [.d cd, .d (.int w)] m = .exc k (.int w) m := by
  have h2 : callD G F (p + 1) l [.d (.int (n : Int)), .d (.int w)] [] = .exc k (.int w) [] := lookM_exc hL p [] n w hw
  refine callD_ok hT (Nat.le_of_ble_eq_true rfl) ?_
  have h3 := hd.len
  simp [startE, Pv.execs, Pv.exec, sem, sems, Sm.mk', Sm.g, Sm.r, Sm.c, Sm.o, getV, takeV, two2, one1, dispV, smG, smV, smA, lentOf, frzAll, frz_d, frz_own, frzArg, bindT, bindTs, dat_d, dat_own, datAll, tOf, Res.of, outcome, compV, itW, wipeE, callV, callPV, callLV, lentRes, celV, arrange, pureRes, callRes, restoreE, noLst, andV, orV, notV, andT, orT, notT, iteV, boolR, ownAt, parB, sliceV, inrV, chainV, cidxV, isEV, fldV, truth, len_list, len_tuple, tup_list, tup_tuple, lst_list, lst_tuple, toint_b, teamFn, h2, h3, noLst]
end
end Pv

namespace Lk03
open PySem PySem.Spec PyProof.Rows L2 Pv
def top (i : Nat) : Stmt := PySem.Challenge.pw_ladderchart_k03_chains_and_teams.main.body.getD i (.Pass ⟨0, 0, 0, 0⟩)
def sub (i j : Nat) : Stmt := (clsBody (top i)).getD j (.Pass ⟨0, 0, 0, 0⟩)
def d0 : DefP := ⟨⟨"look_member", "look_member", defArgs (top 9), defBody (top 9), defScope (top 9), ["many", "member"], ["many", "member"], none⟩, false⟩
def d1 : DefP := ⟨⟨"chain", "chain", defArgs (top 10), defBody (top 10), defScope (top 10), ["chart", "member"], ["chart", "member", "found"], none⟩, false⟩
def d2 : DefP := ⟨⟨"team", "team", defArgs (top 11), defBody (top 11), defScope (top 11), ["chart", "member"], ["chart", "member", "other"], none⟩, false⟩
def d3 : DefP := ⟨⟨"_law_source", "_law_source", defArgs (top 13), defBody (top 13), defScope (top 13), ["_law_script", "_law_index"], ["_law_script", "_law_index", "_law_cell"], none⟩, false⟩
def d4 : DefP := ⟨⟨"_law_draw", "_law_draw", defArgs (top 14), defBody (top 14), defScope (top 14), ["_law_source_here", "_law_bound"], ["_law_source_here", "_law_bound", "_law_once", "_law_found"], none⟩, false⟩
def d5 : DefP := ⟨⟨"_law_choice", "_law_choice", defArgs (top 15), defBody (top 15), defScope (top 15), ["_law_source_here", "_law_items"], ["_law_source_here", "_law_items"], none⟩, false⟩
def d6 : DefP := ⟨⟨"_law_equal", "_law_equal", defArgs (top 16), defBody (top 16), defScope (top 16), ["_law_found", "_law_due"], ["_law_found", "_law_due", "_law_lone", "_law_mate"], none⟩, false⟩
def d7 : DefP := ⟨⟨"_law_rules", "_law_rules", defArgs (top 17), defBody (top 17), defScope (top 17), ["_law_source_here", "_law_most"], ["_law_source_here", "_law_most", "_law_found", "_law_odds", "_law_who", "_law_some", "_law_chief"], none⟩, false⟩
def d8 : DefP := ⟨⟨"_law_tree", "_law_tree", defArgs (top 18), defBody (top 18), defScope (top 18), ["_law_source_here", "_law_rules_here"], ["_law_source_here", "_law_rules_here", "_law_chiefs"], none⟩, false⟩
def d9 : DefP := ⟨⟨"_law_raised", "_law_raised", defArgs (top 19), defBody (top 19), defScope (top 19), ["_law_caught"], ["_law_caught", "_law_lookup", "_law_value", "_law_runtime"], none⟩, false⟩
def d10 : DefP := ⟨⟨"_law_outcome", "_law_outcome", defArgs (top 20), defBody (top 20), defScope (top 20), ["_law_work"], ["_law_work", "_law_found", "_law_caught", "error"], none⟩, false⟩
def d11 : DefP := ⟨⟨"_law_chain", "_law_chain", defArgs (top 21), defBody (top 21), defScope (top 21), ["_law_tree_here", "_law_who"], ["_law_tree_here", "_law_who", "_law_found"], none⟩, false⟩
def d12 : DefP := ⟨⟨"_law_holds", "_law_holds", defArgs (top 22), defBody (top 22), defScope (top 22), ["_law_source_here"], ["_law_source_here", "_law_rules_here", "_law_tree_here", "_law_who", "_law_under", "_law_due", "_law_told", "_law_named", "_law_mate"], some "_law_holds.<locals>.<lambda>"⟩, false⟩
def d13 : DefP := ⟨⟨"law", "law", defArgs (top 23), defBody (top 23), defScope (top 23), ["_law_script"], ["_law_script", "_law_index", "_law_source_here", "_law_turn"], none⟩, false⟩
def ps : List DefP := [d0, d1, d2, d3, d4, d5, d6, d7, d8, d9, d10, d11, d12, d13]
/-- look_member -/
def f0 : Fn := ⟨2, [
  .ite (.not (.chain .le .lt (.int 0) (.var 1) (.var 0))) [.raise 2 (.var 1)] []]⟩
/-- chain -/
def f1 : Fn := ⟨3, [
  .expr (.callP 0 [.b1 .len (.var 0), .var 1] [.inl 0, .inl 1]),
  .asg (.v 2) (.lst []),
  .while 1000000 (.cmp .ne (.var 1) (.int 0)) [.asg (.v 1) (.ix (.var 0) (.var 1)), .app 2 (.var 1)],
  .ret (.b1 .totuple (.var 2))]⟩
/-- team -/
def f2 : Fn := ⟨3, [
  .expr (.callP 0 [.b1 .len (.var 0), .var 1] [.inl 0, .inl 1]),
  .ret (.b1 .totuple (.comp (.v 2) [2] .rng1 [.b1 .len (.var 0)] (.cmp .isin (.var 1) (.callP 1 [.var 0, .var 2] [.inl 0, .inl 1])) (.var 2)))]⟩
/-- _law_source -/
def f3 : Fn := ⟨3, [
  .asg (.v 2) (.int 0),
  .ite (.cmp .lt (.var 1) (.b1 .len (.var 0))) [.asg (.v 2) (.ix (.var 0) (.var 1))] [],
  .ret (.lst [.op .mul (.b1 .abs (.var 2)) (.b1 .toint (.cmp .ge (.b1 .abs (.var 2)) (.op .pow (.int 10) (.int 18)))), .op .mod (.op .mul (.op .add (.op .add (.op .mod (.var 2) (.int 2147483563)) (.op .mul (.int 91807) (.var 1))) (.int 53)) (.int 40111)) (.int 2147483543), .int 0])]⟩
/-- _law_draw -/
def f4 : Fn := ⟨4, [
  .ite (.cmp .gt (.ix (.var 0) (.int 0)) (.int 0)) [.asg (.v 3) (.op .mod (.ix (.var 0) (.int 0)) (.var 1)), .setIx 0 (.int 0) (.op .fdiv (.ix (.var 0) (.int 0)) (.var 1)), .ret (.var 3)] [],
  .ite (.cmp .gt (.var 1) (.op .pow (.int 10) (.int 7))) [.ret (.op .mod (.op .add (.call 4 [.var 0, .op .pow (.int 10) (.int 7)] [.inl 0, .inl 1]) (.op .mul (.op .pow (.int 10) (.int 7)) (.call 4 [.var 0, .op .add (.op .fdiv (.var 1) (.op .pow (.int 10) (.int 7))) (.int 1)] [.inl 0, .inl 1]))) (.var 1))] [],
  .setIx 0 (.int 2) (.op .add (.ix (.var 0) (.int 2)) (.int 1)),
  .asg (.v 2) (.op .mod (.op .pow (.op .add (.ix (.var 0) (.int 1)) (.op .mul (.int 57037) (.ix (.var 0) (.int 2)))) (.int 3)) (.int 2147483579)),
  .ret (.op .mod (.op .fdiv (.op .mod (.op .add (.op .mul (.var 2) (.op .add (.op .mod (.var 2) (.int 40009)) (.int 13))) (.op .mul (.ix (.var 0) (.int 2)) (.int 8111))) (.int 2147483647)) (.int 32)) (.var 1))]⟩
/-- _law_choice -/
def f5 : Fn := ⟨2, [
  .ret (.ix (.var 1) (.call 4 [.var 0, .b1 .len (.var 1)] [.inl 0, .inl 1]))]⟩
/-- _law_equal -/
def f6 : Fn := ⟨4, [
  .ite (.isi .listtuple (.var 1)) [.ite (.or (.cmp .ne (.isi .list (.var 0)) (.isi .list (.var 1))) (.cmp .ne (.isi .tuple (.var 0)) (.isi .tuple (.var 1)))) [.ret (.bl false)] [], .ret (.and (.cmp .eq (.b1 .len (.var 0)) (.b1 .len (.var 1))) (.b1 .all (.comp (.t [.v 2, .v 3]) [2, 3] .zip [.var 0, .var 1] (.omit) (.callP 6 [.var 2, .var 3] [.inl 0, .inl 1]))))] [],
  .ite (.or (.cmp .is (.var 1) (.non)) (.isi .str (.var 1))) [.ret (.and (.cmp .eq (.var 0) (.var 1)) (.cmp .eq (.isi .str (.var 0)) (.isi .str (.var 1))))] [],
  .ret (.and (.isi .int (.var 0)) (.and (.cmp .eq (.isi .bool (.var 0)) (.isi .bool (.var 1))) (.cmp .eq (.var 0) (.var 1))))]⟩
/-- _law_rules -/
def f7 : Fn := ⟨7, [
  .asg (.v 2) (.lst [.tup []]),
  .asg (.v 3) (.op .add (.int 1) (.call 4 [.var 0, .int 3] [.inl 0, .inl 1])),
  .for (.v 4) .rng2 [.int 1, .op .add (.int 1) (.call 4 [.var 0, .var 1] [.inl 0, .inl 1])] [.asg (.v 5) (.comp (.v 6) [6] .rng1 [.var 4] (.cmp .eq (.call 4 [.var 0, .var 3] [.inl 0, .inl 1]) (.int 0)) (.var 6)), .app 2 (.b1 .totuple (.ite (.cmp .ne (.var 5) (.lst [])) (.var 5) (.lst [.call 4 [.var 0, .var 4] [.inl 0, .inl 1]])))],
  .ret (.b1 .totuple (.var 2))]⟩
/-- _law_tree -/
def f8 : Fn := ⟨3, [
  .ret (.op .add (.tup [.non]) (.b1 .totuple (.comp (.v 2) [2] .seq [.sl (.var 1) (.int 1) (.omit)] (.omit) (.call 5 [.var 0, .var 2] [.inl 0, .inl 1]))))]⟩
/-- _law_raised -/
def f9 : Fn := ⟨4, [
  .asg (.v 1) (.lst [.isE [false, false, true, false, false, false, false] (.var 0), .isE [false, false, false, true, false, false, false] (.var 0)]),
  .asg (.v 2) (.lst [.isE [true, false, false, false, false, false, false] (.var 0), .isE [false, true, false, false, false, false, false] (.var 0)]),
  .asg (.v 3) (.lst [.isE [false, false, false, false, true, false, false] (.var 0), .isE [false, false, false, false, false, true, false] (.var 0), .isE [false, false, false, false, false, false, true] (.var 0)]),
  .ite (.cmp .ne (.cntT (.op .add (.op .add (.var 1) (.var 2)) (.var 3))) (.int 1)) [.ret (.str "several")] [],
  .ite (.or (.cmp .ne (.isE [false, false, true, true, false, false, false] (.var 0)) (.cmp .isin (.bl true) (.var 1))) (.cmp .ne (.isE [true, true, false, false, false, false, false] (.var 0)) (.cmp .isin (.bl true) (.var 2)))) [.ret (.str "base")] [],
  .ite (.cmp .ne (.isE [false, false, false, false, true, true, true] (.var 0)) (.cmp .isin (.bl true) (.var 3))) [.ret (.str "base")] [],
  .ite (.ix (.var 1) (.int 0)) [.ret (.tup [.str "NoMember", .fld "member" [2, 5, 6] (.var 0)])] [],
  .ite (.ix (.var 1) (.int 1)) [.ret (.tup [.str "NoChart", .fld "number" [3] (.var 0)])] [],
  .ite (.or (.ix (.var 2) (.int 0)) (.or (.ix (.var 2) (.int 1)) (.ix (.var 3) (.int 0)))) [.ret (.tup [.ite (.ix (.var 2) (.int 0)) (.str "NotAllowed") (.ite (.ix (.var 2) (.int 1)) (.str "NotSenior") (.str "NotNear")), .fld "boss" [0, 1, 4] (.var 0)])] [],
  .ret (.tup [.ite (.ix (.var 3) (.int 1)) (.str "Unreachable") (.str "Ungranted"), .fld "member" [2, 5, 6] (.var 0)])]⟩
/-- _law_outcome -/
def f10 : Fn := ⟨4, [
  .never,
  .never,
  .never]⟩
/-- _law_chain -/
def f11 : Fn := ⟨3, [
  .asg (.v 2) (.lst []),
  .while 1000000 (.cmp .ne (.var 1) (.int 0)) [.asg (.v 1) (.ix (.var 0) (.var 1)), .app 2 (.var 1)],
  .ret (.var 2)]⟩
/-- _law_holds -/
def f12 : Fn := ⟨9, [
  .asg (.v 1) (.call 7 [.var 0, .int 11] [.inl 0, .inl 1]),
  .asg (.v 2) (.call 8 [.var 0, .var 1] [.inl 0, .inl 1]),
  .for (.v 3) .rng1 [.b1 .len (.var 2)] [.asg (.v 4) (.comp (.v 8) [8] .rng1 [.b1 .len (.var 2)] (.cmp .isin (.var 3) (.callP 11 [.var 2, .var 8] [.inl 0, .inl 1])) (.var 8)), .asg (.v 5) (.lst [.b1 .totuple (.callP 11 [.var 2, .var 3] [.inl 0, .inl 1]), .b1 .totuple (.var 4)]), .asg (.v 6) (.lst [.callP 1 [.var 2, .var 3] [.inl 0, .inl 1], .callP 2 [.var 2, .var 3] [.inl 0, .inl 1]]), .asg (.v 7) (.lst [.callP 1 [.var 3, .b1 .tolist (.var 2)] [.inl 1, .inl 0], .callP 2 [.var 3, .b1 .tolist (.var 2)] [.inl 1, .inl 0]]), .ite (.not (.callP 6 [.lst [.var 6, .var 7], .lst [.var 5, .var 5]] [.inl 0, .inl 1])) [.ret (.bl false)] []],
  .for (.v 3) .seq [.tup [.neg (.int 1), .b1 .len (.var 2), .op .pow (.int 10) (.int 20)]] [.ite (.not (.callP 6 [.outc 0 "_law_holds.<locals>.<lambda>" 9 [0, 1, 2, 3, 4, 5, 6] (.callP 1 [.var 2, .var 3] [.inl 0, .inl 1]), .tup [.str "NoMember", .var 3]] [.inl 0, .inl 1])) [.ret (.bl false)] [], .ite (.not (.callP 6 [.outc 0 "_law_holds.<locals>.<lambda>" 9 [0, 1, 2, 3, 4, 5, 6] (.callP 2 [.var 2, .var 3] [.inl 0, .inl 1]), .tup [.str "NoMember", .var 3]] [.inl 0, .inl 1])) [.ret (.bl false)] []],
  .ret (.bl true)]⟩
/-- law -/
def f13 : Fn := ⟨4, [
  .for (.v 1) .rng1 [.b2 .max2 (.int 1) (.b2 .min2 (.int 3) (.b1 .len (.var 0)))] [.asg (.v 2) (.cel (.callP 3 [.var 0, .var 1] [.inl 0, .inl 1])), .ite (.not (.b1 .all (.comp (.v 3) [3] .rng1 [.int 3] (.omit) (.call 12 [.var 2] [.inl 0])))) [.ret (.bl false)] []],
  .ret (.bl true)]⟩
def F : List Fn := [f0, f1, f2, f3, f4, f5, f6, f7, f8, f9, f10, f11, f12, f13]
def bl : List Str := ["ValueError", "LookupError", "RuntimeError", "len", "tuple", "range", "abs", "int", "isinstance", "list", "all", "zip", "str", "bool", "max", "min"]
def gs : List (Str × D) := []
def G : List D := gs.map (·.2)
def r0 : Pv.Row := ⟨0, 2, [], [.inl 0, .inl 1]⟩
def r1 : Pv.Row := ⟨1, 2, [], [.inl 0, .inl 1]⟩
def r2 : Pv.Row := ⟨4, 2, [], [.inl 0, .inl 1]⟩
def r3 : Pv.Row := ⟨6, 2, [], [.inl 0, .inl 1]⟩
def r4 : Pv.Row := ⟨5, 2, [], [.inl 0, .inl 1]⟩
def r5 : Pv.Row := ⟨7, 2, [], [.inl 0, .inl 1]⟩
def r6 : Pv.Row := ⟨8, 2, [], [.inl 0, .inl 1]⟩
def r7 : Pv.Row := ⟨11, 2, [], [.inl 0, .inl 1]⟩
def r8 : Pv.Row := ⟨2, 2, [], [.inl 0, .inl 1]⟩
def r9 : Pv.Row := ⟨1, 0, ["member", "chart"], [.inl 1, .inl 0]⟩
def r10 : Pv.Row := ⟨2, 0, ["member", "chart"], [.inl 1, .inl 0]⟩
def r11 : Pv.Row := ⟨3, 2, [], [.inl 0, .inl 1]⟩
def r12 : Pv.Row := ⟨12, 1, [], [.inl 0]⟩
def rows : List Pv.Row := [r0, r1, r2, r3, r4, r5, r6, r7, r8, r9, r10, r11, r12]
theorem rw0 : RowB d0 r0 := fun kV doc pm an cdv ct us ws h1 h2 => match us, ws, h1, h2 with
  | [_, _], [], _, _ => rfl
theorem rw1 : RowB d1 r1 := fun kV doc pm an cdv ct us ws h1 h2 => match us, ws, h1, h2 with
  | [_, _], [], _, _ => rfl
theorem rw2 : RowB d4 r2 := fun kV doc pm an cdv ct us ws h1 h2 => match us, ws, h1, h2 with
  | [_, _], [], _, _ => rfl
theorem rw3 : RowB d6 r3 := fun kV doc pm an cdv ct us ws h1 h2 => match us, ws, h1, h2 with
  | [_, _], [], _, _ => rfl
theorem rw4 : RowB d5 r4 := fun kV doc pm an cdv ct us ws h1 h2 => match us, ws, h1, h2 with
  | [_, _], [], _, _ => rfl
theorem rw5 : RowB d7 r5 := fun kV doc pm an cdv ct us ws h1 h2 => match us, ws, h1, h2 with
  | [_, _], [], _, _ => rfl
theorem rw6 : RowB d8 r6 := fun kV doc pm an cdv ct us ws h1 h2 => match us, ws, h1, h2 with
  | [_, _], [], _, _ => rfl
theorem rw7 : RowB d11 r7 := fun kV doc pm an cdv ct us ws h1 h2 => match us, ws, h1, h2 with
  | [_, _], [], _, _ => rfl
theorem rw8 : RowB d2 r8 := fun kV doc pm an cdv ct us ws h1 h2 => match us, ws, h1, h2 with
  | [_, _], [], _, _ => rfl
theorem rw9 : RowB d1 r9 := fun kV doc pm an cdv ct us ws h1 h2 => match us, ws, h1, h2 with
  | [], [_, _], _, _ => rfl
theorem rw10 : RowB d2 r10 := fun kV doc pm an cdv ct us ws h1 h2 => match us, ws, h1, h2 with
  | [], [_, _], _, _ => rfl
theorem rw11 : RowB d3 r11 := fun kV doc pm an cdv ct us ws h1 h2 => match us, ws, h1, h2 with
  | [_, _], [], _, _ => rfl
theorem rw12 : RowB d12 r12 := fun kV doc pm an cdv ct us ws h1 h2 => match us, ws, h1, h2 with
  | [_], [], _, _ => rfl
def e0 : EcD := ⟨"NotAllowed", "ValueError", "boss", "NotAllowed.__init__", defArgs (sub 1 0), defBody (sub 1 0), defScope (sub 1 0)⟩
def e1 : EcD := ⟨"NotSenior", "ValueError", "boss", "NotSenior.__init__", defArgs (sub 2 0), defBody (sub 2 0), defScope (sub 2 0)⟩
def e2 : EcD := ⟨"NoMember", "LookupError", "member", "NoMember.__init__", defArgs (sub 3 0), defBody (sub 3 0), defScope (sub 3 0)⟩
def e3 : EcD := ⟨"NoChart", "LookupError", "number", "NoChart.__init__", defArgs (sub 4 0), defBody (sub 4 0), defScope (sub 4 0)⟩
def e4 : EcD := ⟨"NotNear", "RuntimeError", "boss", "NotNear.__init__", defArgs (sub 5 0), defBody (sub 5 0), defScope (sub 5 0)⟩
def e5 : EcD := ⟨"Unreachable", "RuntimeError", "member", "Unreachable.__init__", defArgs (sub 6 0), defBody (sub 6 0), defScope (sub 6 0)⟩
def e6 : EcD := ⟨"Ungranted", "RuntimeError", "member", "Ungranted.__init__", defArgs (sub 7 0), defBody (sub 7 0), defScope (sub 7 0)⟩
def o0 : OcD := ⟨"_law_outcome", 10, 9, [0, 1, 2, 3, 4, 5, 6], "_law_work", "_law_found", "_law_caught", "error", "_law_raised", ["NoChart", "NoMember", "NotAllowed", "NotNear", "NotSenior", "Ungranted", "Unreachable"]⟩
def xt : XtD := ⟨[e0, e1, e2, e3, e4, e5, e6], [("NoMember", [false, false, true, false, false, false, false]), ("NoChart", [false, false, false, true, false, false, false]), ("NotAllowed", [true, false, false, false, false, false, false]), ("NotSenior", [false, true, false, false, false, false, false]), ("NotNear", [false, false, false, false, true, false, false]), ("Unreachable", [false, false, false, false, false, true, false]), ("Ungranted", [false, false, false, false, false, false, true]), ("LookupError", [false, false, true, true, false, false, false]), ("ValueError", [true, true, false, false, false, false, false]), ("RuntimeError", [false, false, false, false, true, true, true])], [("member", [2, 5, 6]), ("number", [3]), ("boss", [0, 1, 4])], [o0], [("_law_holds", "_law_holds.<locals>.<lambda>")]⟩
abbrev sta (d : DefP) : Sta := staOf d.d bl (rows.map (Pv.Row.callT ps)) gs xt.exT
theorem ec0 : EcS e0 where
  shape := ⟨_, _, _, _, _, _, _, _, _, _, _, _, rfl, fun env => ⟨_, rfl⟩⟩
  sc := scB_ok (d := ⟨"", "", defArgs (sub 1 0), [], defScope (sub 1 0), ["self", "boss"], ["self", "boss"], none⟩) (by decide +kernel)
  gB := by decide +kernel
  vs := by decide +kernel
  vf := by decide +kernel
  pf := ⟨by decide, by decide⟩
  bind := fun _ _ _ _ _ _ us hl => match us, hl with
    | [_, _], _ => rfl
theorem ec1 : EcS e1 where
  shape := ⟨_, _, _, _, _, _, _, _, _, _, _, _, rfl, fun env => ⟨_, rfl⟩⟩
  sc := scB_ok (d := ⟨"", "", defArgs (sub 2 0), [], defScope (sub 2 0), ["self", "boss"], ["self", "boss"], none⟩) (by decide +kernel)
  gB := by decide +kernel
  vs := by decide +kernel
  vf := by decide +kernel
  pf := ⟨by decide, by decide⟩
  bind := fun _ _ _ _ _ _ us hl => match us, hl with
    | [_, _], _ => rfl
theorem ec2 : EcS e2 where
  shape := ⟨_, _, _, _, _, _, _, _, _, _, _, _, rfl, fun env => ⟨_, rfl⟩⟩
  sc := scB_ok (d := ⟨"", "", defArgs (sub 3 0), [], defScope (sub 3 0), ["self", "member"], ["self", "member"], none⟩) (by decide +kernel)
  gB := by decide +kernel
  vs := by decide +kernel
  vf := by decide +kernel
  pf := ⟨by decide, by decide⟩
  bind := fun _ _ _ _ _ _ us hl => match us, hl with
    | [_, _], _ => rfl
theorem ec3 : EcS e3 where
  shape := ⟨_, _, _, _, _, _, _, _, _, _, _, _, rfl, fun env => ⟨_, rfl⟩⟩
  sc := scB_ok (d := ⟨"", "", defArgs (sub 4 0), [], defScope (sub 4 0), ["self", "number"], ["self", "number"], none⟩) (by decide +kernel)
  gB := by decide +kernel
  vs := by decide +kernel
  vf := by decide +kernel
  pf := ⟨by decide, by decide⟩
  bind := fun _ _ _ _ _ _ us hl => match us, hl with
    | [_, _], _ => rfl
theorem ec4 : EcS e4 where
  shape := ⟨_, _, _, _, _, _, _, _, _, _, _, _, rfl, fun env => ⟨_, rfl⟩⟩
  sc := scB_ok (d := ⟨"", "", defArgs (sub 5 0), [], defScope (sub 5 0), ["self", "boss"], ["self", "boss"], none⟩) (by decide +kernel)
  gB := by decide +kernel
  vs := by decide +kernel
  vf := by decide +kernel
  pf := ⟨by decide, by decide⟩
  bind := fun _ _ _ _ _ _ us hl => match us, hl with
    | [_, _], _ => rfl
theorem ec5 : EcS e5 where
  shape := ⟨_, _, _, _, _, _, _, _, _, _, _, _, rfl, fun env => ⟨_, rfl⟩⟩
  sc := scB_ok (d := ⟨"", "", defArgs (sub 6 0), [], defScope (sub 6 0), ["self", "member"], ["self", "member"], none⟩) (by decide +kernel)
  gB := by decide +kernel
  vs := by decide +kernel
  vf := by decide +kernel
  pf := ⟨by decide, by decide⟩
  bind := fun _ _ _ _ _ _ us hl => match us, hl with
    | [_, _], _ => rfl
theorem ec6 : EcS e6 where
  shape := ⟨_, _, _, _, _, _, _, _, _, _, _, _, rfl, fun env => ⟨_, rfl⟩⟩
  sc := scB_ok (d := ⟨"", "", defArgs (sub 7 0), [], defScope (sub 7 0), ["self", "member"], ["self", "member"], none⟩) (by decide +kernel)
  gB := by decide +kernel
  vs := by decide +kernel
  vf := by decide +kernel
  pf := ⟨by decide, by decide⟩
  bind := fun _ _ _ _ _ _ us hl => match us, hl with
    | [_, _], _ => rfl
theorem oc0 : OcS ps xt o0 := ⟨⟨d10, d9, "_law_caught", _, rfl, ⟨rfl, rfl, rfl, rfl, rfl⟩, out_mk rfl rfl, .cons ⟨_, rfl⟩ (.cons ⟨_, rfl⟩ (.cons ⟨_, rfl⟩ (.cons ⟨_, rfl⟩ (.cons ⟨_, rfl⟩ (.cons ⟨_, rfl⟩ (.cons ⟨_, rfl⟩ (.nil))))))), ⟨by decide +kernel, by decide +kernel, by decide +kernel, by decide +kernel⟩, ⟨⟨by decide, by decide⟩, ⟨by decide, by decide⟩, ⟨by decide, by decide⟩, ⟨by decide, by decide⟩⟩, ⟨by decide +kernel, by decide⟩, ⟨by decide +kernel, by decide⟩, rfl, ⟨rfl, rfl, rfl⟩, (fun _ _ _ _ _ _ us hl => match us, hl with
    | [_], _ => rfl), fun _ _ _ _ _ _ us hl => match us, hl with
    | [_], _ => rfl⟩⟩
theorem chk0 : chkSs (sta d0) f0.body d0.d.body = true := by decide +kernel
theorem chk1 : chkSs (sta d1) f1.body d1.d.body = true := by decide +kernel
theorem chk2 : chkSs (sta d2) f2.body d2.d.body = true := by decide +kernel
theorem chk3 : chkSs (sta d3) f3.body d3.d.body = true := by decide +kernel
theorem chk4 : chkSs (sta d4) f4.body d4.d.body = true := by decide +kernel
theorem chk5 : chkSs (sta d5) f5.body d5.d.body = true := by decide +kernel
theorem chk6 : chkSs (sta d6) f6.body d6.d.body = true := by decide +kernel
theorem chk7 : chkSs (sta d7) f7.body d7.d.body = true := by decide +kernel
theorem chk8 : chkSs (sta d8) f8.body d8.d.body = true := by decide +kernel
theorem chk9 : chkSs (sta d9) f9.body d9.d.body = true := by decide +kernel
theorem chk10 : chkSs (sta d10) f10.body d10.d.body = true := by decide +kernel
theorem chk11 : chkSs (sta d11) f11.body d11.d.body = true := by decide +kernel
theorem chk12 : chkSs (sta d12) f12.body d12.d.body = true := by decide +kernel
theorem chk13 : chkSs (sta d13) f13.body d13.d.body = true := by decide +kernel
theorem facts : Facts ps F bl rows gs xt where
  gk := by decide +kernel
  es := List.forall_mem_cons.mpr ⟨⟨ec0, by decide, by decide⟩, List.forall_mem_cons.mpr ⟨⟨ec1, by decide, by decide⟩, List.forall_mem_cons.mpr ⟨⟨ec2, by decide, by decide⟩, List.forall_mem_cons.mpr ⟨⟨ec3, by decide, by decide⟩, List.forall_mem_cons.mpr ⟨⟨ec4, by decide, by decide⟩, List.forall_mem_cons.mpr ⟨⟨ec5, by decide, by decide⟩, List.forall_mem_cons.mpr ⟨⟨ec6, by decide, by decide⟩, (fun _ h => nomatch h)⟩⟩⟩⟩⟩⟩⟩
  isn := by decide
  fl := by decide
  oc := List.forall_mem_cons.mpr ⟨oc0, (fun _ h => nomatch h)⟩
  mkr := fun f p q hp hq => match f, hp, hq with
    | 0, hp, hq => by cases hp; cases hq
    | 1, hp, hq => by cases hp; cases hq
    | 2, hp, hq => by cases hp; cases hq
    | 3, hp, hq => by cases hp; cases hq
    | 4, hp, hq => by cases hp; cases hq
    | 5, hp, hq => by cases hp; cases hq
    | 6, hp, hq => by cases hp; cases hq
    | 7, hp, hq => by cases hp; cases hq
    | 8, hp, hq => by cases hp; cases hq
    | 9, hp, hq => by cases hp; cases hq
    | 10, hp, hq => by cases hp; cases hq
    | 11, hp, hq => by cases hp; cases hq
    | 12, hp, hq => by cases hp; cases hq; exact ⟨by decide, 0, rfl⟩
    | 13, hp, hq => by cases hp; cases hq
    | n + 14, hp, hq => nomatch hp
  mn := by decide
  sc := by decide +kernel
  rw_ := List.forall_mem_cons.mpr ⟨⟨d0, rfl, rw0, rfl⟩, List.forall_mem_cons.mpr ⟨⟨d1, rfl, rw1, rfl⟩, List.forall_mem_cons.mpr ⟨⟨d4, rfl, rw2, rfl⟩, List.forall_mem_cons.mpr ⟨⟨d6, rfl, rw3, rfl⟩, List.forall_mem_cons.mpr ⟨⟨d5, rfl, rw4, rfl⟩, List.forall_mem_cons.mpr ⟨⟨d7, rfl, rw5, rfl⟩, List.forall_mem_cons.mpr ⟨⟨d8, rfl, rw6, rfl⟩, List.forall_mem_cons.mpr ⟨⟨d11, rfl, rw7, rfl⟩, List.forall_mem_cons.mpr ⟨⟨d2, rfl, rw8, rfl⟩, List.forall_mem_cons.mpr ⟨⟨d1, rfl, rw9, rfl⟩, List.forall_mem_cons.mpr ⟨⟨d2, rfl, rw10, rfl⟩, List.forall_mem_cons.mpr ⟨⟨d3, rfl, rw11, rfl⟩, List.forall_mem_cons.mpr ⟨⟨d12, rfl, rw12, rfl⟩, (fun _ h => nomatch h)⟩⟩⟩⟩⟩⟩⟩⟩⟩⟩⟩⟩⟩
  chk := fun f p fn hp hf => match f, hp, hf with
    | 0, hp, hf => by cases hp; cases hf; exact ⟨rfl, chk0⟩
    | 1, hp, hf => by cases hp; cases hf; exact ⟨rfl, chk1⟩
    | 2, hp, hf => by cases hp; cases hf; exact ⟨rfl, chk2⟩
    | 3, hp, hf => by cases hp; cases hf; exact ⟨rfl, chk3⟩
    | 4, hp, hf => by cases hp; cases hf; exact ⟨rfl, chk4⟩
    | 5, hp, hf => by cases hp; cases hf; exact ⟨rfl, chk5⟩
    | 6, hp, hf => by cases hp; cases hf; exact ⟨rfl, chk6⟩
    | 7, hp, hf => by cases hp; cases hf; exact ⟨rfl, chk7⟩
    | 8, hp, hf => by cases hp; cases hf; exact ⟨rfl, chk8⟩
    | 9, hp, hf => by cases hp; cases hf; exact ⟨rfl, chk9⟩
    | 10, hp, hf => by cases hp; cases hf; exact ⟨rfl, chk10⟩
    | 11, hp, hf => by cases hp; cases hf; exact ⟨rfl, chk11⟩
    | 12, hp, hf => by cases hp; cases hf; exact ⟨rfl, chk12⟩
    | 13, hp, hf => by cases hp; cases hf; exact ⟨rfl, chk13⟩
    | n + 14, hp, hf => nomatch hp
def loose0 : List Str := ["__name__", "NotAllowed", "NotSenior", "NoMember", "NoChart", "NotNear", "Unreachable", "Ungranted", "look_member", "chain", "team", "_law_source", "_law_draw", "_law_choice", "_law_equal"]
def loose1 : List Str := ["_law_rules", "_law_tree", "_law_raised", "_law_outcome", "_law_chain", "_law_holds"]
def loose : List Str := loose0 ++ loose1
abbrev R : PySem.W.OpenRow := PySem.W.OpenLaw.row PySem.Challenge.rw_ladderchart_k03_chains_and_teams
abbrev hk : PySem.W.Hook := hookP 5 (facA ps bl gs xt) (fnA ps xt) (tsA ps) bl xt
def ob (s : PySem.W.SharedT) : He.AlD := obsPG 5 (facA ps bl gs xt) (fnA ps xt) (tsA ps) bl xt (HandSHeadRun.getT s)
theorem ob_eq (s : PySem.W.SharedT) : ob s = hk.obs s.abs := obsPG_eq (HandSHeadRun.getT_eq s)
theorem run (w : World) : HandSHeadRun.RunEq R (PySem.W.view R.prog [23]) hk ob 4000 loose w := by
  intro os
  kernel_rfl
/-- the law, from the evaluator's answer -/
def Main : Prop := ∀ ns : List Int, ns.length ≤ 63 → ∃ m', callD G F 60 13 [.d (.list (ns.map PyData.int))] (tabsOf xt) = .ok (.d (.bool true)) m'
end Lk03
open PySem PySem.W PySem.Calls PyProof.Rows in
theorem Lk03.holds (main : Lk03.Main) : PySem.Challenge.rw_ladderchart_k03_chains_and_teams.Holds := by
  w_on; o_law
  refine HandSHeadRun.head_any (r := OpenLaw.row PySem.Challenge.rw_ladderchart_k03_chains_and_teams) (q := view (OpenLaw.row PySem.Challenge.rw_ladderchart_k03_chains_and_teams).prog [23]) (H := Lk03.hk) (ob := Lk03.ob) (M := 4000) (loose := Lk03.loose) (d := HandSHeadRun.topDef (OpenLaw.row PySem.Challenge.rw_ladderchart_k03_chains_and_teams).prog 23) (kwd := []) Lk03.ob_eq
    (by kernel_rfl) (fun s => by kernel_rfl) Lk03.run (by kernel_rfl) (by kernel_rfl) (by kernel_rfl) (by rfl) (by first | assumption | decide +kernel) (by decide +kernel) ⟨rfl, rfl, rfl, rfl, rfl, by decide +kernel⟩ ?hw ?hc
  case hw => w_witness2
  case hc => exact Pv.law_walk (l := PySem.Challenge.rw_ladderchart_k03_chains_and_teams) (n := 60) (N := 63) (x := "_law_script") Lk03.facts (fL := 13) (pL := Lk03.d13) rfl rfl rfl (fun _ _ _ _ _ _ us hl => match us, hl with | [_], _ => rfl) (by kernel_rfl) rfl (by decide) (by kernel_rfl) ⟨rfl, by decide, by decide⟩ main

namespace Lk03
open PySem Pv
def q0 : Str := "_law_holds.<locals>.<lambda>"
theorem sml_T (n : Nat) (l : List Nat) (h : l.length ≤ 1000) : sml (n + 1) (T l) = true := by
  show (decide ((l.map N).length ≤ lim) && smlAll n (l.map N)) = true
  rw [List.length_map, decide_eq_true (by simp [lim]; omega), Bool.true_and]
  exact smlAll_map n N _ fun x _ => sml_N n x
def underX : X := .comp (.v 8) [8] .rng1 [.b1 .len (.var 2)] (.cmp .isin (.var 3) (.callP 11 [.var 2, .var 8] [.inl 0, .inl 1])) (.var 8)
def outX (f : Nat) : X := .outc 0 "_law_holds.<locals>.<lambda>" 9 [0, 1, 2, 3, 4, 5, 6] (.callP f [.var 2, .var 3] [.inl 0, .inl 1])
def body1 : List S := [.asg (.v 4) underX, .asg (.v 5) (.lst [.b1 .totuple (.callP 11 [.var 2, .var 3] [.inl 0, .inl 1]), .b1 .totuple (.var 4)]), .asg (.v 6) (.lst [.callP 1 [.var 2, .var 3] [.inl 0, .inl 1], .callP 2 [.var 2, .var 3] [.inl 0, .inl 1]]), .asg (.v 7) (.lst [.callP 1 [.var 3, .b1 .tolist (.var 2)] [.inl 1, .inl 0], .callP 2 [.var 3, .b1 .tolist (.var 2)] [.inl 1, .inl 0]]), .ite (.not (.callP 6 [.lst [.var 6, .var 7], .lst [.var 5, .var 5]] [.inl 0, .inl 1])) [.ret (.bl false)] []]
def loop1 : S := .for (.v 3) .rng1 [.b1 .len (.var 2)] body1
def body2 : List S := [.ite (.not (.callP 6 [outX 1, .tup [.str "NoMember", .var 3]] [.inl 0, .inl 1])) [.ret (.bl false)] [], .ite (.not (.callP 6 [outX 2, .tup [.str "NoMember", .var 3]] [.inl 0, .inl 1])) [.ret (.bl false)] []]
def loop2 : S := .for (.v 3) .seq [.tup [.neg (.int 1), .b1 .len (.var 2), .op .pow (.int 10) (.int 20)]] body2
theorem und_ok {n : Nat} {ch : Nat → Nat} (hn : n ≤ 1000) (hc : ∀ i, 0 < i → i < n → ch i < i) {w : Nat} (hw : w < n) (a b x4 x5 x6 x7 : Option Vl) (m : Cels) :
    (sem G (callD G F 58) underX).v [a, b, some (.d (chartD n ch)), some (.d (N w)), x4, x5, x6, x7, none] m = .ok (.own ((under ch n w).map N)) [a, b, some (.d (chartD n ch)), some (.d (N w)), x4, x5, x6, x7, none] m := by
  have h3 := (chartD_is n ch).len
  refine comp_ok (items := (List.range n).map N) (e0 := [a, b, some (.d (chartD n ch)), some (.d (N w)), x4, x5, x6, x7, none]) (m0 := m) ?_ (e1 := [a, b, some (.d (chartD n ch)), some (.d (N w)), x4, x5, x6, x7, none]) ?_
  · have := rng1_N (show n ≤ 1000000 by omega)
    simp [startE, Pv.execs, Pv.exec, sem, sems, Sm.mk', Sm.g, Sm.r, Sm.c, Sm.o, getV, takeV, two2, one1, dispV, smG, smV, smA, lentOf, frzAll, frz_d, frz_own, frzArg, bindT, bindTs, dat_d, dat_own, datAll, tOf, Res.of, outcome, compV, itW, wipeE, callV, callPV, callLV, lentRes, celV, arrange, pureRes, callRes, restoreE, noLst, andV, orV, notV, andT, orT, notT, iteV, boolR, ownAt, parB, sliceV, inrV, chainV, cidxV, isEV, fldV, truth, len_list, len_tuple, tup_list, tup_tuple, lst_list, lst_tuple, toint_b, h3, this]
  · show compL _ _ [] [a, b, some (.d (chartD n ch)), some (.d (N w)), x4, x5, x6, x7, none] m = _
    rw [compL_tab (h := fun o => if (decide (w ∈ up ch o)) = true then some (N o) else none) (g := N)]
    · rw [List.nil_append, filterMap_if (fun o => decide (w ∈ up ch o))]
      rfl
    · intro o ho
      have ho' := List.mem_range.mp ho
      have e1 : callD G F 58 11 [.d (chartD n ch), .d (.int (o : Int))] [] = .ok (.own ((up ch o).map N)) [] := lchain_spec (F := F) (i := 11) rfl 57 [] (chartD_is n ch) hc hn ho'
      have e2 := inOp_N (d := .list ((up ch o).map N)) rfl w
      have e3 : noLstAll ((up ch o).map N) = true := noLst_T (up ch o)
      by_cases hm : w ∈ up ch o
      · simp [startE, Pv.execs, Pv.exec, sem, sems, Sm.mk', Sm.g, Sm.r, Sm.c, Sm.o, getV, takeV, two2, one1, dispV, smG, smV, smA, lentOf, frzAll, frz_d, frz_own, frzArg, bindT, bindTs, dat_d, dat_own, datAll, tOf, Res.of, outcome, compV, itW, wipeE, callV, callPV, callLV, lentRes, celV, arrange, pureRes, callRes, restoreE, noLst, andV, orV, notV, andT, orT, notT, iteV, boolR, ownAt, parB, sliceV, inrV, chainV, cidxV, isEV, fldV, truth, len_list, len_tuple, tup_list, tup_tuple, lst_list, lst_tuple, toint_b, turnC, e1, e2, e3, hm, cmpOp]
      · simp [startE, Pv.execs, Pv.exec, sem, sems, Sm.mk', Sm.g, Sm.r, Sm.c, Sm.o, getV, takeV, two2, one1, dispV, smG, smV, smA, lentOf, frzAll, frz_d, frz_own, frzArg, bindT, bindTs, dat_d, dat_own, datAll, tOf, Res.of, outcome, compV, itW, wipeE, callV, callPV, callLV, lentRes, celV, arrange, pureRes, callRes, restoreE, noLst, andV, orV, notV, andT, orT, notT, iteV, boolR, ownAt, parB, sliceV, inrV, chainV, cidxV, isEV, fldV, truth, len_list, len_tuple, tup_list, tup_tuple, lst_list, lst_tuple, toint_b, turnC, e1, e2, e3, hm, cmpOp]
    · simp [lim]; omega
theorem out_ok {n : Nat} {ch : Nat → Nat} {z : Int} (hz : ¬ (0 ≤ z ∧ z < n)) {m : Cels} (h0 : m[0]? = some (.tbl q0)) (f : Nat) (hf : f = 1 ∨ f = 2) (a b x4 x5 x6 x7 : Option Vl) :
    (sem G (callD G F 58) (outX f)).v [a, b, some (.d (chartD n ch)), some (.d (.int z)), x4, x5, x6, x7, none] m = .ok (.d (.tuple [.str "NoMember", .int z])) [a, b, some (.d (chartD n ch)), some (.d (.int z)), x4, x5, x6, x7, none] m := by
  have hr : callD G F 58 9 [.cell m.length] (m ++ [.exn 2 (.int z)]) = .ok (.d (.tuple [.str "NoMember", .int z])) (m ++ [.exn 2 (.int z)]) := raised_spec (F := F) (r := 9) rfl 57 m.length 2 _ (.int z) (by decide) (by simp)
  have hc : callD G F 58 f [.d (chartD n ch), .d (.int z)] [] = .exc 2 (.int z) [] := by
    rcases hf with rfl | rfl
    · exact chain_exc (F := F) (i := 1) (l := 0) rfl rfl 56 [] (chartD_is n ch) hz
    · exact team_exc (F := F) (t := 2) (l := 0) rfl rfl 56 [] (chartD_is n ch) hz
  refine outc_exc (k := 2) (f := .int z) h0 rfl ?_ (by decide) hr
  simp [startE, Pv.execs, Pv.exec, sem, sems, Sm.mk', Sm.g, Sm.r, Sm.c, Sm.o, getV, takeV, two2, one1, dispV, smG, smV, smA, lentOf, frzAll, frz_d, frz_own, frzArg, bindT, bindTs, dat_d, dat_own, datAll, tOf, Res.of, outcome, compV, itW, wipeE, callV, callPV, callLV, lentRes, celV, arrange, pureRes, callRes, restoreE, noLst, andV, orV, notV, andT, orT, notT, iteV, boolR, ownAt, parB, sliceV, inrV, chainV, cidxV, isEV, fldV, truth, len_list, len_tuple, tup_list, tup_tuple, lst_list, lst_tuple, toint_b, hc, noLst]
theorem holds_ok : ∀ B m k, Src m k (B + 1000) → m[0]? = some (.tbl q0) → ∃ m', callD G F 59 12 [.cell k] m = .ok (.d (.bool true)) m' ∧ Src m' k B := by
  intro B m k hs h0
  obtain ⟨n, R, m1, h1, g, hn, hs1⟩ := rules_spec (G := G) (F := F) (i := 4) (f := 7) rfl rfl 56 k (B + 500) m 11 (by omega) (by omega) hs
  obtain ⟨ch, m2, h2, c, hs2⟩ := tree_spec (G := G) (F := F) (i := 4) (f := 8) (c := 5) rfl rfl rfl 55 k B m1 g (by omega) (hs1.mono (by omega))
  have t2 : m2[0]? = some (.tbl q0) := tbl_call h2 (tbl_call h1 h0)
  have hc : ∀ i, 0 < i → i < n → ch i < i := fun i h1 h2 => g.lt i h2 _ (c i h1 h2)
  refine ⟨m2, ?_, hs2⟩
  have h1' : callD G F 58 7 [.cell k, .d (.int 11)] m = .ok (.d (rowsD n R)) m1 := h1
  have h2' : callD G F 58 8 [.cell k, .d (rowsD n R)] m1 = .ok (.d (chartD n ch)) m2 := h2
  have hlen : b1Op .len (chartD n ch) = some (.d (.int n)) := (chartD_is n ch).len
  have hp1 := for_ok (G := G) (call := callD G F 58) (t := .v 3) (k := .rng1) (as := [.b1 .len (.var 2)]) (body := body1)
    (fun j e m => m = m2 ∧ ∃ x3 x4 x5 x6 x7, e = [some (.cell k), some (.d (rowsD n R)), some (.d (chartD n ch)), x3, x4, x5, x6, x7, none])
    (e := [some (.cell k), some (.d (rowsD n R)), some (.d (chartD n ch)), none, none, none, none, none, none]) (e0 := [some (.cell k), some (.d (rowsD n R)), some (.d (chartD n ch)), none, none, none, none, none, none]) (m := m2) (m0 := m2) (items := (List.range n).map N) ?hi ⟨rfl, none, none, none, none, none, rfl⟩ ?hs
  case hi => simp [startE, Pv.execs, Pv.exec, sem, sems, Sm.mk', Sm.g, Sm.r, Sm.c, Sm.o, getV, takeV, two2, one1, dispV, smG, smV, smA, lentOf, frzAll, frz_d, frz_own, frzArg, bindT, bindTs, dat_d, dat_own, datAll, tOf, Res.of, outcome, compV, itW, wipeE, callV, callPV, callLV, lentRes, celV, arrange, pureRes, callRes, restoreE, noLst, andV, orV, notV, andT, orT, notT, iteV, boolR, ownAt, parB, sliceV, inrV, chainV, cidxV, isEV, fldV, truth, len_list, len_tuple, tup_list, tup_tuple, lst_list, lst_tuple, toint_b, hlen, rng1_N (show n ≤ 1000000 by omega)]
  case hs =>
    rintro j x e m' hx ⟨rfl, x3, x4, x5, x6, x7, rfl⟩
    obtain ⟨w, hw, rfl⟩ := itemM hx
    have hw' : w < n := List.mem_range.mp (List.mem_of_getElem? hw)
    refine ⟨_, rfl, ?_⟩
    have e1 := und_ok (n := n) (ch := ch) (by omega) hc hw' (some (.cell k)) (some (.d (rowsD n R))) x4 x5 x6 x7 m'
    have e2 : callD G F 58 11 [.d (chartD n ch), .d (.int (w : Int))] [] = .ok (.own ((up ch w).map N)) [] := lchain_spec (F := F) (i := 11) rfl 57 [] (chartD_is n ch) hc (by omega) hw'
    have e3 : callD G F 58 1 [.d (chartD n ch), .d (.int (w : Int))] [] = .ok (.d (T (up ch w))) [] := chain_spec (F := F) (i := 1) (l := 0) rfl rfl 56 [] (chartD_is n ch) hc (by omega) hw'
    have e4 : callD G F 58 2 [.d (chartD n ch), .d (.int (w : Int))] [] = .ok (.d (T (under ch n w))) [] := team_spec (F := F) (t := 2) (i := 1) (l := 0) rfl rfl rfl 55 [] (chartD_is n ch) hc (by omega) hw'
    have v0 : (sem G (callD G F 58) underX).var = none := rfl
    have ic : IsChart (.list (tab n (cg ch))) n ch := rfl
    have e5 : callD G F 58 1 [.d (.list (tab n (cg ch))), .d (.int (w : Int))] [] = .ok (.d (T (up ch w))) [] := chain_spec (F := F) (i := 1) (l := 0) rfl rfl 56 [] ic hc (by omega) hw'
    have e6 : callD G F 58 2 [.d (.list (tab n (cg ch))), .d (.int (w : Int))] [] = .ok (.d (T (under ch n w))) [] := team_spec (F := F) (t := 2) (i := 1) (l := 0) rfl rfl rfl 55 [] ic hc (by omega) hw'
    have ht : b1Op .tolist (chartD n ch) = some (.own (tab n (cg ch))) := rfl
    have l1 : (up ch w).length ≤ 1000 := by have : (up ch w).length ≤ w := up_len w w; omega
    have l2 : (under ch n w).length ≤ 1000 := by
      have : (under ch n w).length ≤ (List.range n).length := List.length_filter_le _ _
      rw [List.length_range] at this
      omega
    have hsm : sml 3 (.list [.list [T (up ch w), T (under ch n w)], .list [T (up ch w), T (under ch n w)]]) = true := by
      have s1 := sml_T 0 (up ch w) l1
      have s2 := sml_T 0 (under ch n w) l2
      show (decide (2 ≤ lim) && ((decide (2 ≤ lim) && (sml 1 (T (up ch w)) && (sml 1 (T (under ch n w)) && true))) && ((decide (2 ≤ lim) && (sml 1 (T (up ch w)) && (sml 1 (T (under ch n w)) && true))) && true))) = true
      rw [s1, s2]
      rfl
    have e7 : callD G F 58 6 [.d (.list [.list [T (up ch w), T (under ch n w)], .list [T (up ch w), T (under ch n w)]]), .d (.list [.list [T (up ch w), T (under ch n w)], .list [T (up ch w), T (under ch n w)]])] [] = .ok (.d (.bool true)) [] := equal_self (F := F) (j := 6) rfl 54 3 _ hsm
    have n1 := noLst_T (up ch w)
    have n2 := noLst_T (under ch n w)
    have n3 : noLstAll ((up ch w).map N) = true := n1
    clear hsm
    refine ⟨[some (.cell k), some (.d (rowsD n R)), some (.d (chartD n ch)), some (.d (N w)), some (.own ((under ch n w).map N)), some (.d (.list [T (up ch w), T (under ch n w)])), some (.d (.list [T (up ch w), T (under ch n w)])), some (.d (.list [T (up ch w), T (under ch n w)])), none], m', .inl ?_, rfl, _, _, _, _, _, rfl⟩
    simp only [T] at e3 e4 e5 e6 e7 n1 n2 ⊢
    generalize chartD n ch = td at *
    generalize (up ch w).map N = ul at *
    generalize (under ch n w).map N = nl at *
    generalize tab n (cg ch) = cl at *
    simp [startE, Pv.execs, Pv.exec, sem, sems, Sm.mk', Sm.g, Sm.r, Sm.c, Sm.o, getV, takeV, two2, one1, dispV, smG, smV, smA, lentOf, frzAll, frz_d, frz_own, frzArg, bindT, bindTs, dat_d, dat_own, datAll, tOf, Res.of, outcome, compV, itW, wipeE, callV, callPV, callLV, lentRes, celV, arrange, pureRes, callRes, restoreE, noLst, andV, orV, notV, andT, orT, notT, iteV, boolR, ownAt, parB, sliceV, inrV, chainV, cidxV, isEV, fldV, truth, len_list, len_tuple, tup_list, tup_tuple, lst_list, lst_tuple, toint_b, body1, v0, e1, e2, e3, e4, e5, e6, e7, ht, n1, n2, n3, lim]
  obtain ⟨e', m', q1, rfl, x3, x4, x5, x6, x7, rfl⟩ := hp1
  have hp2 := for_ok (G := G) (call := callD G F 58) (t := .v 3) (k := .seq) (as := [.tup [.neg (.int 1), .b1 .len (.var 2), .op .pow (.int 10) (.int 20)]]) (body := body2)
    (fun j e m => m = m' ∧ ∃ x3, e = [some (.cell k), some (.d (rowsD n R)), some (.d (chartD n ch)), x3, x4, x5, x6, x7, none])
    (e := [some (.cell k), some (.d (rowsD n R)), some (.d (chartD n ch)), x3, x4, x5, x6, x7, none]) (e0 := [some (.cell k), some (.d (rowsD n R)), some (.d (chartD n ch)), x3, x4, x5, x6, x7, none]) (m := m') (m0 := m') (items := [.int (-1), .int (n : Int), .int 100000000000000000000]) ?hi2 ⟨rfl, x3, rfl⟩ ?hs2
  case hi2 =>
    have hp : binOp .pow (.int 10) (.int 20) = some (.d (.int 100000000000000000000)) := rfl
    have hi : itemsOf .seq [.tuple [.int (-1), .int (n : Int), .int 100000000000000000000]] = some [.int (-1), .int (n : Int), .int 100000000000000000000] := rfl
    simp [startE, Pv.execs, Pv.exec, sem, sems, Sm.mk', Sm.g, Sm.r, Sm.c, Sm.o, getV, takeV, two2, one1, dispV, smG, smV, smA, lentOf, frzAll, frz_d, frz_own, frzArg, bindT, bindTs, dat_d, dat_own, datAll, tOf, Res.of, outcome, compV, itW, wipeE, callV, callPV, callLV, lentRes, celV, arrange, pureRes, callRes, restoreE, noLst, andV, orV, notV, andT, orT, notT, iteV, boolR, ownAt, parB, sliceV, inrV, chainV, cidxV, isEV, fldV, truth, len_list, len_tuple, tup_list, tup_tuple, lst_list, lst_tuple, toint_b, negD, hlen, hp, hi, lim]
  case hs2 =>
    rintro j x e m'' hx ⟨rfl, x3, rfl⟩
    obtain ⟨z, hz, rfl⟩ : ∃ z : Int, ¬ (0 ≤ z ∧ z < n) ∧ x = .int z := by
      match j, hx with
      | 0, hx => cases hx; exact ⟨-1, by omega, rfl⟩
      | 1, hx => cases hx; exact ⟨n, by omega, rfl⟩
      | 2, hx => cases hx; exact ⟨100000000000000000000, by omega, rfl⟩
      | j + 3, hx => simp at hx
    refine ⟨_, rfl, ?_⟩
    have o1 := out_ok (n := n) (ch := ch) hz t2 1 (.inl rfl) (some (.cell k)) (some (.d (rowsD n R))) x4 x5 x6 x7
    have o2 := out_ok (n := n) (ch := ch) hz t2 2 (.inr rfl) (some (.cell k)) (some (.d (rowsD n R))) x4 x5 x6 x7
    have e7 : callD G F 58 6 [.d (.tuple [.str "NoMember", .int z]), .d (.tuple [.str "NoMember", .int z])] [] = .ok (.d (.bool true)) [] := equal_self (F := F) (j := 6) rfl 55 2 _ rfl
    refine ⟨[some (.cell k), some (.d (rowsD n R)), some (.d (chartD n ch)), some (.d (.int z)), x4, x5, x6, x7, none], m'', .inl ?_, rfl, _, rfl⟩
    have v1 : (sem G (callD G F 58) (outX 1)).var = none := rfl
    have v2 : (sem G (callD G F 58) (outX 2)).var = none := rfl
    simp [startE, Pv.execs, Pv.exec, sem, sems, Sm.mk', Sm.g, Sm.r, Sm.c, Sm.o, getV, takeV, two2, one1, dispV, smG, smV, smA, lentOf, frzAll, frz_d, frz_own, frzArg, bindT, bindTs, dat_d, dat_own, datAll, tOf, Res.of, outcome, compV, itW, wipeE, callV, callPV, callLV, lentRes, celV, arrange, pureRes, callRes, restoreE, noLst, andV, orV, notV, andT, orT, notT, iteV, boolR, ownAt, parB, sliceV, inrV, chainV, cidxV, isEV, fldV, truth, len_list, len_tuple, tup_list, tup_tuple, lst_list, lst_tuple, toint_b, body2, o1, o2, v1, v2, e7, lim]
  obtain ⟨e'', m'', q2, rfl, x3', rfl⟩ := hp2
  have q1' : Pv.exec G (callD G F 58) loop1 [some (.cell k), some (.d (rowsD n R)), some (.d (chartD n ch)), none, none, none, none, none, none] m'' = _ := q1
  have q2' : Pv.exec G (callD G F 58) loop2 [some (.cell k), some (.d (rowsD n R)), some (.d (chartD n ch)), x3, x4, x5, x6, x7, none] m'' = _ := q2
  refine callD_ok (fn := ⟨9, [
    .asg (.v 1) (.call 7 [.var 0, .int 11] [.inl 0, .inl 1]),
    .asg (.v 2) (.call 8 [.var 0, .var 1] [.inl 0, .inl 1]),
    loop1,
    loop2,
    .ret (.bl true)]⟩) rfl (Nat.le_of_ble_eq_true rfl) ?_
  simp [startE, Pv.execs, Pv.exec, sem, sems, Sm.mk', Sm.g, Sm.r, Sm.c, Sm.o, getV, takeV, two2, one1, dispV, smG, smV, smA, lentOf, frzAll, frz_d, frz_own, frzArg, bindT, bindTs, dat_d, dat_own, datAll, tOf, Res.of, outcome, compV, itW, wipeE, callV, callPV, callLV, lentRes, celV, arrange, pureRes, callRes, restoreE, noLst, andV, orV, notV, andT, orT, notT, iteV, boolR, ownAt, parB, sliceV, inrV, chainV, cidxV, isEV, fldV, truth, len_list, len_tuple, tup_list, tup_tuple, lst_list, lst_tuple, toint_b, h1', h2', q1', q2']
theorem Main_ok : Main := fun ns _ => lawAT (G := G) (F := F) (f := 13) (s := 3) (h := 12) 3 3 q0 rfl rfl (by omega) (by omega) (by omega) 58 1000 (by omega) holds_ok ns
end Lk03
theorem PySem.Challenge.cw_ladderchart_k03_chains_and_teams_holds : PySem.Challenge.rw_ladderchart_k03_chains_and_teams.Holds :=
  Lk03.holds Lk03.Main_ok


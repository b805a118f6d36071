import PyProof.Rows.All
import Wide.All
import OpenK.AllK
import Wide.FinOn
import PyProof.EqAt
import PyProof.EqKinds
import PyProof.TupleCall
import KE.OsGo
import PyProof.ReprReads
import PyProof.EqLayable
import HandS.ForMost
import HandS.Exc
import HandS.TryOnly
import HandS.Wide
import HandS.TupAny
import HandS.TupMul
import HandS.TupLe
import HandS.Deep
import HandS.IsInst
import HandS.WordsDict
import HandS.RaiseMore
import HandS.Style
import HandS.RevTup
import PyProof.WalksMore
import HandS.OwnEq
import HandS.ExcOwn
import HandS.ExcIs
import HandS.ExcField
import KE.KExcIs
import PyProof.InstEq
import HandS.Comp
import HandS.Ends
import HandS.ExcSuper
import KE.KExcSuper
import HandS.ExcInit
import PyProof.FitsInt
import PyProof.P3Eq
import PySem.Challenge.RW_everygroup_k01_plans_let_and_refused
set_option Elab.async false
set_option linter.all false
set_option maxRecDepth 100000
set_option maxHeartbeats 8000000
/-! #### part Vd -/
/-! V: values by value, core syntax, evaluator. -/
namespace Vm
open PySem

/-- values -/
inductive D where
  | non | bl (b : Bool) | int (i : Int) | str (s : Str)
  | tup (xs : List D) | lst (xs : List D) | dct (ks vs : List D)
  /-- a list some of whose items are owned by it -/
  | lsto (xs : List D)
  /-- the script -/
  | scr (xs : List D)
  /-- an instance of the class c: its fields' values in the order of their names -/
  | ins (c : Nat) (fs : List Nat) (vs : List D)
  /-- an exception of the class c, with what it keeps -/
  | exc (c : Nat) (vs : List D)
  | fn (f : Nat)
  /-- a lambda's number, what it has captured by slot -/
  | clo (k : Nat) (sl : List Nat) (vs : List D)
  /-- owned: nothing else leads there -/
  | own (d : D)
  deriving Inhabited

abbrev Env := List (Option D)

inductive R (α : Type) where
  | ok (a : α) (ρ : Env) | ex (e : D) (ρ : Env) | no

def R.bind {α β : Type} (r : R α) (f : α → Env → R β) : R β := match r with
  | .ok a ρ => f a ρ
  | .ex e ρ => .ex e ρ
  | .no => .no
@[simp] theorem R.bind_ok {α β : Type} (a : α) (ρ : Env) (f : α → Env → R β) : (R.ok a ρ).bind f = f a ρ := rfl
@[simp] theorem R.bind_ex {α β : Type} (e : D) (ρ : Env) (f : α → Env → R β) : (R.ex e ρ : R α).bind f = .ex e ρ := rfl
@[simp] theorem R.bind_no {α β : Type} (f : α → Env → R β) : (R.no : R α).bind f = .no := rfl
/-- a value, or stuck -/
def R.of {α : Type} (o : Option α) (ρ : Env) : R α := match o with
  | some a => .ok a ρ
  | none => .no
@[simp] theorem R.of_some {α : Type} (a : α) (ρ : Env) : R.of (some a) ρ = .ok a ρ := rfl
@[simp] theorem R.of_none {α : Type} (ρ : Env) : (R.of none ρ : R α) = .no := rfl

/-- without the owner's sign -/
def D.un : D → D
  | .own d => d
  | d => d
def D.isOwn : D → Bool
  | .own _ => true
  | _ => false

/-! ### data -/
mutual
def D.py : D → PyData
  | .non => .none
  | .bl b => .bool b
  | .int i => .int i
  | .str s => .str s
  | .tup xs => .tuple (pyL xs)
  | .lst xs => .list (pyL xs)
  | .dct ks vs => .dict ((pyL ks).zip (pyL vs))
  | .own d => d.py
  | _ => .none
def pyL : List D → List PyData
  | [] => []
  | x :: xs => x.py :: pyL xs
end
mutual
/-- data that == and repr are told of (dicts: repr alone) -/
def D.isData (dicts : Bool) : D → Bool
  | .non | .bl _ | .int _ | .str _ => true
  | .tup xs | .lst xs => dataL dicts xs
  | .dct ks vs => dicts && ks.isEmpty && vs.isEmpty
  | .own d => d.isData dicts
  | _ => false
def dataL (dicts : Bool) : List D → Bool
  | [] => true
  | x :: xs => x.isData dicts && dataL dicts xs
end
def cmpN : List Nat → List Nat → Ordering
  | [], [] => .eq
  | [], _ :: _ => .lt
  | _ :: _, [] => .gt
  | x :: xs, y :: ys => if x < y then .lt else if y < x then .gt else cmpN xs ys
mutual
/-- the order of alike data -/
def D.cmp : D → D → Ordering
  | .int a, .int b => if a < b then .lt else if b < a then .gt else .eq
  | .str a, .str b => cmpN a.cps.toList b.cps.toList
  | .bl a, .bl b => if !a && b then .lt else if a && !b then .gt else .eq
  | .tup xs, .tup ys => cmpL xs ys
  | _, _ => .eq
def cmpL : List D → List D → Ordering
  | [], [] => .eq
  | [], _ :: _ => .lt
  | _ :: _, [] => .gt
  | x :: xs, y :: ys => (x.cmp y).then (cmpL xs ys)
end
mutual
/-- they can be put in order, place by place -/
def D.alike : D → D → Bool
  | .int _, .int _ => true
  | .str _, .str _ => true
  | .bl _, .bl _ => true
  | .tup xs, .tup ys => alikeL xs ys
  | _, _ => false
def alikeL : List D → List D → Bool
  | x :: xs, y :: ys => x.alike y && alikeL xs ys
  | _, _ => true
end
def D.le (a b : D) : Bool := a.cmp b != .gt
/-- sorted -/
def sortD (xs : List D) : Option (List D) :=
  if xs.all fun x => xs.all fun y => x.alike y then some (xs.mergeSort D.le) else none
/-- data that == may be asked of -/
def eqOk (a : D) : Bool := a.isData false && a.py.canLay0 && decide (a.py.depth ≤ 60)
/-- == of data -/
def eqD (a b : D) : Option Bool := if eqOk a && eqOk b then some (PyData.eqv a.py b.py) else none
def cmpI : List Int → List Int → Ordering
  | [], [] => .eq
  | [], _ :: _ => .lt
  | _ :: _, [] => .gt
  | x :: xs, y :: ys => if x < y then .lt else if y < x then .gt else cmpI xs ys
def intsOf : List D → Option (List Int)
  | [] => some []
  | .int i :: r => (intsOf r).map (i :: ·)
  | _ :: _ => none
def isFlat : D → Bool
  | .non | .bl _ | .int _ | .str _ => true
  | _ => false

/-! ### operators -/
inductive BO where | add | sub | mul | fdiv | mod | pow
  deriving DecidableEq
inductive CO where | eq | ne | lt | le | gt | ge | is_ | isn | in_ | nin
  deriving DecidableEq
def small64 (i : Int) : Bool := decide (-(2 ^ 64) < i) && decide (i < 2 ^ 64)
def line : Nat := 16777216
def bop (o : BO) (x y : D) : Option D := match o, x, y with
  | .add, .int i, .int j => some (.int (i + j))
  | .sub, .int i, .int j => some (.int (i - j))
  | .mul, .int i, .int j => if small64 i || small64 j then some (.int (i * j)) else none
  | .fdiv, .int i, .int j => if decide (0 < j) && decide (j < 1073741824) then some (.int (i / j)) else none
  | .mod, .int i, .int j => if decide (0 < j) then some (.int (i % j)) else none
  | .pow, .int i, .int j => if decide (0 ≤ j) && decide (j ≤ 1000000) && decide (i.natAbs < 2 ^ 64) then some (.int (i ^ j.toNat)) else none
  | .add, .str a, .str b => if decide (a.length + b.length ≤ line) then some (.str (a ++ b)) else none
  | .add, .tup xs, .tup ys => if decide (xs.length + ys.length ≤ line) then some (.tup (xs ++ ys)) else none
  | .add, .lst xs, .lst ys => if decide (xs.length + ys.length ≤ line) then some (.own (.lst (xs ++ ys))) else none
  | .mul, .tup xs, .int k => if decide (1 ≤ k) && decide (k ≤ 1000) && (decide (xs.length ≤ 1000) && !xs.isEmpty) then some (.tup (List.replicate k.toNat xs).flatten) else none
  | .mul, .lst xs, .int k => if decide (0 ≤ k) && decide (k ≤ 1000) && decide (xs.length ≤ 1000) then some (.own (.lst (List.replicate k.toNat xs).flatten)) else none
  | _, _, _ => none
/-- one of: is it in -/
def inD (x : D) : List D → Option Bool
  | [] => some false
  | y :: ys => match eqD y x, inD x ys with
    | some a, some b => some (a || b)
    | _, _ => none
def valD (k : D) : List D → List D → Option D
  | y :: ys, v :: vs => if PyData.eqv y.py k.py then some v else valD k ys vs
  | _, _ => none
def isKey : D → Bool
  | .int _ | .str _ | .bl _ | .non => true
  | .tup xs => dataL false xs
  | _ => false
def isNone : D → Bool
  | .non => true
  | _ => false
def cop (o : CO) (x y : D) : Option D := match o, x, y with
  | .is_, x, .non => if x.isOwn then none else some (.bl (isNone x))
  | .isn, x, .non => if x.isOwn then none else some (.bl (!isNone x))
  | .is_, .bl a, .bl b => some (.bl (a == b))
  | .isn, .bl a, .bl b => some (.bl (a != b))
  | .lt, .int i, .int j => some (.bl (decide (i < j)))
  | .le, .int i, .int j => some (.bl (decide (i ≤ j)))
  | .gt, .int i, .int j => some (.bl (decide (j < i)))
  | .ge, .int i, .int j => some (.bl (decide (j ≤ i)))
  | .le, .tup xs, .tup ys => match intsOf xs, intsOf ys with
    | some ns, some ms => some (.bl (cmpI ns ms != .gt))
    | _, _ => none
  | .lt, .tup xs, .tup ys => match intsOf xs, intsOf ys with
    | some ns, some ms => some (.bl (cmpI ns ms == .lt))
    | _, _ => none
  | .in_, .str c, .str z => match c.cps.toList with
    | [k] => some (.bl (decide (k ∈ z.cps.toList)))
    | _ => none
  | .in_, x, .lst ys => if eqOk x then (inD x ys).map .bl else none
  | .nin, x, .lst ys => if eqOk x then (inD x ys).map fun b => .bl (!b) else none
  | .in_, x, .tup ys => if isFlat x && ys.all isFlat then (inD x ys).map .bl else none
  | .nin, x, .tup ys => if isFlat x && ys.all isFlat then (inD x ys).map fun b => .bl (!b) else none
  | .eq, x, y => (eqD x y).map .bl
  | .ne, x, y => (eqD x y).map fun b => .bl (!b)
  | _, _, _ => none

/-! ### built-in functions on values -/
inductive Bi where
  | len | abs | int | list | tuple | sum | all | any | sorted | repr | str | sset | lset | dict | mn | mx
  | min2 | max2 | sumL | count | index | join | split | get1 | get2
  deriving DecidableEq
def blsOf : List D → Option (List Bool)
  | [] => some []
  | .bl i :: r => (blsOf r).map (i :: ·)
  | _ :: _ => none
def strsOf : List D → Option (List Str)
  | [] => some []
  | .str i :: r => (strsOf r).map (i :: ·)
  | _ :: _ => none
/-- the items of a list, a tuple, a dict's keys -/
def itemsOf : D → Option (List D)
  | .lst xs => some xs
  | .scr xs => some xs
  | .tup xs => some xs
  | .dct ks _ => some ks
  | .own d => itemsOf d
  | _ => none
mutual
def noLst : D → Bool
  | .tup xs => noLsts xs
  | .lst _ => false
  | .own d => noLst d
  | _ => true
def noLsts : List D → Bool
  | [] => true
  | x :: xs => noLst x && noLsts xs
end
/-- what is walked -/
def itemsI (d : D) : Option (List D) := match d.un with
  | .lst xs | .lsto xs | .scr xs | .tup xs => some xs
  | _ => none
def reprD (d : D) : Option Str :=
  if d.isData true && decide (d.py.depth ≤ 60) && d.py.showable && decide (d.py.shown.length ≤ line) && (!d.py.hasDict || noLst d) then some d.py.shown else none
def countD (x : D) : List D → Option Nat
  | [] => some 0
  | y :: ys => match eqD y x, countD x ys with
    | some a, some n => some (if a then n + 1 else n)
    | _, _ => none
def indexD (x : D) : List D → Option Nat
  | [] => none
  | y :: ys => match eqD y x with
    | some true => some 0
    | some false => (indexD x ys).map (· + 1)
    | none => none
def b1 (b : Bi) (d : D) : Option D := match b, d with
  | .len, .lst xs => some (.int xs.length)
  | .len, .lsto xs => some (.int xs.length)
  | .len, .scr xs => some (.int xs.length)
  | .len, .tup xs => some (.int xs.length)
  | .len, .dct ks _ => some (.int ks.length)
  | .len, .str x => if x.length ≤ line then some (.int x.length) else none
  | .abs, .int i => some (.int (if i < 0 then -i else i))
  | .int, .int i => some (.int i)
  | .int, .bl k => some (.int (if k then 1 else 0))
  | .list, .lst xs => some (.own (.lst xs))
  | .list, .tup xs => some (.own (.lst xs))
  | .tuple, .lst xs => some (.tup xs)
  | .tuple, .tup xs => some (.tup xs)
  | .sum, .lst xs => (intsOf xs).map fun ns => .int ns.sum
  | .sum, .tup xs => (intsOf xs).map fun ns => .int ns.sum
  | .all, .lst xs => (blsOf xs).map fun bs => .bl (bs.all id)
  | .any, .lst xs => (blsOf xs).map fun bs => .bl (bs.any id)
  | .sorted, d => match itemsOf d with
    | some xs => (sortD xs).map fun ys => .own (.lst ys)
    | none => none
  | .repr, d => (reprD d).map .str
  | .str, .int i => if i.natAbs.log2 < 1920 then some (.str (toString i)) else none
  | .str, .str x => some (.str x)
  | _, _ => none
def b2 (b : Bi) (d e : D) : Option D := match b, d, e with
  | .min2, .int i, .int j => some (.int (if j < i then j else i))
  | .max2, .int i, .int j => some (.int (if j > i then j else i))
  | .count, .lst xs, x => (countD x xs).map fun n => .int n
  | .index, .lst xs, x => (indexD x xs).map fun n => .int n
  | _, _, _ => none
/-- x[i] -/
def ixN (n : Nat) (i : Int) : Option Nat := if 0 ≤ i then (if i < n then some i.toNat else none) else if -(n : Int) ≤ i then some (i + n).toNat else none
def itemD (d i : D) : Option D := match d, i with
  | .lst xs, .int k => (ixN xs.length k).bind fun j => xs[j]?
  | .lsto xs, .int k => (ixN xs.length k).bind fun j => xs[j]?
  | .scr xs, .int k => (ixN xs.length k).bind fun j => xs[j]?
  | .tup xs, .int k => (ixN xs.length k).bind fun j => xs[j]?
  | .str z, .int k => if z.length ≤ line then (ixN z.length k).bind fun j => z.cps[j]?.map fun c => .str ⟨#[c]⟩ else none
  | .dct ks vs, k => if isKey k then valD k ks vs else none
  | _, _ => none
/-- x[lo:hi] -/
def sIx (n d : Nat) : Option Int → Nat
  | none => d
  | some v => if v < 0 then (v + (n : Int)).toNat else min v.toNat n
def cutL (xs : List D) (lo hi : Option Int) : List D := (xs.drop (sIx xs.length 0 lo)).take (sIx xs.length xs.length hi - sIx xs.length 0 lo)
def sliceD (d : D) (lo hi : Option Int) : Option D := match d with
  | .lst xs => some (.own (.lst (cutL xs lo hi)))
  | .scr xs => some (.own (.lst (cutL xs lo hi)))
  | .tup xs => some (.tup (cutL xs lo hi))
  | _ => none
def revD (d : D) : Option D := match d with
  | .lst xs => some (.own (.lst xs.reverse))
  | .tup xs => some (.tup xs.reverse)
  | _ => none

/-! ### classes of values, for isinstance -/
inductive Ty where
  | int | bool | str | tuple | list | dict | cls (c : Nat)
  deriving DecidableEq
/-- the classes of errors: each below the next of its row -/
structure Cls where
  init : Option Nat := none
  eq : Option Nat := none
  exc : Bool := false
  up : List Nat := []
  meths : List (Nat × Nat) := []
/-- kinds of values -/
inductive Kd where
  | non | bl | int | str | tup | lst | dct | ins (c : Nat)
  deriving DecidableEq
def kdOf : D → Option Kd
  | .non => some .non
  | .bl _ => some .bl
  | .int _ => some .int
  | .str _ => some .str
  | .tup _ => some .tup
  | .lst _ => some .lst
  | .dct _ _ => some .dct
  | .ins c _ _ => some (.ins c)
  | _ => none
def isKd (k : Kd) (t : Ty) : Bool := match k, t with
  | .ins c, .cls c' => c == c'
  | .int, .int | .bl, .int | .bl, .bool | .str, .str | .tup, .tuple | .lst, .list | .dct, .dict => true
  | _, _ => false
def isTy (Κ : Nat → Option Cls) (d : D) (t : Ty) : Option Bool := match d with
  | .exc c _ => match t with
    | .cls c' => (Κ c).map fun k => (c == c') || k.up.contains c'
    | _ => none
  | d => (kdOf d).map fun k => isKd k t

/-! ### core syntax -/
mutual
inductive E where
  | lit (d : D)
  | rd (p : P)
  | mv (i : Nat)
  | fnv (f : Nat)
  | tup (es : List E) | lst (keep : Bool) (es : List E) | dct (ks vs : List E)
  | bin (o : BO) (a b : E) | neg (a : E) | not (a : E)
  | cmp (o : CO) (a b : E) | cmp2 (o o' : CO) (a b c : E)
  | and (a b : E) | or (a b : E) | ite (c a b : E)
  | sub (a i : E) | slc (a : E) (lo hi : Option E) | rev (a : E)
  | bi (b : Bi) (a : E) | bi2 (b : Bi) (a c : E)
  | isi (a : E) (ts : List Ty)
  | call (f : Nat) (args : List E) | new (c : Nat) (args : List E) | meth (m : Nat) (args : List E)
  | attr (a : E) (f : Nat)
  | app (p : P) (e : E) | ext (p : P) (e : E) | pop (p : P) | popA (p : P) (e : E)
  | comp (keep : Bool) (elt : E) (tg : Tg) (it : It) (ifs : Option E) (own : List Nat)
  | lrng (es : List E)
  /-- of the caught exception: is it of the class, what it keeps -/
  | xis (c : Nat) | xfld (f : Nat)
inductive P where
  | loc (i : Nat) | fld (p : P) (f : Nat) | at_ (p : P) (q : E)
inductive It where
  | seq (e : E) | rng (es : List E) | enm (e : E) | zip (a b : E)
inductive Tg where
  | nm (i : Nat) | tp (ts : List Tg)
end
inductive S where
  | asg (tg : Tg) (e : E)
  | par (is : List Nat) (es : List E)
  | setI (p : P) (i e : E)
  | setF (p : P) (f : Nat) (e : E)
  | augN (i : Nat) (o : BO) (e : E)
  | augI (p : P) (i : E) (o : BO) (e : E)
  | ex (e : E)
  | if_ (c : E) (a b : List S)
  | for_ (tg : Tg) (it : It) (b : List S)
  | while_ (c : E) (b : List S)
  | ret (e : E)
  | raise_ (c : Nat) (es : List E)
  | try_ (b : List S) (c : Nat) (nm : Option Nat) (h : List S)
  | pass | cont

/-! ### places -/
/-- the field that an exception of the class keeps -/
def xfOf (c : Nat) : Nat := if c = 1 then 13 else 14
def fldD (d : D) (f : Nat) : Option D := match d with
  | .ins _ fs vs => (fs.zip vs).lookup f
  | .exc c [y] => if f = xfOf c then some y else none
  | _ => none
def slot (ρ : Env) (i : Nat) : Option D := ρ[i]?.join
def plain (o : Option D) : Option D := match o with
  | some d => if d.isOwn then none else some d
  | none => none
mutual
def qe : E → Env → Option D
  | .lit d, _ => some d
  | .rd p, ρ => plain (rp p ρ)
  | .tup es, ρ => (qeL es ρ).map .tup
  | .bin o a b, ρ => match qe a ρ, qe b ρ with
    | some x, some y => plain (bop o x y)
    | _, _ => none
  | .neg a, ρ => match qe a ρ with
    | some (.int i) => some (.int (-i))
    | _ => none
  | _, _ => none
def qeL : List E → Env → Option (List D)
  | [], _ => some []
  | e :: es, ρ => match qe e ρ, qeL es ρ with
    | some d, some ds => some (d :: ds)
    | _, _ => none
def rp : P → Env → Option D
  | .loc i, ρ => slot ρ i
  | .fld p f, ρ => match rp p ρ with
    | some d => fldD d.un f
    | none => none
  | .at_ p q, ρ => match rp p ρ, qe q ρ with
    | some d, some k => itemD d.un k
    | _, _ => none
end
/-- a store in a dict -/
def putD (k v : D) : List D → List D → List D × List D
  | y :: ys, x :: xs => if PyData.eqv y.py k.py then (y :: ys, v :: xs) else ((y :: (putD k v ys xs).1), (x :: (putD k v ys xs).2))
  | ys, xs => (ys ++ [k], xs ++ [v])
def setItemD (d k v : D) : Option D := match d, k with
  | .lst xs, .int n => (ixN xs.length n).map fun j => .lst (xs.set j v)
  | .lsto xs, .int n => (ixN xs.length n).map fun j => .lsto (xs.set j v)
  | .dct ks vs, k => if isKey k && decide (ks.length < line) then some (.dct (putD k v ks vs).1 (putD k v ks vs).2) else none
  | _, _ => none
def putF (f : Nat) (v : D) : List Nat → List D → List Nat × List D
  | g :: gs, x :: xs => if g = f then (g :: gs, v :: xs) else (g :: (putF f v gs xs).1, x :: (putF f v gs xs).2)
  | gs, xs => (gs ++ [f], xs ++ [v])
def setFldD (d : D) (f : Nat) (v : D) : Option D := match d with
  | .ins c fs vs => some (.ins c (putF f v fs vs).1 (putF f v fs vs).2)
  | _ => none
/-- the owned thing at a place, turned -/
def updP : P → (D → Option D) → Env → Option Env
  | .loc i, f, ρ => match slot ρ i with
    | some (.own d) => (f d).map fun d' => ρ.set i (some (.own d'))
    | _ => none
  | .fld p x, f, ρ => updP p (fun d => match fldD d x with
    | some (.own e) => (f e).bind fun e' => setFldD d x (.own e')
    | _ => none) ρ
  | .at_ p q, f, ρ => match qe q ρ with
    | some k => updP p (fun d => match itemD d k with
      | some (.own e) => (f e).bind fun e' => setItemD d k (.own e')
      | _ => none) ρ
    | none => none
def appD (v d : D) : Option D := match d with
  | .lst xs => if xs.length < line then some (.lst (xs ++ [v])) else none
  | _ => none
def extD (v d : D) : Option D := match d, v with
  | .lst xs, .lst ys => if xs.length + ys.length ≤ line then some (.lst (xs ++ ys)) else none
  | _, _ => none
def popD (k : Option D) (d : D) : Option (D × D) := match d, k with
  | .lst xs, none => xs.getLast?.map fun y => (y, .lst xs.dropLast)
  | .lst xs, some (.int i) => match ixN xs.length i with
    | some j => xs[j]?.map fun y => (y, .lst (xs.eraseIdx j))
    | none => none
  | _, _ => none

/-! ### arguments -/
inductive Arg where | v (d : D) | s (i : Nat)
/-- at the call: owned variables are lent -/
def grab : List Arg → Env → Option (List D × Env)
  | [], ρ => some ([], ρ)
  | .v d :: r, ρ => (grab r ρ).map fun x => (d :: x.1, x.2)
  | .s i :: r, ρ => match slot ρ i with
    | some d => (grab r (if d.isOwn then ρ.set i none else ρ)).map fun x => (d :: x.1, x.2)
    | none => none
/-- behind the call: what was lent comes back -/
def back : List Arg → Env → Env → Env
  | .v _ :: r, _ :: os, ρ => back r os ρ
  | .s i :: r, o :: os, ρ => back r os (match ρ[i]? with | some none => ρ.set i o | _ => ρ)
  | _, _, ρ => ρ

inductive Fl where | nx | ret (d : D) | cont

mutual
def bindT : Tg → D → Env → Option Env
  | .nm i, d, ρ => if i < ρ.length then some (ρ.set i (some d)) else none
  | .tp ts, d, ρ => match d with
    | .tup xs => bindTs ts xs ρ
    | _ => none
def bindTs : List Tg → List D → Env → Option Env
  | [], [], ρ => some ρ
  | t :: ts, x :: xs, ρ => match bindT t x.un ρ with
    | some ρ1 => bindTs ts xs ρ1
    | none => none
  | _, _, _ => none
end

/-- a, b = x, y: stored from the right -/
def bindPar : List Nat → List D → Env → Option Env
  | [], [], ρ => some ρ
  | i :: is, d :: ds, ρ => match bindPar is ds ρ with
    | some ρ1 => if i < ρ1.length then some (ρ1.set i (some d)) else none
    | none => none
  | _, _, _ => none
def enumD : Nat → List D → List D
  | _, [] => []
  | n, x :: xs => .tup [.int n, x.un] :: enumD (n + 1) xs
def zipD : List D → List D → List D
  | x :: xs, y :: ys => .tup [x.un, y.un] :: zipD xs ys
  | _, _ => []
def rangeD (lo : Int) : Nat → List D
  | 0 => []
  | n + 1 => .int lo :: rangeD (lo + 1) n
def small62 (i : Int) : Bool := decide (-(2 ^ 62) ≤ i) && decide (i < 2 ^ 62)
def rngOf : List D → Option (List D)
  | [.int j] => if small62 j then some (rangeD 0 j.toNat) else none
  | [.int i, .int j] => if small62 i && small62 j then some (rangeD i (j - i).toNat) else none
  | _ => none

/-- the slots of a block's own names forgotten; put back -/
def wipe (ρ : Env) : List Nat → Env
  | [] => ρ
  | v :: vs => (wipe ρ vs).set v none
def rest (ρ₀ ρ : Env) : List Nat → Env
  | [] => ρ
  | v :: vs => (rest ρ₀ ρ vs).set v (slot ρ₀ v)
def plainAt (ρ : Env) (vs : List Nat) : Bool := vs.all fun v => match slot ρ v with
  | some d => !d.isOwn
  | none => true
def compGo (step : D → Env → R (Option D)) : List D → Env → List D → R (List D)
  | [], ρ, acc => .ok acc ρ
  | x :: xs, ρ, acc => match step x ρ with
    | .ok (some y) ρ1 => if acc.length < line then compGo step xs ρ1 (acc ++ [y]) else .no
    | .ok none ρ1 => compGo step xs ρ1 acc
    | .ex e ρ1 => .no
    | .no => .no

/-- what an evaluation leans on: the defs, the caught exception -/
structure Cf where
  Φ : Nat → List D → R D
  ξ : Option D := none
section
variable (Κ : Nat → Option Cls) (Φ : Nat → List D → R D)
def calls (f : Nat) (as : List Arg) (ρ : Env) : R D := match grab as ρ with
  | some (ds, ρ2) => match Φ f ds with
    | .ok d os => .ok d (back as os ρ2)
    | .ex e os => .ex e (back as os ρ2)
    | .no => .no
  | none => .no
def isAny (d : D) : List Ty → Option Bool
  | [] => some false
  | t :: ts => match isTy Κ d t, isAny d ts with
    | some a, some b => some (a || b)
    | _, _ => none
/-- == and != : data, or a class's own -/
def eqI (neg : Bool) (c : Nat) (x y : D) (ρ : Env) : R D := match (Κ c).bind Cls.eq with
  | some f => if y.isOwn || (kdOf y).isNone then .no else match Φ f [x, y] with
    | .ok (.bl b) _ => .ok (.bl (if neg then !b else b)) ρ
    | _ => .no
  | none => .no
def cmpV (o : CO) (x y : D) (ρ : Env) : R D := match o, x with
  | .eq, .ins c fs vs => eqI Κ Φ false c (.ins c fs vs) y ρ
  | .ne, .ins c fs vs => eqI Κ Φ true c (.ins c fs vs) y ρ
  | o, x => R.of (cop o x y) ρ

end
def locOf : P → Option Nat
  | .loc i => some i
  | _ => none
/-- an owned list -/
def olOf : Option D → Option (List D)
  | some (.own (.lst xs)) => some xs
  | _ => none
def isOL (o : Option D) : Bool := (olOf o).isSome
def recvOf : E → Option Nat
  | .rd (.loc i) => some i
  | _ => none
def methOf (Κ : Nat → Option Cls) (c m : Nat) : Option Nat := (Κ c).bind fun k => k.meths.lookup m
/-- the class of an instance -/
def insOf : Option D → Option Nat
  | some (.ins c _ _) => some c
  | some (.own (.ins c _ _)) => some c
  | _ => none
section
variable (Κ : Nat → Option Cls)
/-- for an operation that does not keep its operand: an owned variable stays owned -/
def pkB (e : E) (r : Env → R D) (ρ : Env) : R D := match e with
  | .rd p => R.of ((rp p ρ).map D.un) ρ
  | _ => (r ρ).bind fun d ρ1 => .ok d.un ρ1
def pkB2 (a : E) (ra : Env → R D) (c : E) (rc : Env → R D) (ρ : Env) : R (D × D) := match a with
  | .rd (.loc i) => match slot ρ i with
    | some _ => (pkB c rc ρ).bind fun y ρ1 => match slot ρ1 i with
      | some x => .ok (x.un, y) ρ1
      | none => .no
    | none => .no
  | _ => (ra ρ).bind fun x ρ1 => (pkB c rc ρ1).bind fun y ρ2 => .ok (x.un, y) ρ2
variable (C : Cf)
mutual
def ev : E → Env → R D
  | .lit d, ρ => .ok d ρ
  | .rd (.loc i), ρ => match slot ρ i with
    | some d => .ok d.un (ρ.set i (some d.un))
    | none => .no
  | .rd p, ρ => R.of (plain (rp p ρ)) ρ
  | .mv i, ρ => match slot ρ i with
    | some d => .ok d (ρ.set i none)
    | none => .no
  | .fnv f, ρ => .ok (.fn f) ρ
  | .tup es, ρ => (evL es ρ).bind fun ds ρ1 => .ok (.tup (ds.map D.un)) ρ1
  | .lst keep es, ρ => (evL es ρ).bind fun ds ρ1 => .ok (.own (if keep then .lsto ds else .lst (ds.map D.un))) ρ1
  | .dct ks vs, ρ => (evL ks ρ).bind fun kd ρ1 => (evL vs ρ1).bind fun vd ρ2 => .ok (.own (.dct (kd.map D.un) (vd.map D.un))) ρ2
  | .bin o a b, ρ => (pkB2 a (ev a) b (ev b) ρ).bind fun xy ρ1 => R.of (bop o xy.1 xy.2) ρ1
  | .neg a, ρ => (ev a ρ).bind fun d ρ1 => match d with
    | .int i => .ok (.int (-i)) ρ1
    | _ => .no
  | .not a, ρ => (ev a ρ).bind fun d ρ1 => match d with
    | .bl b => .ok (.bl (!b)) ρ1
    | _ => .no
  | .cmp o a b, ρ => (pkB2 a (ev a) b (ev b) ρ).bind fun xy ρ1 => cmpV Κ C.Φ o xy.1 xy.2 ρ1
  | .cmp2 o o' a b c, ρ => (ev a ρ).bind fun x ρ1 => (ev b ρ1).bind fun y ρ2 => match cop o x.un y.un with
    | some (.bl true) => (ev c ρ2).bind fun z ρ3 => R.of (cop o' y.un z.un) ρ3
    | some (.bl false) => .ok (.bl false) ρ2
    | _ => .no
  | .and a b, ρ => (ev a ρ).bind fun d ρ1 => match d with
    | .bl true => ev b ρ1
    | .bl false => .ok (.bl false) ρ1
    | _ => .no
  | .or a b, ρ => (ev a ρ).bind fun d ρ1 => match d with
    | .bl true => .ok (.bl true) ρ1
    | .bl false => ev b ρ1
    | _ => .no
  | .ite c a b, ρ => (ev c ρ).bind fun d ρ1 => match d with
    | .bl true => ev a ρ1
    | .bl false => ev b ρ1
    | _ => .no
  | .sub a i, ρ => (pkB2 a (ev a) i (ev i) ρ).bind fun xy ρ1 => R.of (plain (itemD xy.1 xy.2)) ρ1
  | .slc a lo hi, ρ => (pkB a (ev a) ρ).bind fun x ρ1 => match evO lo ρ1 with
    | some l => match evO hi ρ1 with
      | some h => R.of (sliceD x l h) ρ1
      | none => .no
    | none => .no
  | .rev a, ρ => (pkB a (ev a) ρ).bind fun x ρ1 => R.of (revD x) ρ1
  | .bi b a, ρ => (pkB a (ev a) ρ).bind fun x ρ1 => R.of (b1 b x) ρ1
  | .bi2 b a c, ρ => (pkB2 a (ev a) c (ev c) ρ).bind fun xy ρ1 => R.of (b2 b xy.1 xy.2) ρ1
  | .isi a ts, ρ => (pkB a (ev a) ρ).bind fun x ρ1 => R.of ((isAny Κ x ts).map .bl) ρ1
  | .call f args, ρ => (evA args ρ).bind fun as ρ1 => calls C.Φ f as ρ1
  | .new c args, ρ => match Κ c with
    | some k => (evL args ρ).bind fun ds ρ1 => if k.exc then .ok (.exc c (ds.map D.un)) ρ1 else match k.init with
      | some f => match C.Φ f (.own (.ins c [] []) :: ds) with
        | .ok .non (some d :: _) => .ok d ρ1
        | .ex e _ => .ex e ρ1
        | _ => .no
      | none => .no
    | none => .no
  | .meth m [], ρ => .no
  | .meth m (e :: es), ρ => match recvOf e with
    | some i => match insOf (slot ρ i) with
      | some c => match methOf Κ c m with
        | some f => (evA es ρ).bind fun as ρ1 => calls C.Φ f (.s i :: as) ρ1
        | none => .no
      | none => .no
    | none => (ev e ρ).bind fun d ρ0 => match insOf (some d) with
      | some c => match methOf Κ c m with
        | some f => (evA es ρ0).bind fun as ρ1 => calls C.Φ f (.v d :: as) ρ1
        | none => .no
      | none => .no
  | .attr a f, ρ => (ev a ρ).bind fun d ρ1 => R.of (plain (fldD d.un f)) ρ1
  | .app p e, ρ => match locOf p with
    | some i => if isOL (slot ρ i) then (ev e ρ).bind fun d ρ1 => match olOf (slot ρ1 i) with
        | some xs => if xs.length < line then .ok .non (ρ1.set i (some (.own (.lst (xs ++ [d.un]))))) else .no
        | none => .no
      else .no
    | none => .no
  | .ext p e, ρ => match locOf p with
    | some i => if isOL (slot ρ i) then (ev e ρ).bind fun d ρ1 => match olOf (slot ρ1 i), d.un with
        | some xs, .lst ys => if xs.length + ys.length ≤ line then .ok .non (ρ1.set i (some (.own (.lst (xs ++ ys))))) else .no
        | _, _ => .no
      else .no
    | none => .no
  | .pop p, ρ => .no
  | .popA p e, ρ => match locOf p with
    | some i => if isOL (slot ρ i) then (ev e ρ).bind fun d ρ1 => match olOf (slot ρ1 i), d with
        | some xs, .int k => match ixN xs.length k with
          | some j => match xs[j]? with
            | some y => if y.isOwn || decide (line < xs.length) then .no else .ok y (ρ1.set i (some (.own (.lst (xs.eraseIdx j)))))
            | none => .no
          | none => .no
        | _, _ => .no
      else .no
    | none => .no
  | .comp keep elt tg it ifs vs, ρ => (evI it ρ).bind fun xs ρ1 => if plainAt ρ1 vs then
      (compGo (fun x ρ2 => match bindT tg x (wipe ρ2 vs) with
        | none => .no
        | some ρ3 => (evT ifs ρ3).bind fun b ρ4 => if b then (ev elt ρ4).bind fun y ρ5 => .ok (some (if keep then y else y.un)) ρ5 else .ok none ρ4)
        xs ρ1 []).bind fun ys ρ2 => .ok (.own (if keep then .lsto ys else .lst ys)) (rest ρ1 ρ2 vs) else .no
  | .xis c, ρ => match C.ξ with
    | some x => R.of ((isTy Κ x (.cls c)).map .bl) ρ
    | none => .no
  | .xfld f, ρ => match C.ξ with
    | some x => R.of (plain (fldD x f)) ρ
    | none => .no
  | .lrng es, ρ => (evL es ρ).bind fun ds ρ1 => R.of ((rngOf ds).map fun xs => .own (.lst xs)) ρ1
def evT : Option E → Env → R Bool
  | none, ρ => .ok true ρ
  | some e, ρ => (ev e ρ).bind fun d ρ1 => match d with
    | .bl b => .ok b ρ1
    | _ => .no
def evO : Option E → Env → Option (Option Int)
  | none, _ => some none
  | some e, ρ => match qe e ρ with
    | some (.int i) => some (some i)
    | _ => none
def evL : List E → Env → R (List D)
  | [], ρ => .ok [] ρ
  | e :: es, ρ => (ev e ρ).bind fun d ρ1 => (evL es ρ1).bind fun ds ρ2 => .ok (d :: ds) ρ2
def evA : List E → Env → R (List Arg)
  | [], ρ => .ok [] ρ
  | e :: es, ρ => match recvOf e with
    | some i => if (slot ρ i).isSome then (evA es ρ).bind fun as ρ1 => .ok (.s i :: as) ρ1 else .no
    | none => (ev e ρ).bind fun d ρ1 => (evA es ρ1).bind fun as ρ2 => .ok (.v d :: as) ρ2
def evI : It → Env → R (List D)
  | .seq e, ρ => (ev e ρ).bind fun d ρ1 => R.of ((itemsI d).map fun xs => xs.map D.un) ρ1
  | .rng es, ρ => (evL es ρ).bind fun ds ρ1 => R.of (rngOf ds) ρ1
  | .enm e, ρ => (ev e ρ).bind fun d ρ1 => R.of ((itemsOf d).map (enumD 0)) ρ1
  | .zip a b, ρ => (ev a ρ).bind fun x ρ1 => (ev b ρ1).bind fun y ρ2 => match itemsOf x, itemsOf y with
    | some xs, some ys => .ok (zipD xs ys) ρ2
    | _, _ => .no
end
end
end Vm

namespace Vm
open PySem
@[irreducible] def fuel : Nat := 1000000
def forGo (tg : Tg) (body : Env → R Fl) : List D → Env → R Fl
  | [], ρ => .ok .nx ρ
  | x :: xs, ρ => match bindT tg x ρ with
    | none => .no
    | some ρ1 => match body ρ1 with
      | .ok .nx ρ2 => forGo tg body xs ρ2
      | .ok .cont ρ2 => forGo tg body xs ρ2
      | r => r
def whGo (c : Env → R D) (body : Env → R Fl) : Nat → Env → R Fl
  | 0, _ => .no
  | n + 1, ρ => (c ρ).bind fun d ρ1 => match d with
    | .bl true => match body ρ1 with
      | .ok .nx ρ2 => whGo c body n ρ2
      | .ok .cont ρ2 => whGo c body n ρ2
      | r => r
    | .bl false => .ok .nx ρ1
    | _ => .no
/-- what a clause takes -/
def catches (Κ : Nat → Option Cls) (c : Nat) (e : D) : Option Bool := match e with
  | .exc c' _ => (Κ c').map fun k => (c' == c) || k.up.contains c
  | _ => none
section
variable (Κ : Nat → Option Cls)
mutual
def exec : S → Cf → Env → R Fl
  | .asg tg e, C, ρ => (ev Κ C e ρ).bind fun d ρ1 => R.of (bindT tg (match tg with | .nm _ => d | .tp _ => d.un) ρ1) ρ1 |>.bind fun ρ2 _ => .ok .nx ρ2
  | .par is es, C, ρ => (evL Κ C es ρ).bind fun ds ρ1 => R.of (bindPar is ds ρ1) ρ1 |>.bind fun ρ2 _ => .ok .nx ρ2
  | .setI p i e, C, ρ => match p with
    | .loc j => (ev Κ C e ρ).bind fun v ρ1 => if isOL (slot ρ1 j) then (ev Κ C i ρ1).bind fun k ρ2 => match olOf (slot ρ2 j), k with
        | some xs, .int n => match ixN xs.length n with
          | some q => .ok .nx (ρ2.set j (some (.own (.lst (xs.set q v.un)))))
          | none => .no
        | _, _ => .no
      else .no
    | p => (ev Κ C e ρ).bind fun v ρ1 => match qe i ρ1 with
      | some k => R.of (updP p (fun d => setItemD d k v.un) ρ1) ρ1 |>.bind fun ρ3 _ => .ok .nx ρ3
      | none => .no
  | .setF p f e, C, ρ => match p with
    | .loc j => (ev Κ C e ρ).bind fun v ρ1 => match slot ρ1 j with
      | some (.own (.ins c gs vs)) => if gs.length < 1000 then .ok .nx (ρ1.set j (some (.own (.ins c (putF f v.un gs vs).1 (putF f v.un gs vs).2)))) else .no
      | _ => .no
    | _ => .no
  | .augN i o e, C, ρ => match slot ρ i with
    | some (.int x) => (ev Κ C e ρ).bind fun v ρ1 => match v with
      | .int y => R.of (bop o (.int x) (.int y)) ρ1 |>.bind fun z ρ2 => .ok .nx (ρ2.set i (some z))
      | _ => .no
    | _ => .no
  | .augI p i o e, C, ρ => match qe i ρ, qe e ρ, rp p ρ with
    | some k, some v, some d => match itemD d.un k with
      | some (.int x) => match bop o (.int x) v with
        | some (.int z) => R.of (updP p (fun d => setItemD d k (.int z)) ρ) ρ |>.bind fun ρ2 _ => .ok .nx ρ2
        | _ => .no
      | _ => .no
    | _, _, _ => .no
  | .ex e, C, ρ => (ev Κ C e ρ).bind fun _ ρ1 => .ok .nx ρ1
  | .if_ c a b, C, ρ => (ev Κ C c ρ).bind fun d ρ1 => match d with
    | .bl true => execs a C ρ1
    | .bl false => execs b C ρ1
    | _ => .no
  | .for_ tg it b, C, ρ => (evI Κ C it ρ).bind fun xs ρ1 => forGo tg (fun ρ2 => execs b C ρ2) xs ρ1
  | .while_ c b, C, ρ => whGo (fun ρ2 => ev Κ C c ρ2) (fun ρ2 => execs b C ρ2) fuel ρ
  | .ret e, C, ρ => match e with
    | .rd (.loc i) => match slot ρ i with
      | some d => .ok (.ret d) (ρ.set i none)
      | none => .no
    | e => (ev Κ C e ρ).bind fun d ρ1 => .ok (.ret d) ρ1
  | .raise_ c es, C, ρ => (evL Κ C es ρ).bind fun ds ρ1 => .ex (.exc c (ds.map D.un)) ρ1
  | .try_ b c nm h, C, ρ => match execs b C ρ with
    | .ex e ρ1 => match catches Κ c e with
      | some true => match nm with
        | some i => if i < ρ1.length then match execs h { Φ := fun _ _ => .no, ξ := some e } (ρ1.set i none) with
            | .ok f ρ2 => .ok f (ρ2.set i none)
            | .ex e2 ρ2 => .no
            | .no => .no
          else .no
        | none => match execs h { Φ := fun _ _ => .no, ξ := none } ρ1 with
          | .ok f ρ2 => .ok f ρ2
          | .ex e2 ρ2 => .no
          | .no => .no
      | some false => .ex e ρ1
      | none => .no
    | r => r
  | .pass, C, ρ => .ok .nx ρ
  | .cont, C, ρ => .ok .cont ρ
def execs : List S → Cf → Env → R Fl
  | [], C, ρ => .ok .nx ρ
  | s :: ss, C, ρ => match exec s C ρ with
    | .ok .nx ρ1 => execs ss C ρ1
    | r => r
end
end
/-- a def: its parameters, its slots, which parameters its body leaves as they stand, its body -/
structure FD where
  np : Nat
  ns : Nat
  keep : List Bool
  body : List S
def outsOf : List Bool → Env → Env
  | k :: ks, o :: os => (if k then o else none) :: outsOf ks os
  | _, _ => []
def callF (Κ : Nat → Option Cls) (Γ : Nat → Option FD) : Nat → Nat → List D → R D
  | 0, _, _ => .no
  | n + 1, f, args => match Γ f with
    | some fd => if args.length = fd.np then
        match execs Κ fd.body { Φ := callF Κ Γ n } (args.map some ++ List.replicate (fd.ns - fd.np) none) with
        | .ok (.ret d) ρ => .ok d (outsOf fd.keep ρ)
        | .ok .nx ρ => .ok .non (outsOf fd.keep ρ)
        | .ex e ρ => .ex e (outsOf fd.keep ρ)
        | _ => .no
      else .no
    | none => .no
end Vm
/-! #### part Vb -/
/-! V and the abstract heap. -/
namespace Vm
open PySem PySem.Spec L2
abbrev AS := Addr → Prop
abbrev LSt := List (Option V)

def fieldNames : List String := ["persons", "size", "classes", "plan", "begins", "board", "bounds", "most", "lots", "places", "rows", "joined", "sums", "part", "line"]
def fname (f : Nat) : PySem.Str := if f < 15 then PySem.Str.ofString (fieldNames.getD f "") else ⟨#[0, f]⟩
theorem fname_inj {f g : Nat} (h : fname f = fname g) : f = g := by
  unfold fname at h
  have A : ∀ a : _root_.Fin 15, ∀ b : _root_.Fin 15, PySem.Str.ofString (fieldNames.getD a "") = PySem.Str.ofString (fieldNames.getD b "") → a = b := by decide +kernel
  have B : ∀ a : _root_.Fin 15, (PySem.Str.ofString (fieldNames.getD a "")).cps[0]? ≠ some 0 := by decide +kernel
  split at h <;> split at h
  · rename_i h1 h2
    exact congrArg _root_.Fin.val (A ⟨f, h1⟩ ⟨g, h2⟩ h)
  · rename_i h1 h2
    exact absurd (by rw [h]; rfl) (B ⟨f, h1⟩)
  · rename_i h1 h2
    exact absurd (by rw [← h]; rfl) (B ⟨g, h2⟩)
  · have := congrArg (fun s : PySem.Str => s.cps[1]?) h
    simpa using this

/-- where the text's things stand -/
structure XI where
  i : Nat
  a : Addr
  cls : Value
  dx : Option Addr
  d : D
structure Tab where
  K : PySem.W.Frag
  cls : Nat → Option Addr
  xcl : Nat → Option Addr
  fns : Nat → Option Addr
  ξ : Option XI := none

mutual
/-- v stands for d, none of its lists being owned (O) -/
inductive Rep (T : Tab) (O : AS) (H : Hp) : V → D → Prop
  | non : Rep T O H .non .non
  | bl (b : Bool) : Rep T O H (.bl b) (.bl b)
  | int (i : Int) : Rep T O H (.int i) (.int i)
  | str (x : PySem.Str) : Rep T O H (.str x) (.str x)
  | tup {a : Addr} {xs : List V} {ds : List D} : H a = some (.tup xs) → ¬ O a → RepL T O H xs ds → Rep T O H (.ref a) (.tup ds)
  | lst {a : Addr} {xs : List V} {ds : List D} : H a = some (.lst xs) → ¬ O a → RepL T O H xs ds → Rep T O H (.ref a) (.lst ds)
  | scr {a : Addr} {o : Obj} {xs : List V} {ds : List D} : H a = some (.frz o (.lst xs)) → ¬ O a → RepL T O H xs ds → Rep T O H (.ref a) (.scr ds)
  | lsto {a : Addr} {xs : List V} {ds : List D} : H a = some (.lst xs) → ¬ O a → RepL T O H xs ds → Rep T O H (.ref a) (.lsto ds)
  | dct0 {a : Addr} : H a = some (.dK []) → ¬ O a → Rep T O H (.ref a) (.dct [] [])
  | ins {a C dx : Addr} {fs : List (PySem.Str × V)} {c : Nat} {gs : List Nat} {vs : List D} : T.cls c = some C → H a = some (.ins C dx fs) → ¬ O a → fs.map (·.1) = gs.map fname → RepL T O H (fs.map (·.2)) vs → Rep T O H (.ref a) (.ins c gs vs)
  | fn {f : Nat} {a : Addr} : T.fns f = some a → Rep T O H (.ref a) (.fn f)
  | own {v : V} {d : D} : d.isOwn = false → Rep T O H v d → Rep T O H v (.own d)
inductive RepL (T : Tab) (O : AS) (H : Hp) : List V → List D → Prop
  | nil : RepL T O H [] []
  | cons {v : V} {vs : List V} {d : D} {ds : List D} : Rep T O H v d → RepL T O H vs ds → RepL T O H (v :: vs) (d :: ds)
end
mutual
/-- v stands for d; A is where it alone leads -/
inductive Own (T : Tab) (O : AS) (H : Hp) : V → D → AS → Prop
  | lst {a : Addr} {xs : List V} {ds : List D} {A : AS} : H a = some (.lst xs) → RepL T O H xs ds → (∀ b, A b ↔ b = a) → Own T O H (.ref a) (.lst ds) A
  | lsto {a : Addr} {xs : List V} {ds : List D} {A B : AS} : H a = some (.lst xs) → OwnL T O H xs ds B → ¬ B a → (∀ b, A b ↔ b = a ∨ B b) → Own T O H (.ref a) (.lsto ds) A
  | dct0 {a : Addr} {A : AS} : H a = some (.dK []) → (∀ b, A b ↔ b = a) → Own T O H (.ref a) (.dct [] []) A
  | ins {a C dx : Addr} {fs : List (PySem.Str × V)} {c : Nat} {gs : List Nat} {vs : List D} {A B : AS} : T.cls c = some C → H a = some (.ins C dx fs) → fs.map (·.1) = gs.map fname → OwnL T O H (fs.map (·.2)) vs B → ¬ B a → (∀ b, A b ↔ b = a ∨ B b) → Own T O H (.ref a) (.ins c gs vs) A
inductive OwnL (T : Tab) (O : AS) (H : Hp) : List V → List D → AS → Prop
  | nil {B : AS} : (∀ b, ¬ B b) → OwnL T O H [] [] B
  | rep {v : V} {vs : List V} {d : D} {ds : List D} {B : AS} : d.isOwn = false → Rep T O H v d → OwnL T O H vs ds B → OwnL T O H (v :: vs) (d :: ds) B
  | own {v : V} {vs : List V} {d : D} {ds : List D} {A B C : AS} : Own T O H v d A → OwnL T O H vs ds B → (∀ b, A b → ¬ B b) → (∀ b, C b ↔ A b ∨ B b) → OwnL T O H (v :: vs) (.own d :: ds) C
end

/-- what is shared stays as it is, and shared; what is foreign (F) stays -/
structure Keep (F O : AS) (H : Hp) (O' : AS) (H' : Hp) : Prop where
  sh : ∀ a o, H a = some o → (∀ ps, o ≠ .tbl ps) → ¬ O a → H' a = some o ∧ ¬ O' a
  fo : ∀ a, F a → H' a = H a
theorem Keep.refl (F O : AS) (H : Hp) : Keep F O H O H := ⟨fun _ _ h _ n => ⟨h, n⟩, fun _ _ => rfl⟩
theorem Keep.trans {F F1 O O1 O2 : AS} {H H1 H2 : Hp} (a : Keep F O H O1 H1) (b : Keep F1 O1 H1 O2 H2) (hF : ∀ x, F x → F1 x) : Keep F O H O2 H2 :=
  ⟨fun x o h t n => b.sh x o (a.sh x o h t n).1 t (a.sh x o h t n).2, fun x h => (b.fo x (hF x h)).trans (a.fo x h)⟩
theorem Keep.less {F F1 O O1 : AS} {H H1 : Hp} (a : Keep F O H O1 H1) (hF : ∀ x, F1 x → F x) : Keep F1 O H O1 H1 := ⟨a.sh, fun x h => a.fo x (hF x h)⟩

theorem Rd.kept {H H' : Hp} {O O' : AS} {a : Addr} {xs : List V} (h : Rd H a (.lst xs)) (n : ¬ O a) (k : ∀ a o, H a = some o → (∀ ps, o ≠ .tbl ps) → ¬ O a → H' a = some o ∧ ¬ O' a) : Rd H' a (.lst xs) ∧ ¬ O' a := by
  rcases h with h | ⟨o, h⟩
  · exact ⟨.inl (k _ _ h (fun _ => by intro z; cases z) n).1, (k _ _ h (fun _ => by intro z; cases z) n).2⟩
  · exact ⟨.inr ⟨o, (k _ _ h (fun _ => by intro z; cases z) n).1⟩, (k _ _ h (fun _ => by intro z; cases z) n).2⟩

mutual
theorem Rep.keep {T : Tab} {O O' : AS} {H H' : Hp} (k : ∀ a o, H a = some o → (∀ ps, o ≠ .tbl ps) → ¬ O a → H' a = some o ∧ ¬ O' a) : ∀ (d : D) (v : V), Rep T O H v d → Rep T O' H' v d
  | _, _, .non => .non
  | _, _, .bl b => .bl b
  | _, _, .int i => .int i
  | _, _, .str x => .str x
  | .tup ds, _, .tup h n r => .tup (k _ _ h (fun _ => by intro z; cases z) n).1 (k _ _ h (fun _ => by intro z; cases z) n).2 (RepL.keep k ds _ r)
  | .lst ds, _, .lst h n r => .lst (k _ _ h (fun _ => by intro z; cases z) n).1 (k _ _ h (fun _ => by intro z; cases z) n).2 (RepL.keep k ds _ r)
  | .scr ds, _, .scr h n r => .scr (k _ _ h (fun _ => by intro z; cases z) n).1 (k _ _ h (fun _ => by intro z; cases z) n).2 (RepL.keep k ds _ r)
  | .lsto ds, _, .lsto h n r => .lsto (k _ _ h (fun _ => by intro z; cases z) n).1 (k _ _ h (fun _ => by intro z; cases z) n).2 (RepL.keep k ds _ r)
  | _, _, .dct0 h n => .dct0 (k _ _ h (fun _ => by intro z; cases z) n).1 (k _ _ h (fun _ => by intro z; cases z) n).2
  | .ins c gs vs, _, .ins e h n m r => .ins e (k _ _ h (fun _ => by intro z; cases z) n).1 (k _ _ h (fun _ => by intro z; cases z) n).2 m (RepL.keep k vs _ r)
  | _, _, .fn e => .fn e
  | .own d, v, .own n r => .own n (Rep.keep k d v r)
theorem RepL.keep {T : Tab} {O O' : AS} {H H' : Hp} (k : ∀ a o, H a = some o → (∀ ps, o ≠ .tbl ps) → ¬ O a → H' a = some o ∧ ¬ O' a) : ∀ (ds : List D) (vs : List V), RepL T O H vs ds → RepL T O' H' vs ds
  | [], _, .nil => .nil
  | d :: ds, _, .cons r t => .cons (Rep.keep k d _ r) (RepL.keep k ds _ t)
end
mutual
/-- an owned tree stays where its own addresses stay -/
theorem Own.keep {T : Tab} {O O' : AS} {H H' : Hp} (k : ∀ a o, H a = some o → (∀ ps, o ≠ .tbl ps) → ¬ O a → H' a = some o ∧ ¬ O' a) : ∀ (d : D) (v : V) (A : AS), Own T O H v d A → (∀ a, A a → H' a = H a) → Own T O' H' v d A
  | .lst ds, _, _, .lst h r e, f => .lst ((f _ ((e _).mpr rfl)).trans h) (RepL.keep k ds _ r) e
  | .lsto ds, _, _, .lsto h r n e, f => .lsto ((f _ ((e _).mpr (.inl rfl))).trans h) (OwnL.keep k ds _ _ r fun a ha => f a ((e a).mpr (.inr ha))) n e
  | _, _, _, .dct0 h e, f => .dct0 ((f _ ((e _).mpr rfl)).trans h) e
  | .ins c gs vs, _, _, .ins c1 h m r n e, f => .ins c1 ((f _ ((e _).mpr (.inl rfl))).trans h) m (OwnL.keep k vs _ _ r fun a ha => f a ((e a).mpr (.inr ha))) n e
theorem OwnL.keep {T : Tab} {O O' : AS} {H H' : Hp} (k : ∀ a o, H a = some o → (∀ ps, o ≠ .tbl ps) → ¬ O a → H' a = some o ∧ ¬ O' a) : ∀ (ds : List D) (vs : List V) (B : AS), OwnL T O H vs ds B → (∀ a, B a → H' a = H a) → OwnL T O' H' vs ds B
  | _, _, _, .nil h, _ => .nil h
  | d :: ds, _, _, .rep n r t, f => .rep n (Rep.keep k d _ r) (OwnL.keep k ds _ _ t f)
  | .own d :: ds, _, _, .own r t n e, f => .own (Own.keep k d _ _ r fun a ha => f a ((e a).mpr (.inl ha))) (OwnL.keep k ds _ _ t fun a ha => f a ((e a).mpr (.inr ha))) n e
end
end Vm
/-! #### part Vb2 -/
namespace Vm
open PySem PySem.Spec L2
theorem Own.plain {T : Tab} {O A : AS} {H : Hp} {v : V} {d : D} (r : Own T O H v d A) : d.isOwn = false := by cases r <;> rfl
mutual
/-- an owned tree given away -/
theorem Own.share {T : Tab} {O O' : AS} {H : Hp} (k : ∀ a, ¬ O a → ¬ O' a) : ∀ (d : D) (v : V) (A : AS), Own T O H v d A → (∀ a, A a → ¬ O' a) → Rep T O' H v d
  | .lst ds, _, _, .lst h r e, f => .lst h (f _ ((e _).mpr rfl)) (RepL.keep (fun a o h _ n => ⟨h, k a n⟩) ds _ r)
  | .lsto ds, _, _, .lsto h r n e, f => .lsto h (f _ ((e _).mpr (.inl rfl))) (OwnL.share k ds _ _ r fun a ha => f a ((e a).mpr (.inr ha)))
  | _, _, _, .dct0 h e, f => .dct0 h (f _ ((e _).mpr rfl))
  | .ins c gs vs, _, _, .ins c1 h m r n e, f => .ins c1 h (f _ ((e _).mpr (.inl rfl))) m (OwnL.share k vs _ _ r fun a ha => f a ((e a).mpr (.inr ha)))
theorem OwnL.share {T : Tab} {O O' : AS} {H : Hp} (k : ∀ a, ¬ O a → ¬ O' a) : ∀ (ds : List D) (vs : List V) (B : AS), OwnL T O H vs ds B → (∀ a, B a → ¬ O' a) → RepL T O' H vs ds
  | [], _, _, .nil h, _ => .nil
  | d :: ds, _, _, .rep n r t, f => .cons (Rep.keep (fun a o h _ n => ⟨h, k a n⟩) d _ r) (OwnL.share k ds _ _ t f)
  | .own d :: ds, _, _, .own r t n e, f => .cons (.own r.plain (Own.share k d _ _ r fun a ha => f a ((e a).mpr (.inl ha)))) (OwnL.share k ds _ _ t fun a ha => f a ((e a).mpr (.inr ha)))
end
/-- the exception x lies so -/
structure ExR (T : Tab) (O : AS) (H : Hp) (cls : Value) (dx : Option Addr) (x : D) : Prop where
  ex : ∃ c vs C, x = .exc c vs ∧ T.xcl c = some C ∧ cls = .ref C ∧ ((vs = [] ∧ dx = none) ∨ ∃ y v d, vs = [y] ∧ dx = some d ∧ H d = some (.xd [(fname (xfOf c), v)]) ∧ ¬ O d ∧ Rep T O H v y)
theorem ExR.keep {T : Tab} {O O' : AS} {H H' : Hp} {cls : Value} {dx : Option Addr} {x : D} (e : ExR T O H cls dx x) (k : ∀ a o, H a = some o → (∀ ps, o ≠ .tbl ps) → ¬ O a → H' a = some o ∧ ¬ O' a) : ExR T O' H' cls dx x := by
  obtain ⟨c, vs, C, rfl, e1, rfl, h⟩ := e
  refine ⟨c, vs, C, rfl, e1, rfl, ?_⟩
  rcases h with h | ⟨y, v, d, rfl, rfl, h1, h2, r⟩
  · exact .inl h
  · obtain ⟨k1, k2⟩ := k d _ h1 (fun _ => by intro z; cases z) h2
    exact .inr ⟨y, v, d, rfl, rfl, k1, k2, Rep.keep k _ _ r⟩
/-- a thing in a slot -/
def SlotR (T : Tab) (O : AS) (H : Hp) (o : Option D) (w : Option V) (A : AS) : Prop :=
  ∀ d, o = some d → ∃ v, w = some v ∧ ((∃ e, d = .own e ∧ Own T O H v e A) ∨ (d.isOwn = false ∧ Rep T O H v d))
theorem SlotR.keep {T : Tab} {O O' : AS} {H H' : Hp} {o : Option D} {w : Option V} {A : AS} (s : SlotR T O H o w A) (k : ∀ a o, H a = some o → (∀ ps, o ≠ .tbl ps) → ¬ O a → H' a = some o ∧ ¬ O' a) (f : ∀ a, A a → H' a = H a) : SlotR T O' H' o w A := fun d e => by
  obtain ⟨v, e1, h⟩ := s d e
  refine ⟨v, e1, ?_⟩
  rcases h with ⟨x, e2, h⟩ | ⟨n, h⟩
  · exact .inl ⟨x, e2, Own.keep k _ _ _ h f⟩
  · exact .inr ⟨n, Rep.keep k _ _ h⟩
theorem SlotR.none {T : Tab} {O : AS} {H : Hp} {w : Option V} {A : AS} : SlotR T O H .none w A := fun _ e => nomatch e
/-- what is owned by whom: slot i leads alone to A i; F: by others -/
structure FRA (T : Tab) (O F : AS) (H : Hp) (ρ : Env) (σ : LSt) (A : Nat → AS) : Prop where
  len : ρ.length = σ.length
  slot : ∀ i, SlotR T O H (ρ[i]?.join) (σ[i]?.join) (A i)
  sub : ∀ i b, A i b → O b ∧ ¬ F b
  dis : ∀ i j b, i ≠ j → A i b → ¬ A j b
  fo : ∀ b, F b → O b
  trk : ∀ b, O b → ∃ o, H b = some o ∧ ∀ ps, o ≠ .tbl ps
  xc : ∀ z, T.ξ = some z → ExR T O H z.cls z.dx z.d
def FR (T : Tab) (O F : AS) (H : Hp) (ρ : Env) (σ : LSt) : Prop := ∃ A, FRA T O F H ρ σ A
section
variable {T : Tab} {O O' F F' : AS} {H H' : Hp} {ρ ρ' τ : Env} {σ σ' ς : LSt} {A : Nat → AS}
theorem FR.length (h : FR T O F H ρ σ) : ρ.length = σ.length := h.choose_spec.len
/-- the rest is foreign to the front; put together again -/
theorem FR.frame (h : FR T O F H (ρ ++ τ) (σ ++ ς)) (hl : ρ.length = σ.length) : ∃ F' : AS, FR T O F' H ρ σ ∧ (∀ b, F b → F' b) ∧
    ∀ (O' : AS) (H' : Hp) (ρ' : Env) (σ' : LSt), Keep F' O H O' H' → FR T O' F' H' ρ' σ' → FR T O' F H' (ρ' ++ τ) (σ' ++ ς) := by
  obtain ⟨A, h⟩ := h
  have gl : ∀ {α : Type} (x y : List (Option α)) (i : Nat), i < x.length → (x ++ y)[i]? = x[i]? := fun x y i hi => List.getElem?_append_left hi
  have gr : ∀ {α : Type} (x y : List (Option α)) (i : Nat), x.length ≤ i → (x ++ y)[i]? = y[i - x.length]? := fun x y i hi => List.getElem?_append_right hi
  refine ⟨fun b => F b ∨ ∃ i, ρ.length ≤ i ∧ A i b, ⟨fun i => if i < ρ.length then A i else fun _ => False, ?_⟩, fun b hb => .inl hb, ?_⟩
  · refine ⟨hl, fun i => ?_, fun i b hb => ?_, fun i j b ne hb => ?_, fun b hb => ?_, h.trk, h.xc⟩
    · by_cases hi : i < ρ.length
      · have := h.slot i
        rw [gl ρ τ i hi, gl σ ς i (hl ▸ hi)] at this
        simpa [hi] using this
      · have e : ρ[i]? = none := List.getElem?_eq_none (Nat.le_of_not_lt hi)
        rw [e]
        exact SlotR.none
    · by_cases hi : i < ρ.length
      · simp only [hi, if_true] at hb
        refine ⟨(h.sub i b hb).1, fun z => ?_⟩
        rcases z with z | ⟨j, hj, z⟩
        · exact (h.sub i b hb).2 z
        · exact h.dis i j b (by omega) hb z
      · simp only [hi, if_false] at hb
    · by_cases hi : i < ρ.length
      · simp only [hi, if_true] at hb
        by_cases hj : j < ρ.length
        · simp only [hj, if_true]
          exact h.dis i j b ne hb
        · simp only [hj, if_false]
          exact fun z => z
      · simp only [hi, if_false] at hb
    · rcases hb with hb | ⟨j, hj, hb⟩
      · exact h.fo b hb
      · exact (h.sub j b hb).1
  · rintro O' H' ρ' σ' k ⟨A', h'⟩
    refine ⟨fun i => if i < ρ'.length then A' i else A (i - ρ'.length + ρ.length), ?_⟩
    have big : ∀ i b, A (i - ρ'.length + ρ.length) b → F b ∨ ∃ j, ρ.length ≤ j ∧ A j b := fun i b hb => .inr ⟨_, by omega, hb⟩
    refine ⟨?_, fun i => ?_, fun i b hb => ?_, fun i j b ne hb => ?_, fun b hb => h'.fo b (.inl hb), h'.trk, h'.xc⟩
    · have := h.len
      rw [List.length_append, List.length_append] at this ⊢
      have := h'.len
      omega
    · by_cases hi : i < ρ'.length
      · rw [gl ρ' τ i hi, gl σ' ς i (h'.len ▸ hi)]
        simpa [hi] using h'.slot i
      · simp only [hi, if_false]
        have hi' : ρ'.length ≤ i := Nat.le_of_not_lt hi
        rw [gr ρ' τ i hi', gr σ' ς i (h'.len ▸ hi')]
        have z := h.slot (i - ρ'.length + ρ.length)
        rw [gr ρ τ _ (by omega), gr σ ς _ (by omega), ← hl, Nat.add_sub_cancel] at z
        rw [← h'.len]
        exact z.keep k.sh fun a ha => k.fo a (big i a ha)
    · by_cases hi : i < ρ'.length
      · simp only [hi, if_true] at hb
        exact ⟨(h'.sub i b hb).1, fun z => (h'.sub i b hb).2 (.inl z)⟩
      · simp only [hi, if_false] at hb
        exact ⟨h'.fo b (big i b hb), (h.sub _ b hb).2⟩
    · by_cases hi : i < ρ'.length
      · simp only [hi, if_true] at hb
        by_cases hj : j < ρ'.length
        · simp only [hj, if_true]
          exact h'.dis i j b ne hb
        · simp only [hj, if_false]
          exact fun z => (h'.sub i b hb).2 (big j b z)
      · simp only [hi, if_false] at hb
        by_cases hj : j < ρ'.length
        · simp only [hj, if_true]
          exact fun z => (h'.sub j b z).2 (big i b hb)
        · simp only [hj, if_false]
          exact h.dis _ _ b (by omega) hb
end
end Vm
/-! #### part Vb3 -/
namespace Vm
open PySem PySem.Spec L2
def emp : AS := fun _ => False
/-- as it is read -/
abbrev View (T : Tab) (H : Hp) (v : V) (d : D) : Prop := Rep T emp H v d
abbrev ViewL (T : Tab) (H : Hp) (vs : List V) (ds : List D) : Prop := RepL T emp H vs ds
theorem Rep.view {T : Tab} {O : AS} {H : Hp} {v : V} {d : D} (r : Rep T O H v d) : View T H v d := Rep.keep (fun a o h _ _ => ⟨h, fun z => z⟩) d v r
theorem RepL.view {T : Tab} {O : AS} {H : Hp} {v : List V} {d : List D} (r : RepL T O H v d) : ViewL T H v d := RepL.keep (fun a o h _ _ => ⟨h, fun z => z⟩) d v r
theorem Own.view {T : Tab} {O A : AS} {H : Hp} {v : V} {d : D} (r : Own T O H v d A) : View T H v d := Own.share (fun _ _ z => z) d v A r fun _ _ z => z
theorem Own.at_ {T : Tab} {O A : AS} {H : Hp} {v : V} {d : D} (r : Own T O H v d A) : ∃ a, v = .ref a ∧ A a := by
  cases r with
  | lst h r e => exact ⟨_, rfl, (e _).mpr rfl⟩
  | lsto h r n e => exact ⟨_, rfl, (e _).mpr (.inl rfl)⟩
  | dct0 h e => exact ⟨_, rfl, (e _).mpr rfl⟩
  | ins c h m r n e => exact ⟨_, rfl, (e _).mpr (.inl rfl)⟩
theorem un_of {d : D} (h : d.isOwn = false) : d.un = d := by
  cases d with
  | own e => cases h
  | _ => rfl
theorem un_own {d : D} : (D.own d).un = d := rfl
theorem Rep.un {T : Tab} {O : AS} {H : Hp} {v : V} {d : D} (r : Rep T O H v d) : Rep T O H v d.un := by
  cases r with
  | own n r => exact r
  | non => exact .non
  | bl b => exact .bl b
  | int b => exact .int b
  | str b => exact .str b
  | tup h n r => exact .tup h n r
  | lst h n r => exact .lst h n r
  | lsto h n r => exact .lsto h n r
  | scr h n r => exact .scr h n r
  | dct0 h n => exact .dct0 h n
  | ins c h n m r => exact .ins c h n m r
  | fn e => exact .fn e
theorem Rep.unOwn {T : Tab} {O : AS} {H : Hp} {v : V} {d : D} (r : Rep T O H v d) : d.un.isOwn = false := by
  cases r <;> first | rfl | assumption
section
variable {T : Tab} {O O' F F' : AS} {H H' : Hp} {ρ ρ' τ : Env} {σ σ' ς : LSt}
theorem FR.fo (h : FR T O F H ρ σ) : ∀ b, F b → O b := h.choose_spec.fo
theorem FR.trk (h : FR T O F H ρ σ) : ∀ b, O b → ∃ o, H b = some o ∧ ∀ ps, o ≠ .tbl ps := h.choose_spec.trk
theorem FR.free (h : FR T O F H ρ σ) {p : Addr} (n : H p = none) : ¬ O p := fun z => by
  obtain ⟨o, e, _⟩ := h.trk p z
  rw [n] at e
  cases e
/-- a slot's thing -/
theorem FR.get (h : FR T O F H ρ σ) {i : Nat} {d : D} (e : slot ρ i = some d) : ∃ v, σ[i]?.join = some v ∧ ((∃ x A, d = .own x ∧ Own T O H v x A) ∨ (d.isOwn = false ∧ Rep T O H v d)) := by
  obtain ⟨A, h⟩ := h
  obtain ⟨v, e1, q⟩ := h.slot i d e
  refine ⟨v, e1, ?_⟩
  rcases q with ⟨x, e2, q⟩ | q
  · exact .inl ⟨x, A i, e2, q⟩
  · exact .inr q
theorem FR.view (h : FR T O F H ρ σ) {i : Nat} {d : D} (e : slot ρ i = some d) : ∃ v, σ[i]?.join = some v ∧ View T H v d.un := by
  obtain ⟨v, e1, q⟩ := h.get e
  refine ⟨v, e1, ?_⟩
  rcases q with ⟨x, A, rfl, q⟩ | ⟨n, q⟩
  · exact q.view
  · exact q.view.un
theorem join_lt {α : Type} {l : List (Option α)} {i : Nat} {a : α} (h : l[i]?.join = some a) : i < l.length ∧ l[i]? = some (some a) := by
  cases e : l[i]? with
  | none => rw [e] at h; cases h
  | some o =>
    rw [e] at h
    have h : o = some a := h
    subst h
    exact ⟨(List.getElem?_eq_some_iff.mp e).1, rfl⟩
/-- slots copied, left out, moved -/
theorem FR.reidx (h : FR T O F H ρ σ) (hl : ρ'.length = σ'.length) (f : Nat → Nat) (c : ∀ i d, slot ρ' i = some d → slot ρ (f i) = some d ∧ σ'[i]?.join = σ[f i]?.join)
    (j : ∀ i k d e, slot ρ' i = some d → slot ρ' k = some e → d.isOwn = true → e.isOwn = true → f i = f k → i = k) : FR T O F H ρ' σ' := by
  obtain ⟨A, h⟩ := h
  refine ⟨fun i b => A (f i) b ∧ ∃ d, slot ρ' i = some d ∧ d.isOwn = true, hl, fun i d e => ?_, fun i b hb => h.sub _ b hb.1, fun i k b ne hb hk => ?_, h.fo, h.trk, h.xc⟩
  · obtain ⟨c1, c2⟩ := c i d e
    obtain ⟨v, e1, q⟩ := h.slot (f i) d c1
    refine ⟨v, by rw [c2]; exact e1, ?_⟩
    rcases q with ⟨x, e2, q⟩ | q
    · refine .inl ⟨x, e2, ?_⟩
      have hx : ∀ b, (A (f i) b ∧ ∃ d, slot ρ' i = some d ∧ d.isOwn = true) ↔ A (f i) b := fun b => ⟨fun z => z.1, fun z => ⟨z, d, e, by rw [e2]; rfl⟩⟩
      have : (fun b => A (f i) b ∧ ∃ d, slot ρ' i = some d ∧ d.isOwn = true) = A (f i) := funext fun b => propext (hx b)
      rw [this]
      exact q
    · exact .inr q
  · obtain ⟨h1, d, e1, o1⟩ := hb
    obtain ⟨h2, d', e2, o2⟩ := hk
    by_cases q : f i = f k
    · exact ne (j i k d d' e1 e2 o1 o2 q)
    · exact h.dis _ _ b q h1 h2
theorem slot_app_lt {ρ τ : Env} {i : Nat} (h : i < ρ.length) : slot (ρ ++ τ) i = slot ρ i := by
  unfold slot
  rw [List.getElem?_append_left h]
theorem slot_app_ge {ρ τ : Env} {i : Nat} (h : ρ.length ≤ i) : slot (ρ ++ τ) i = slot τ (i - ρ.length) := by
  unfold slot
  rw [List.getElem?_append_right h]
theorem slot_out {ρ : Env} {i : Nat} (h : ρ.length ≤ i) : slot ρ i = none := by
  unfold slot
  rw [List.getElem?_eq_none h]
  rfl
theorem slot_lt {ρ : Env} {i : Nat} {d : D} (h : slot ρ i = some d) : i < ρ.length := (join_lt h).1
theorem slot_set_self {ρ : Env} {i : Nat} {o : Option D} (h : i < ρ.length) : slot (ρ.set i o) i = o := by
  unfold slot
  rw [List.getElem?_set_self h]
  rfl
theorem slot_set_ne {ρ : Env} {i j : Nat} {o : Option D} (h : i ≠ j) : slot (ρ.set i o) j = slot ρ j := by
  unfold slot
  rw [List.getElem?_set_ne h]
theorem slot_none {ρ : Env} {i j : Nat} : slot (ρ.set i none) j = if i = j then none else slot ρ j := by
  by_cases h : i = j
  · subst h
    rw [if_pos rfl]
    by_cases hl : i < ρ.length
    · exact slot_set_self hl
    · rw [List.set_eq_of_length_le (Nat.le_of_not_lt hl)]
      exact slot_out (Nat.le_of_not_lt hl)
  · rw [if_neg h, slot_set_ne h]
/-- the front alone -/
theorem FR.front (h : FR T O F H (ρ ++ τ) (σ ++ ς)) (hl : ρ.length = σ.length) : FR T O F H ρ σ :=
  h.reidx hl (fun i => i) (fun i d e => ⟨by rw [slot_app_lt (slot_lt e)]; exact e, by rw [List.getElem?_append_left (hl ▸ slot_lt e)]⟩) fun _ _ _ _ _ _ _ _ z => z
/-- a name is stored -/
theorem FR.store {d : D} {v : V} (h : FR T O F H (ρ ++ [some d]) (σ ++ [some v])) (hl : ρ.length = σ.length) (i : Nat) : FR T O F H (ρ.set i (some d)) (σ.set i (some v)) := by
  refine h.reidx (by rw [List.length_set, List.length_set]; exact hl) (fun k => if k = i then ρ.length else k) (fun k e q => ?_) (fun a b x y h1 h2 _ _ z => ?_)
  · have hk := slot_lt q
    rw [List.length_set] at hk
    by_cases he : k = i
    · subst he
      rw [slot_set_self hk] at q
      cases q
      rw [if_pos rfl, slot_app_ge (Nat.le_refl _), Nat.sub_self, List.getElem?_append_right (by omega), hl, Nat.sub_self, List.getElem?_set_self (by omega)]
      exact ⟨rfl, rfl⟩
    · rw [slot_set_ne (Ne.symm he)] at q
      rw [if_neg he, slot_app_lt hk, List.getElem?_append_left (by omega), List.getElem?_set_ne (Ne.symm he)]
      exact ⟨q, rfl⟩
  · have ha := slot_lt h1
    have hb := slot_lt h2
    rw [List.length_set] at ha hb
    by_cases e1 : a = i <;> by_cases e2 : b = i
    · rw [e1, e2]
    · rw [if_pos e1, if_neg e2] at z; omega
    · rw [if_neg e1, if_pos e2] at z; omega
    · rw [if_neg e1, if_neg e2] at z; exact z
/-- a slot forgotten -/
theorem FR.wipe1 (h : FR T O F H ρ σ) (i : Nat) : FR T O F H (ρ.set i none) σ := by
  refine h.reidx (by rw [List.length_set]; exact h.length) (fun k => k) (fun k e q => ?_) fun _ _ _ _ _ _ _ _ z => z
  rw [slot_none] at q
  split at q
  · cases q
  · exact ⟨q, rfl⟩
/-- another thing that is shared -/
theorem FR.add (h : FR T O F H ρ σ) {d : D} {v : V} (n : d.isOwn = false) (r : Rep T O H v d) : FR T O F H (ρ ++ [some d]) (σ ++ [some v]) := by
  obtain ⟨A, h⟩ := h
  refine ⟨fun i b => A i b ∧ i < ρ.length, by rw [List.length_append, List.length_append, h.len]; rfl, fun i e q => ?_, fun i b hb => h.sub i b hb.1, fun i j b ne hb hj => h.dis i j b ne hb.1 hj.1, h.fo, h.trk, h.xc⟩
  by_cases hi : i < ρ.length
  · rw [List.getElem?_append_left hi] at q
    rw [List.getElem?_append_left (h.len ▸ hi)]
    have := h.slot i e q
    simpa [hi] using this
  · have q' : slot (ρ ++ [some d]) i = some e := q
    rw [slot_app_ge (Nat.le_of_not_lt hi)] at q'
    have h1 := slot_lt q'
    have h0 : i = ρ.length := by simp at h1; omega
    subst h0
    rw [Nat.sub_self] at q'
    cases q'
    rw [List.getElem?_append_right (by have := h.len; omega), h.len, Nat.sub_self]
    exact ⟨v, rfl, .inr ⟨n, r⟩⟩
/-- a new object at p -/
theorem FR.grow (h : FR T O F H ρ σ) {p : Addr} {o : HO} (n : H p = none) : FR T O F (upd H p o) ρ σ ∧ Keep F O H O (upd H p o) := by
  have at_ : ∀ b u, H b = some u → upd H p o b = some u := fun b u e => by rw [upd_ne (ne_of_none e n)]; exact e
  have hk : Keep F O H O (upd H p o) := ⟨fun a u e _ no => ⟨at_ a u e, no⟩, fun a ha => by
    obtain ⟨u, e, _⟩ := h.trk a (h.fo a ha)
    rw [e]
    exact at_ a u e⟩
  obtain ⟨A, h'⟩ := id h
  refine ⟨⟨A, h'.len, fun i => (h'.slot i).keep hk.sh fun a ha => ?_, h'.sub, h'.dis, h'.fo, fun b hb => ?_, fun z e => (h'.xc z e).keep hk.sh⟩, hk⟩
  · obtain ⟨u, e, _⟩ := h.trk a (h'.sub i a ha).1
    rw [e]
    exact at_ a u e
  · obtain ⟨u, e, z⟩ := h.trk b hb
    exact ⟨u, at_ b u e, z⟩
/-- a new owned object at p -/
theorem FR.own1 (h : FR T O F H ρ σ) {p : Addr} {o : HO} {d : D} (ht : ∀ ps, o ≠ .tbl ps) (n : H p = none) (w : Own T (fun b => b = p ∨ O b) (upd H p o) (.ref p) d (fun b => b = p)) :
    FR T (fun b => b = p ∨ O b) F (upd H p o) (ρ ++ [some (.own d)]) (σ ++ [some (.ref p)]) ∧ Keep F O H (fun b => b = p ∨ O b) (upd H p o) := by
  have nO := h.free n
  have at_ : ∀ b u, H b = some u → upd H p o b = some u := fun b u e => by rw [upd_ne (ne_of_none e n)]; exact e
  have hk : Keep F O H (fun b => b = p ∨ O b) (upd H p o) := ⟨fun a u e _ no => ⟨at_ a u e, fun z => z.elim (fun z => by rw [z, n] at e; cases e) no⟩, fun a ha => by
    obtain ⟨u, e, _⟩ := h.trk a (h.fo a ha)
    rw [e]
    exact at_ a u e⟩
  refine ⟨?_, hk⟩
  obtain ⟨A, h'⟩ := id h
  refine ⟨fun i b => if i < ρ.length then A i b else b = p ∧ i = ρ.length, by rw [List.length_append, List.length_append, h'.len]; rfl, fun i e q => ?_, fun i b hb => ?_, fun i j b ne hb hj => ?_, fun b hb => .inr (h'.fo b hb), fun b hb => ?_, fun z e => (h'.xc z e).keep hk.sh⟩
  · by_cases hi : i < ρ.length
    · rw [List.getElem?_append_left hi] at q
      rw [List.getElem?_append_left (h'.len ▸ hi)]
      have z := ((h'.slot i).keep hk.sh fun a ha => by
        obtain ⟨u, e, _⟩ := h.trk a (h'.sub i a ha).1
        rw [e]
        exact at_ a u e) e q
      simpa [hi] using z
    · have q' : slot (ρ ++ [some (.own d)]) i = some e := q
      rw [slot_app_ge (Nat.le_of_not_lt hi)] at q'
      have h1 := slot_lt q'
      have h0 : i = ρ.length := by simp at h1; omega
      subst h0
      rw [Nat.sub_self] at q'
      cases q'
      have hz : (σ ++ [some (V.ref p)])[ρ.length]? = some (some (.ref p)) := by
        rw [h'.len, List.getElem?_append_right (Nat.le_refl _), Nat.sub_self]
        rfl
      rw [hz]
      refine ⟨.ref p, rfl, .inl ⟨d, rfl, ?_⟩⟩
      have : (fun b => if ρ.length < ρ.length then A ρ.length b else b = p ∧ ρ.length = ρ.length) = fun b => b = p := funext fun b => by simp
      rw [this]
      exact w
  · by_cases hi : i < ρ.length
    · simp only [hi, if_true] at hb
      exact ⟨.inr (h'.sub i b hb).1, (h'.sub i b hb).2⟩
    · simp only [hi, if_false] at hb
      exact ⟨.inl hb.1, fun z => nO (hb.1 ▸ h'.fo b z)⟩
  · by_cases hi : i < ρ.length
    · simp only [hi, if_true] at hb
      by_cases h2 : j < ρ.length
      · simp only [h2, if_true] at hj
        exact h'.dis i j b ne hb hj
      · simp only [h2, if_false] at hj
        exact nO (hj.1 ▸ (h'.sub i b hb).1)
    · simp only [hi, if_false] at hb
      by_cases h2 : j < ρ.length
      · simp only [h2, if_true] at hj
        exact nO (hb.1 ▸ (h'.sub j b hj).1)
      · simp only [h2, if_false] at hj
        omega
  · rcases hb with hb | hb
    · rw [hb, upd_same]
      exact ⟨o, rfl, ht⟩
    · obtain ⟨u, e, z⟩ := h.trk b hb
      exact ⟨u, at_ b u e, z⟩
/-- a slot's thing shared from now on -/
theorem FR.share (h : FR T O F H ρ σ) {i : Nat} {d : D} (e : slot ρ i = some d) : ∃ O', Keep F O H O' H ∧ FR T O' F H (ρ.set i (some d.un)) σ ∧ (∀ b, O' b → O b) := by
  cases hd : d.isOwn with
  | false =>
    rw [un_of hd]
    refine ⟨O, Keep.refl .., ?_, fun _ z => z⟩
    obtain ⟨hi, e'⟩ := join_lt e
    have : ρ.set i (some d) = ρ := by
      refine List.ext_getElem? fun k => ?_
      by_cases hk : i = k
      · subst hk
        rw [List.getElem?_set_self hi, e']
      · rw [List.getElem?_set_ne hk]
    rw [this]
    exact h
  | true =>
    obtain ⟨A, h'⟩ := id h
    obtain ⟨v, e1, q⟩ := h'.slot i d e
    obtain ⟨x, rfl, w⟩ : ∃ x, d = .own x ∧ Own T O H v x (A i) := by
      rcases q with q | ⟨n, _⟩
      · exact q
      · rw [hd] at n; cases n
    have hi := slot_lt e
    have hk : Keep F O H (fun b => O b ∧ ¬ A i b) H := ⟨fun a o e _ n => ⟨e, fun z => n z.1⟩, fun _ _ => rfl⟩
    refine ⟨fun b => O b ∧ ¬ A i b, hk, ⟨fun k b => A k b ∧ k ≠ i, by rw [List.length_set]; exact h'.len, fun k y q => ?_, fun k b hb => ⟨⟨(h'.sub k b hb.1).1, h'.dis k i b hb.2 hb.1⟩, (h'.sub k b hb.1).2⟩, fun a c b ne hb hc => h'.dis a c b ne hb.1 hc.1,
      fun b hb => ⟨h'.fo b hb, fun z => (h'.sub i b z).2 hb⟩, fun b hb => h'.trk b hb.1, fun z e => (h'.xc z e).keep hk.sh⟩, fun b z => z.1⟩
    have q' : slot (ρ.set i (some x)) k = some y := q
    by_cases hki : i = k
    · subst hki
      rw [slot_set_self hi] at q'
      cases q'
      exact ⟨v, e1, .inr ⟨w.plain, Own.share (fun a n z => n z.1) x v _ w fun a ha z => z.2 ha⟩⟩
    · rw [slot_set_ne hki] at q'
      have z := ((h'.slot k).keep hk.sh fun a _ => rfl) y q'
      have : (fun b => A k b ∧ k ≠ i) = A k := funext fun b => propext ⟨fun z => z.1, fun z => ⟨z, Ne.symm hki⟩⟩
      rw [this]
      exact z
end
end Vm
/-! #### part Vc -/
namespace Vm
open PySem PySem.Spec L2
/-- an operand: owned somewhere, or shared -/
def Pk (T : Tab) (O : AS) (H : Hp) (v : V) (d : D) : Prop := (∃ A, Own T O H v d A) ∨ Rep T O H v d
theorem Pk.view {T : Tab} {O : AS} {H : Hp} {v : V} {d : D} (p : Pk T O H v d) : View T H v d := by
  rcases p with ⟨A, w⟩ | r
  · exact w.view
  · exact r.view
theorem FR.pk {T : Tab} {O F : AS} {H : Hp} {ρ : Env} {σ : LSt} (h : FR T O F H ρ σ) {i : Nat} {d : D} (e : slot ρ i = some d) : ∃ v, σ[i]?.join = some v ∧ Pk T O H v d.un := by
  obtain ⟨v, e1, q⟩ := h.get e
  refine ⟨v, e1, ?_⟩
  rcases q with ⟨x, A, rfl, q⟩ | ⟨n, q⟩
  · exact .inl ⟨A, q⟩
  · exact .inr q.un
theorem FR.less {T : Tab} {O F F' : AS} {H : Hp} {ρ : Env} {σ : LSt} (h : FR T O F' H ρ σ) (s : ∀ b, F b → F' b) : FR T O F H ρ σ := by
  obtain ⟨A, h⟩ := h
  exact ⟨A, h.len, h.slot, fun i b hb => ⟨(h.sub i b hb).1, fun z => (h.sub i b hb).2 (s b z)⟩, h.dis, fun b hb => h.fo b (s b hb), h.trk, h.xc⟩
/-- what is wanted of a result at (O, H) -/
def Fin (T : Tab) (W : WX) (O F : AS) (H : Hp) (σ : LSt) (r : R D) (Q : VK) : Prop := match r with
  | .ok d ρ' => ∀ v H' O', Keep F O H O' H' → FR T O' F H' (ρ' ++ [some d]) (σ ++ [some v]) → Q v H'
  | .ex x ρ' => ∀ cls dx H' O', Keep F O H O' H' → FR T O' F H' ρ' σ → ExR T O' H' cls dx x → W cls dx σ H'
  | .no => False
/-- .. of an operand -/
def FinP (T : Tab) (W : WX) (O F : AS) (H : Hp) (σ : LSt) (r : R D) (Q : V → Hp → Prop) : Prop := match r with
  | .ok d ρ' => ∀ v H' O', Keep F O H O' H' → FR T O' F H' ρ' σ → Pk T O' H' v d → Q v H'
  | .ex x ρ' => ∀ cls dx H' O', Keep F O H O' H' → FR T O' F H' ρ' σ → ExR T O' H' cls dx x → W cls dx σ H'
  | .no => False
def FinP2 (T : Tab) (W : WX) (O F : AS) (H : Hp) (σ : LSt) (r : R (D × D)) (Q : V → V → Hp → Prop) : Prop := match r with
  | .ok d ρ' => ∀ v w H' O', Keep F O H O' H' → FR T O' F H' ρ' σ → Pk T O' H' v d.1 → Pk T O' H' w d.2 → Q v w H'
  | .ex x ρ' => ∀ cls dx H' O', Keep F O H O' H' → FR T O' F H' ρ' σ → ExR T O' H' cls dx x → W cls dx σ H'
  | .no => False
def FinL (T : Tab) (W : WX) (O F : AS) (H : Hp) (σ : LSt) (r : R (List D)) (Q : List V → Hp → Prop) : Prop := match r with
  | .ok ds ρ' => ∀ vs H' O', Keep F O H O' H' → FR T O' F H' (ρ' ++ ds.map some) (σ ++ vs.map some) → ds.length = vs.length → Q vs H'
  | .ex x ρ' => ∀ cls dx H' O', Keep F O H O' H' → FR T O' F H' ρ' σ → ExR T O' H' cls dx x → W cls dx σ H'
  | .no => False
section
variable {T : Tab} {W : WX} {O O1 F F' : AS} {H H1 : Hp} {σ : LSt}
theorem Fin.step {r : R D} {Q : VK} (k : Keep F O H O1 H1) (s : ∀ b, F b → F' b) (h : Fin T W O F H σ r Q) : Fin T W O1 F' H1 σ r Q := by
  cases r with
  | ok d ρ' => exact fun v H' O' k' f => h v H' O' (k.trans k' s) (f.less s)
  | ex x ρ' => exact fun c d H' O' k' f e => h c d H' O' (k.trans k' s) (f.less s) e
  | no => exact h
theorem FinP.step {r : R D} {Q : VK} (k : Keep F O H O1 H1) (s : ∀ b, F b → F' b) (h : FinP T W O F H σ r Q) : FinP T W O1 F' H1 σ r Q := by
  cases r with
  | ok d ρ' => exact fun v H' O' k' f => h v H' O' (k.trans k' s) (f.less s)
  | ex x ρ' => exact fun c d H' O' k' f e => h c d H' O' (k.trans k' s) (f.less s) e
  | no => exact h
theorem FinP2.step {r : R (D × D)} {Q : V → V → Hp → Prop} (k : Keep F O H O1 H1) (s : ∀ b, F b → F' b) (h : FinP2 T W O F H σ r Q) : FinP2 T W O1 F' H1 σ r Q := by
  cases r with
  | ok d ρ' => exact fun v w H' O' k' f => h v w H' O' (k.trans k' s) (f.less s)
  | ex x ρ' => exact fun c d H' O' k' f e => h c d H' O' (k.trans k' s) (f.less s) e
  | no => exact h
theorem FinL.step {r : R (List D)} {Q : List V → Hp → Prop} (k : Keep F O H O1 H1) (s : ∀ b, F b → F' b) (h : FinL T W O F H σ r Q) : FinL T W O1 F' H1 σ r Q := by
  cases r with
  | ok d ρ' => exact fun v H' O' k' f => h v H' O' (k.trans k' s) (f.less s)
  | ex x ρ' => exact fun c d H' O' k' f e => h c d H' O' (k.trans k' s) (f.less s) e
  | no => exact h
end
/-- the caught exception stands in its slot -/
def SX (T : Tab) (σ : LSt) : Prop := ∀ z, T.ξ = some z → σ[z.i]? = some (some (.ref z.a))
/-- the reading of an expression by V -/
def tE (T : Tab) (Κ : Nat → Option Cls) (C : Cf) (W : WX) (e : E) : TE := fun σ H Q => SX T σ ∧ ∃ O F ρ, FR T O F H ρ σ ∧ Fin T W O F H σ (ev Κ C e ρ) Q
/-- .. of an operand -/
def tB (T : Tab) (Κ : Nat → Option Cls) (C : Cf) (W : WX) (e : E) : TE := fun σ H Q => SX T σ ∧ ∃ O F ρ, FR T O F H ρ σ ∧ FinP T W O F H σ (pkB e (ev Κ C e) ρ) Q
def tL (T : Tab) (Κ : Nat → Option Cls) (C : Cf) (W : WX) (es : List E) : TA := fun σ H Q => SX T σ ∧ ∃ O F ρ, FR T O F H ρ σ ∧ FinL T W O F H σ (evL Κ C es ρ) Q
section
variable {T : Tab} {W : WX} {O F : AS} {H : Hp} {σ : St} {Κ : Nat → Option Cls} {C : Cf} {ρ : Env}
/-- behind a part: on with the rest; the part's value is a temporary of the rest -/
theorem tE.then {a : E} {G : VK} (sx : SX T σ) (f : FR T O F H ρ σ) (ex : ∀ x ρ1, ev Κ C a ρ = .ex x ρ1 → ∀ cls dx H' O', Keep F O H O' H' → FR T O' F H' ρ1 σ → ExR T O' H' cls dx x → W cls dx σ H') (no : ev Κ C a ρ ≠ .no)
    (h : ∀ d ρ1, ev Κ C a ρ = .ok d ρ1 → ∀ v H1 O1, Keep F O H O1 H1 → FR T O1 F H1 (ρ1 ++ [some d]) (σ ++ [some v]) → G v H1) : tE T Κ C W a σ H G := by
  refine ⟨sx, O, F, ρ, f, ?_⟩
  cases e : ev Κ C a ρ with
  | ok d ρ1 => exact fun v H' O' k g => h d ρ1 e v H' O' k g
  | ex x ρ1 => exact ex x ρ1 e
  | no => exact no e
/-- bind: a, then what k makes of it -/
theorem tE.bind {a : E} {k : D → Env → R D} {Q : VK} {G : VK} (sx : SX T σ) (f : FR T O F H ρ σ) (h : Fin T W O F H σ ((ev Κ C a ρ).bind k) Q)
    (g : ∀ d ρ1 v H1 O1, Keep F O H O1 H1 → FR T O1 F H1 (ρ1 ++ [some d]) (σ ++ [some v]) → Fin T W O1 F H1 σ (k d ρ1) Q → G v H1) : tE T Κ C W a σ H G := by
  refine tE.then sx f (fun x ρ1 e => ?_) (fun e => ?_) fun d ρ1 e v H1 O1 k1 f1 => ?_
  · rw [e] at h; exact h
  · rw [e] at h; exact h
  · rw [e] at h; exact g d ρ1 v H1 O1 k1 f1 (h.step k1 fun _ z => z)
end
end Vm
namespace Vm
open PySem PySem.Spec L2
/-- the heap grows -/
def Grow (H H' : Hp) : Prop := ∀ a o, H a = some o → (∀ ps, o ≠ .tbl ps) → H' a = some o
theorem Grow.refl (H : Hp) : Grow H H := fun _ _ h _ => h
theorem Grow.trans {H H1 H2 : Hp} (a : Grow H H1) (b : Grow H1 H2) : Grow H H2 := fun x o h t => b x o (a x o h t) t
theorem Grow.new {H : Hp} {p : Addr} {o : HO} (n : H p = none) : Grow H (upd H p o) := fun b u e _ => by rw [upd_ne (ne_of_none e n)]; exact e
/-- a place's thing -/
def Val (T : Tab) (O : AS) (H : Hp) (v : V) (d : D) : Prop := (∃ x A, d = .own x ∧ Own T O H v x A ∧ ∀ b, A b → O b) ∨ Rep T O H v d
section
variable {T : Tab} {O F : AS} {H H' : Hp} {ρ : Env} {σ : LSt} {v : V} {d : D}
theorem Val.pk (h : Val T O H v d) : Pk T O H v d.un := by
  rcases h with ⟨x, A, rfl, w, _⟩ | r
  · exact .inl ⟨A, w⟩
  · exact .inr r.un
theorem Val.rep (h : Val T O H v d) (n : d.isOwn = false) : Rep T O H v d := by
  rcases h with ⟨x, A, rfl, _⟩ | r
  · cases n
  · exact r
theorem FR.growG (h : FR T O F H ρ σ) (g : Grow H H') : FR T O F H' ρ σ ∧ Keep F O H O H' := by
  have eq : ∀ a, O a → H' a = H a := fun a ha => by
    obtain ⟨u, e, t⟩ := h.trk a ha
    rw [e]
    exact g a u e t
  have hk : Keep F O H O H' := ⟨fun a u e t no => ⟨g a u e t, no⟩, fun a ha => eq a (h.fo a ha)⟩
  obtain ⟨A, h'⟩ := id h
  exact ⟨⟨A, h'.len, fun i => (h'.slot i).keep hk.sh fun a ha => eq a (h'.sub i a ha).1, h'.sub, h'.dis, h'.fo, fun b hb => let ⟨u, e, z⟩ := h.trk b hb; ⟨u, g b u e z, z⟩, fun z e => (h'.xc z e).keep hk.sh⟩, hk⟩
theorem Val.growG (t : ∀ b, O b → ∃ o, H b = some o ∧ ∀ ps, o ≠ .tbl ps) (h : Val T O H v d) (g : Grow H H') : Val T O H' v d := by
  have k : ∀ a o, H a = some o → (∀ ps, o ≠ .tbl ps) → ¬ O a → H' a = some o ∧ ¬ O a := fun a o e t n => ⟨g a o e t, n⟩
  rcases h with ⟨x, A, rfl, w, s⟩ | r
  · refine .inl ⟨x, A, rfl, Own.keep k x v A w fun a ha => ?_, s⟩
    obtain ⟨u, e, z⟩ := t a (s a ha)
    rw [e]
    exact g a u e z
  · exact .inr (Rep.keep k d v r)
theorem Pk.growG (h : Pk T O H v d) (f : FR T O F H ρ σ) (g : Grow H H') (s : ∀ A, Own T O H v d A → ∀ b, A b → O b) : Pk T O H' v d := by
  have k : ∀ a o, H a = some o → (∀ ps, o ≠ .tbl ps) → ¬ O a → H' a = some o ∧ ¬ O a := fun a o e t n => ⟨g a o e t, n⟩
  rcases h with ⟨A, w⟩ | r
  · refine .inl ⟨A, Own.keep k d v A w fun a ha => ?_⟩
    obtain ⟨u, e, z⟩ := f.trk a (s A w a ha)
    rw [e]
    exact g a u e z
  · exact .inr (Rep.keep k d v r)
theorem FR.val (h : FR T O F H ρ σ) {i : Nat} {d : D} (e : slot ρ i = some d) : ∃ v, σ[i]?.join = some v ∧ Val T O H v d := by
  obtain ⟨A, h⟩ := h
  obtain ⟨v, e1, q⟩ := h.slot i d e
  refine ⟨v, e1, ?_⟩
  rcases q with ⟨x, e2, q⟩ | ⟨_, q⟩
  · exact .inl ⟨x, A i, e2, q, fun b hb => (h.sub i b hb).1⟩
  · exact .inr q
/-- the topmost thing, shared -/
theorem FR.unTop (h : FR T O F H (ρ ++ [some d]) (σ ++ [some v])) (hl : ρ.length = σ.length) : ∃ O', Keep F O H O' H ∧ FR T O' F H (ρ ++ [some d.un]) (σ ++ [some v]) ∧ Rep T O' H v d.un := by
  have e : slot (ρ ++ [some d]) ρ.length = some d := by rw [slot_app_ge (Nat.le_refl _), Nat.sub_self]; rfl
  obtain ⟨O', k, f, _⟩ := h.share e
  have e2 : (ρ ++ [some d]).set ρ.length (some d.un) = ρ ++ [some d.un] := by
    rw [List.set_append_right _ _ (Nat.le_refl _), Nat.sub_self]
    rfl
  rw [e2] at f
  refine ⟨O', k, f, ?_⟩
  have e3 : slot (ρ ++ [some d.un]) ρ.length = some d.un := by rw [slot_app_ge (Nat.le_refl _), Nat.sub_self]; rfl
  obtain ⟨w, e4, q⟩ := f.get e3
  have : w = v := by
    rw [hl, List.getElem?_append_right (Nat.le_refl _), Nat.sub_self] at e4
    exact (Option.some.inj e4).symm
  subst this
  rcases q with ⟨x, A, e5, q⟩ | ⟨_, q⟩
  · exfalso
    obtain ⟨w2, e6, q2⟩ := h.get e
    rcases q2 with ⟨y, B, rfl, q3⟩ | ⟨n, _⟩
    · have := q3.plain
      have e5 : y = .own x := e5
      rw [e5] at this
      cases this
    · rw [un_of n] at e5
      rw [e5] at n
      cases n
  · exact q
end
def tRd (T : Tab) (p : P) : TE := fun σ H Q => SX T σ ∧ ∃ O F ρ, FR T O F H ρ σ ∧ match rp p ρ with
  | some d => ∀ v H', Grow H H' → Val T O H' v d → Q v H'
  | none => False
def tQ (T : Tab) (q : E) : TE := fun σ H Q => SX T σ ∧ ∃ O F ρ, FR T O F H ρ σ ∧ match qe q ρ with
  | some d => ∀ v H', Grow H H' → d.isOwn = false → Rep T O H' v d → Q v H'
  | none => False
/-- an operand's reading -/
def tO (T : Tab) (Κ : Nat → Option Cls) (C : Cf) (W : WX) : E → TE
  | .rd (.loc i) => tVar i
  | .rd p => tRd T p
  | e => tE T Κ C W e
section
variable {T : Tab} {W : WX} {O F : AS} {H : Hp} {σ : St} {Κ : Nat → Option Cls} {C : Cf} {ρ : Env}
theorem tO.other {e : E} (n : ∀ p, e ≠ .rd p) : tO T Κ C W e = tE T Κ C W e := by
  cases e <;> first | rfl | exact absurd rfl (n _)
theorem tO.deep {p : P} (n : ∀ i, p ≠ .loc i) : tO T Κ C W (.rd p) = tRd T p := by
  cases p <;> first | rfl | exact absurd rfl (n _)
theorem pkB_other {e : E} {r : Env → R D} (n : ∀ p, e ≠ .rd p) : pkB e r ρ = (r ρ).bind fun d ρ1 => .ok d.un ρ1 := by
  cases e <;> first | rfl | exact absurd rfl (n _)
/-- one operand -/
theorem operand {e : E} {Q : VK} (sx : SX T σ) (f : FR T O F H ρ σ) (h : FinP T W O F H σ (pkB e (ev Κ C e) ρ) Q) : tO T Κ C W e σ H Q := by
  by_cases hp : ∃ p, e = .rd p
  · obtain ⟨p, rfl⟩ := hp
    have h : FinP T W O F H σ (R.of ((rp p ρ).map D.un) ρ) Q := h
    by_cases hi : ∃ i, p = .loc i
    · obtain ⟨i, rfl⟩ := hi
      cases q : slot ρ i with
      | none => rw [show rp (.loc i) ρ = slot ρ i by rw [rp], q] at h; exact h.elim
      | some d =>
        rw [show rp (.loc i) ρ = slot ρ i by rw [rp], q] at h
        obtain ⟨v, e1, x⟩ := f.pk q
        exact ⟨v, (join_lt e1).2, h v H O (Keep.refl ..) f x⟩
    · rw [tO.deep fun i z => hi ⟨i, z⟩]
      refine ⟨sx, O, F, ρ, f, ?_⟩
      cases q : rp p ρ with
      | none => rw [q] at h; exact h
      | some d =>
        rw [q] at h
        intro v H' g x
        obtain ⟨f', k⟩ := f.growG g
        exact h v H' O k f' x.pk
  · have n : ∀ p, e ≠ .rd p := fun p z => hp ⟨p, z⟩
    rw [tO.other n]
    rw [pkB_other n] at h
    refine ⟨sx, O, F, ρ, f, ?_⟩
    cases q : ev Κ C e ρ with
    | no => rw [q] at h; exact h
    | ex x ρ1 => rw [q] at h; exact h
    | ok d ρ1 =>
      rw [q] at h
      intro v H' O' k f'
      have hl : ρ1.length = σ.length := by
        have := f'.length
        simpa using this
      obtain ⟨O2, k2, f2, r⟩ := f'.unTop hl
      exact h v H' O2 (k.trans k2 fun _ z => z) (f2.front hl) (.inr r)
theorem FinP.of_bind {c : E} {k : D → Env → R (D × D)} {G : V → V → Hp → Prop} {M : V → Hp → Prop} (h : FinP2 T W O F H σ ((pkB c (ev Κ C c) ρ).bind k) G)
    (g : ∀ y ρ1 w H2 O2, Keep F O H O2 H2 → FR T O2 F H2 ρ1 σ → Pk T O2 H2 w y → FinP2 T W O2 F H2 σ (k y ρ1) G → M w H2) : FinP T W O F H σ (pkB c (ev Κ C c) ρ) M := by
  cases q : pkB c (ev Κ C c) ρ with
  | no => rw [q] at h; exact h
  | ex x ρ1 => rw [q] at h; exact h
  | ok d ρ1 =>
    rw [q] at h
    exact fun v H' O' k' f' x => g d ρ1 v H' O' k' f' x (h.step k' fun _ z => z)
/-- two operands -/
theorem operands {a c : E} {G : V → V → Hp → Prop} (sx : SX T σ) (f : FR T O F H ρ σ) (h : FinP2 T W O F H σ (pkB2 a (ev Κ C a) c (ev Κ C c) ρ) G) :
    tO T Κ C W a σ H fun x H1 => tO T Κ C W c σ H1 fun y H2 => G x y H2 := by
  by_cases hp : ∃ i, a = .rd (.loc i)
  · obtain ⟨i, rfl⟩ := hp
    have h : FinP2 T W O F H σ (match slot ρ i with
      | some _ => (pkB c (ev Κ C c) ρ).bind fun y ρ1 => match slot ρ1 i with
        | some x => .ok (x.un, y) ρ1
        | none => .no
      | none => .no) G := h
    cases q : slot ρ i with
    | none => rw [q] at h; exact h.elim
    | some d =>
      rw [q] at h
      obtain ⟨v, e1, _⟩ := f.pk q
      refine ⟨v, (join_lt e1).2, operand sx f (FinP.of_bind h fun y ρ1 w H2 O2 k2 f2 pk2 h2 => ?_)⟩
      cases q2 : slot ρ1 i with
      | none => rw [q2] at h2; exact h2.elim
      | some d2 =>
        rw [q2] at h2
        obtain ⟨v2, e2, x2⟩ := f2.pk q2
        rw [e1] at e2
        cases e2
        exact h2 _ _ H2 O2 (Keep.refl ..) f2 x2 pk2
  · have n : ∀ i, a ≠ .rd (.loc i) := fun i z => hp ⟨i, z⟩
    have e : pkB2 a (ev Κ C a) c (ev Κ C c) ρ = (ev Κ C a ρ).bind fun x ρ1 => (pkB c (ev Κ C c) ρ1).bind fun y ρ2 => .ok (x.un, y) ρ2 := by
      cases a with
      | rd p => cases p <;> first | rfl | exact absurd rfl (n _)
      | _ => rfl
    rw [e] at h
    -- the left one is told
    have go : ∀ v d ρ1 H1 O1, Keep F O H O1 H1 → FR T O1 F H1 (ρ1 ++ [some d]) (σ ++ [some v]) → ev Κ C a ρ = .ok d ρ1 → tO T Κ C W c σ H1 fun y H2 => G v y H2 := fun v d ρ1 H1 O1 k1 f1 q => by
      rw [q] at h
      have hl : ρ1.length = σ.length := by
        have := f1.length
        simpa using this
      obtain ⟨O2, k2, f2, r2⟩ := f1.unTop hl
      obtain ⟨F', f3, s3, back⟩ := f2.frame hl
      have h' := FinP2.step (k1.trans k2 fun _ z => z) s3 h
      refine operand sx f3 (FinP.of_bind h' fun y ρ2 w H3 O3 k3 f4 pk4 h4 => ?_)
      have f5 := back O3 H3 ρ2 σ k3 f4
      have hl2 : ρ2.length = σ.length := by
        have := f4.length
        simpa using this
      exact h4 _ _ H3 O3 (Keep.refl ..) f4 (.inr (Rep.keep k3.sh _ _ r2)) pk4
    by_cases hq : ∃ p, a = .rd p
    · obtain ⟨p, rfl⟩ := hq
      have n' : ∀ i, p ≠ .loc i := fun i z => n i (by rw [z])
      rw [tO.deep n']
      refine ⟨sx, O, F, ρ, f, ?_⟩
      have ee : ev Κ C (.rd p) ρ = R.of (plain (rp p ρ)) ρ := by
        cases p <;> first | rfl | exact absurd rfl (n' _)
      cases q : rp p ρ with
      | none => rw [ee, q] at h; exact h
      | some d =>
        cases ho : d.isOwn with
        | true =>
          have : plain (some d) = none := by simp [plain, ho]
          rw [ee, q, this] at h
          exact h.elim
        | false =>
          have hp : plain (some d) = some d := by simp [plain, ho]
          intro v H1 g1 x1
          obtain ⟨f1, k1⟩ := f.growG g1
          exact go v d ρ H1 O k1 (f1.add ho (x1.rep ho)) (by rw [ee, q, hp]; rfl)
    · rw [tO.other fun p z => hq ⟨p, z⟩]
      refine ⟨sx, O, F, ρ, f, ?_⟩
      cases q : ev Κ C a ρ with
      | no => rw [q] at h; exact h
      | ex x ρ1 => rw [q] at h; exact h
      | ok d ρ1 => exact fun v H' O' k f' => go v d ρ1 H' O' k f' q
end
end Vm
/-! #### part Vo -/
namespace Vm
open PySem PySem.Spec PyProof.Rows L2
section
variable {T : Tab} {O F : AS} {H : Hp} {ρ : Env} {σ : LSt} {x y : V} {d : D} {ds es : List D} {xs ys : List V}
theorem Pk.int {i : Int} (p : Pk T O H x (.int i)) : x = .int i := by
  rcases p with ⟨A, w⟩ | r
  · cases w
  · cases r; rfl
theorem Pk.str {i : PySem.Str} (p : Pk T O H x (.str i)) : x = .str i := by
  rcases p with ⟨A, w⟩ | r
  · cases w
  · cases r; rfl
theorem Pk.bl {i : Bool} (p : Pk T O H x (.bl i)) : x = .bl i := by
  rcases p with ⟨A, w⟩ | r
  · cases w
  · cases r; rfl
theorem Pk.non (p : Pk T O H x .non) : x = .non := by
  rcases p with ⟨A, w⟩ | r
  · cases w
  · cases r; rfl
theorem Pk.tup (p : Pk T O H x (.tup ds)) : ∃ a xs, x = .ref a ∧ H a = some (.tup xs) ∧ ¬ O a ∧ RepL T O H xs ds := by
  rcases p with ⟨A, w⟩ | r
  · cases w
  · cases r with
    | tup h n r => exact ⟨_, _, rfl, h, n, r⟩
theorem Pk.lst (p : Pk T O H x (.lst ds)) : ∃ a xs, x = .ref a ∧ H a = some (.lst xs) ∧ RepL T O H xs ds := by
  rcases p with ⟨A, w⟩ | r
  · cases w with
    | lst h r e => exact ⟨_, _, rfl, h, r⟩
  · cases r with
    | lst h n r => exact ⟨_, _, rfl, h, r⟩
theorem Pk.scr (p : Pk T O H x (.scr ds)) : ∃ a o xs, x = .ref a ∧ H a = some (.frz o (.lst xs)) ∧ RepL T O H xs ds := by
  rcases p with ⟨A, w⟩ | r
  · cases w
  · cases r with
    | scr h n r => exact ⟨_, _, _, rfl, h, r⟩
theorem RepL.length : ∀ {xs : List V} {ds : List D}, RepL T O H xs ds → xs.length = ds.length
  | [], [], .nil => rfl
  | _ :: _, _ :: _, .cons _ t => congrArg (· + 1) (RepL.length t)
theorem RepL.append : ∀ {xs ys : List V} {ds es : List D}, RepL T O H xs ds → RepL T O H ys es → RepL T O H (xs ++ ys) (ds ++ es)
  | [], _, [], _, .nil, s => s
  | _ :: _, _, _ :: _, _, .cons r t, s => .cons r (RepL.append t s)
theorem RepL.take : ∀ {xs : List V} {ds : List D} (n : Nat), RepL T O H xs ds → RepL T O H (xs.take n) (ds.take n)
  | _, _, 0, _ => .nil
  | [], [], _ + 1, .nil => .nil
  | _ :: _, _ :: _, n + 1, .cons r t => .cons r (RepL.take n t)
theorem RepL.drop : ∀ {xs : List V} {ds : List D} (n : Nat), RepL T O H xs ds → RepL T O H (xs.drop n) (ds.drop n)
  | _, _, 0, r => r
  | [], [], _ + 1, .nil => .nil
  | _ :: _, _ :: _, n + 1, .cons _ t => RepL.drop n t
theorem RepL.rep (r : RepL T O H xs ds) : ∀ k : Nat, RepL T O H (List.replicate k xs).flatten (List.replicate k ds).flatten
  | 0 => .nil
  | k + 1 => by
    rw [List.replicate_succ, List.replicate_succ, List.flatten_cons, List.flatten_cons]
    exact r.append (RepL.rep r k)
theorem RepL.reverse (r : RepL T O H xs ds) : RepL T O H xs.reverse ds.reverse := by
  induction ds generalizing xs with
  | nil => cases r; exact .nil
  | cons d ds ih =>
    cases r with
    | cons r t =>
      rw [List.reverse_cons, List.reverse_cons]
      exact (ih t).append (.cons r .nil)
theorem RepL.get : ∀ {xs : List V} {ds : List D} {i : Nat} {d : D}, RepL T O H xs ds → ds[i]? = some d → ∃ v, xs[i]? = some v ∧ Rep T O H v d
  | [], [], _, _, .nil, e => by simp at e
  | _ :: _, _ :: _, 0, _, .cons r _, e => by simp at e; subst e; exact ⟨_, rfl, r⟩
  | _ :: _, _ :: _, i + 1, d, .cons _ t, e => by
    obtain ⟨v, h1, h2⟩ := RepL.get (i := i) (d := d) t (by simpa using e)
    exact ⟨v, by simpa using h1, h2⟩
/-- a new tuple -/
theorem FR.tup (f : FR T O F H ρ σ) {p : Addr} (n : H p = none) (r : RepL T O H xs ds) : Keep F O H O (upd H p (.tup xs)) ∧ FR T O F (upd H p (.tup xs)) (ρ ++ [some (.tup ds)]) (σ ++ [some (.ref p)]) := by
  obtain ⟨f1, k⟩ := f.grow (o := .tup xs) n
  exact ⟨k, f1.add rfl (.tup upd_same (f.free n) (RepL.keep k.sh _ _ r))⟩
/-- a new list -/
theorem FR.lst (f : FR T O F H ρ σ) {p : Addr} (n : H p = none) (r : RepL T O H xs ds) : Keep F O H (fun b => b = p ∨ O b) (upd H p (.lst xs)) ∧ FR T (fun b => b = p ∨ O b) F (upd H p (.lst xs)) (ρ ++ [some (.own (.lst ds))]) (σ ++ [some (.ref p)]) := by
  have z := f.own1 (o := .lst xs) (d := .lst ds) (by intro _ e; cases e) n
  have k : ∀ a o, H a = some o → (∀ ps, o ≠ .tbl ps) → ¬ O a → upd H p (.lst xs) a = some o ∧ ¬ (a = p ∨ O a) := fun a o e _ no => ⟨by rw [upd_ne (ne_of_none e n)]; exact e, fun z => z.elim (fun z => by rw [z, n] at e; cases e) no⟩
  have q := z (.lst upd_same (RepL.keep k _ _ r) fun _ => Iff.rfl)
  exact ⟨q.2, q.1⟩
theorem line_eq : line = sizeLine := by rw [sizeLine_eq]; rfl
end
/-- an operation of V, by values -/
def rOp (sem : D → D → Option D) : R2 := fun x y H Q => ∃ T O F ρ σ' dx dy d, FR T O F H ρ σ' ∧ Pk T O H x dx ∧ Pk T O H y dy ∧ sem dx dy = some d ∧
  ∀ v H' O', Keep F O H O' H' → FR T O' F H' (ρ ++ [some d]) (σ' ++ [some v]) → Q v H'
def boOf : BO → Operator
  | .add => .Add | .sub => .Sub | .mul => .Mult | .fdiv => .FloorDiv | .mod => .Mod | .pow => .Pow
theorem tuple_mul1 (l : Addr) (items : Array Value) (n : Nat) (dd : Option Addr) (sl : Array (Option Value)) (u : Tok) :
    Meets (Builtin.«tuple.__mul__» ⟨[.ref l, .int 1 u], []⟩) (fun _ R s => s.heap.get? l = some { cls := .type "tuple", dict := dd, data := .seq items n, slots := sl } ∧
      R (.ok (.ret (Value.ref l))) s) :=
  .of_wp fun prog w A R s h => by
    obtain ⟨hp, g, d, tk, os⟩ := s
    obtain ⟨hl, h⟩ := h
    have f1 := AutoSeq1.idx_int
    have c1 : (items.isEmpty || (1 : Int) == 1) = true := by simp
    wp_walk using wpAny_loadPart' hl
    exact ⟨_, rfl, h⟩
theorem rep_one {prog : Program} {w : World} {A : Around} {E : Value → Shared → Prop} {s : Shared} {l : Addr} {its : List Value} {t : Tok} {Q : Value → Shared → Prop} (ht : IsTup s.heap l its.toArray) (h : Q (.ref l) s) :
    wpAny (model prog w) A (binaryOp .Mult (.ref l) (.int 1 t)) Q E s := by
  obtain ⟨⟨cls, dd, data, sl⟩, ho, hc, n, hd⟩ := ht
  simp only at hc hd
  subst hc hd
  exact wpAny_binaryOp_repeat_ref (T := "tuple") (U := "int") (by decide) ⟨_, ho, rfl⟩ (fun s' => typeIs_int s' 1 t) noFill_tuple_mul F.fills_int_mul F.slot_int_rmul repeat_tuple F.slot_int_index.lookup
    (call_meets F.slot_int_rmul (typeIs_int s 1 t) F.entry_int_rmul (F.args_int_rmul_2 _ _) (int_rmul_tuple 1 t l its.toArray n dd sl)
      ⟨ho, rfl, ⟨_, ho, rfl⟩, call_meets F.slot_tuple_mul ⟨_, ho, rfl⟩ F.entry_tuple_mul (F.args_tuple_mul_2 _ _) (tuple_mul1 l its.toArray n dd sl t) ⟨ho, h⟩⟩)
section
variable {X : Cx}
theorem bop_ok (o : BO) : OpR X (binaryOp (boOf o)) (rOp (bop o)) := by
  rintro pins s σ H x y v u Q I rx ry ⟨T, O, F, ρ, σ', dx, dy, d, f, px, py, e, q⟩
  have sc : ∀ (d' : D) (v' : V), d' = d → d'.isOwn = false → Rep T O H v' d' → Q v' H := fun d' v' e n r => by
    subst e
    exact q v' H O (Keep.refl ..) (f.add n r)
  unfold bop at e
  split at e
  · -- int + int
    rw [px.int] at rx; rw [py.int] at ry
    exact op_add pins s σ H _ _ v u Q I rx ry ⟨_, _, rfl, rfl, sc _ _ (Option.some.inj e) rfl (.int _)⟩
  · rw [px.int] at rx; rw [py.int] at ry
    exact op_sub pins s σ H _ _ v u Q I rx ry ⟨_, _, rfl, rfl, sc _ _ (Option.some.inj e) rfl (.int _)⟩
  · rename_i i j
    rw [px.int] at rx; rw [py.int] at ry
    split at e
    · rename_i c
      refine op_mul pins s σ H _ _ v u Q I rx ry ⟨_, _, rfl, rfl, ?_, sc _ _ (Option.some.inj e) rfl (.int _)⟩
      simpa [small64, CMul] using c
    · cases e
  · rw [px.int] at rx; rw [py.int] at ry
    split at e
    · rename_i c
      refine op_fdiv pins s σ H _ _ v u Q I rx ry ⟨_, _, rfl, rfl, ?_, sc _ _ (Option.some.inj e) rfl (.int _)⟩
      simpa [CDiv] using c
    · cases e
  · rw [px.int] at rx; rw [py.int] at ry
    split at e
    · rename_i c
      refine op_mod pins s σ H _ _ v u Q I rx ry ⟨_, _, rfl, rfl, ?_, sc _ _ (Option.some.inj e) rfl (.int _)⟩
      simpa using c
    · cases e
  · rw [px.int] at rx; rw [py.int] at ry
    split at e
    · rename_i c
      refine op_pow pins s σ H _ _ v u Q I rx ry ⟨_, _, rfl, rfl, ?_, sc _ _ (Option.some.inj e) rfl (.int _)⟩
      simpa [CPow, and_assoc] using c
    · cases e
  · rw [px.str] at rx; rw [py.str] at ry
    split at e
    · rename_i c
      refine op_add_str pins s σ H _ _ v u Q I rx ry ⟨_, _, rfl, rfl, ?_, sc _ _ (Option.some.inj e) rfl (.str _)⟩
      rw [← line_eq]
      simpa using c
    · cases e
  · -- tuple + tuple
    rename_i ds es
    obtain ⟨a, xs, rfl, ha, na, ra⟩ := px.tup
    obtain ⟨b, ys, rfl, hb, nb, rb⟩ := py.tup
    split at e
    · rename_i c
      have c : ds.length + es.length ≤ line := by simpa using c
      refine op_catA pins s σ H _ _ v u Q I rx ry ⟨a, b, xs, ys, rfl, rfl, SqT.of ha, SqT.of hb, by rw [ra.length, rb.length, ← line_eq]; exact c, fun e0 => ?_, fun _ e0 => ?_, fun _ _ p np => ?_⟩
      · subst e0
        cases ra
        exact sc _ _ (Option.some.inj e) rfl (.tup hb nb rb)
      · subst e0
        cases rb
        refine sc _ _ (Option.some.inj e) rfl (.tup ha na ?_)
        rw [List.append_nil]
        exact ra
      · cases Option.some.inj e
        obtain ⟨k, f'⟩ := f.tup np (ra.append rb)
        exact q _ _ _ k f'
    · cases e
  · -- list + list
    rename_i ds es
    obtain ⟨a, xs, rfl, ha, ra⟩ := px.lst
    obtain ⟨b, ys, rfl, hb, rb⟩ := py.lst
    split at e
    · rename_i c
      have c : ds.length + es.length ≤ line := by simpa using c
      refine op_cat pins s σ H _ _ v u Q I rx ry ⟨a, b, xs, ys, rfl, rfl, ha, hb, by rw [ra.length, rb.length, ← line_eq]; exact c, fun p np => ?_⟩
      cases Option.some.inj e
      obtain ⟨k, f'⟩ := f.lst np (ra.append rb)
      exact q _ _ _ k f'
    · cases e
  · -- tuple * int
    rename_i ds k
    obtain ⟨a, xs, rfl, ha, na, ra⟩ := px.tup
    rw [py.int] at ry
    split at e
    · rename_i c
      have c : (1 ≤ k ∧ k ≤ 1000) ∧ ds.length ≤ 1000 ∧ ds ≠ [] := by
        simp only [Bool.and_eq_true, decide_eq_true_eq, Bool.not_eq_true', List.isEmpty_eq_false_iff] at c
        exact ⟨c.1, c.2.1, c.2.2⟩
      by_cases hk : k = 1
      · subst hk
        cases rx
        obtain ⟨t, rfl⟩ := ry
        obtain ⟨its, rv, p, hz⟩ := I.tuple (SqT.of ha)
        refine rep_one p ⟨.ref a, H, I, rfl, sc _ _ (Option.some.inj e) rfl (.tup ha na ?_)⟩
        simpa using ra
      · refine op_repT pins s σ H _ _ v u Q I rx ry ⟨a, k, xs, rfl, rfl, SqT.of ha, fun z => c.2.2 ?_, by omega, by omega, by rw [ra.length]; exact c.2.1, fun p np => ?_⟩
        · subst z
          cases ra
          rfl
        · cases Option.some.inj e
          obtain ⟨k, f'⟩ := f.tup np (ra.rep _)
          exact q _ _ _ k f'
    · cases e
  · -- list * int
    rename_i ds k
    obtain ⟨a, xs, rfl, ha, ra⟩ := px.lst
    rw [py.int] at ry
    split at e
    · rename_i c
      have c : (0 ≤ k ∧ k ≤ 1000) ∧ ds.length ≤ 1000 := by
        simp only [Bool.and_eq_true, decide_eq_true_eq] at c
        exact c
      refine op_rep pins s σ H _ _ v u Q I rx ry ⟨a, k, xs, rfl, rfl, ha, by omega, by omega, ?_, fun p np => ?_⟩
      · rw [ra.length, sizeLine_eq]
        have := Nat.mul_le_mul c.2 (show k.toNat ≤ 1000 by omega)
        omega
      · cases Option.some.inj e
        obtain ⟨k, f'⟩ := f.lst np (ra.rep _)
        exact q _ _ _ k f'
    · cases e
  · cases e
end
end Vm
/-! #### part Vo2 -/
namespace Vm
open PySem PySem.Spec PyProof.Rows L2
section
variable {T : Tab} {O F : AS} {H : Hp} {ρ : Env} {σ : LSt} {x y : V} {d : D} {ds es : List D} {xs ys : List V} {K : PySem.W.Frag}
mutual
/-- data as the library reads it -/
theorem View.dp : ∀ (d : D) (v : V), Rep T O H v d → d.isData false = true → Dp K H v d.py
  | _, _, .non, _ => .non
  | _, _, .bl b, _ => .bl b
  | _, _, .int i, _ => .int i
  | _, _, .str x, _ => .str x
  | .tup ds, _, .tup h n r, e => .tup (SqT.of h) (View.dpL ds _ r (by simpa [D.isData] using e))
  | .lst ds, _, .lst h n r, e => .lst (SqL.of h) (View.dpL ds _ r (by simpa [D.isData] using e))
  | .own d, v, .own _ r, e => View.dp d v r (by simpa [D.isData] using e)
  | .lsto _, _, .lsto _ _ _, e => by simp [D.isData] at e
  | .scr _, _, .scr _ _ _, e => by simp [D.isData] at e
  | .dct _ _, _, .dct0 _ _, e => by simp [D.isData] at e
  | .ins _ _ _, _, .ins _ _ _ _ _, e => by simp [D.isData] at e
  | .fn _, _, .fn _, e => by simp [D.isData] at e
theorem View.dpL : ∀ (ds : List D) (vs : List V), RepL T O H vs ds → dataL false ds = true → DpAll K H vs (pyL ds)
  | [], _, .nil, _ => .nil
  | d :: ds, _, .cons r t, e => by
    simp only [dataL, Bool.and_eq_true] at e
    exact .cons (View.dp d _ r e.1) (View.dpL ds _ t e.2)
end
theorem Pk.dp (p : Pk T O H x d) (e : d.isData false = true) : Dp K H x d.py := View.dp d x p.view e
theorem Pk.nonIff (p : Pk T O H x d) (n : d.isOwn = false) : decide (x = .non) = isNone d := by
  rcases p with ⟨A, w⟩ | r
  · cases w <;> rfl
  · cases r <;> first | rfl | cases n
theorem Pk.flatRep (p : Pk T O H x d) (n : isFlat d = true) : Rep T O H x d := by
  rcases p with ⟨A, w⟩ | r
  · cases w <;> cases n
  · exact r
theorem intsOf_eq : ∀ {ds : List D} {ns : List Int}, intsOf ds = some ns → ds = ns.map .int
  | [], ns, e => by simp [intsOf] at e; subst e; rfl
  | .int i :: r, ns, e => by
    simp only [intsOf, Option.map_eq_some_iff] at e
    obtain ⟨ms, h, rfl⟩ := e
    rw [intsOf_eq h]
    rfl
  | .non :: _, _, e | .bl _ :: _, _, e | .str _ :: _, _, e | .tup _ :: _, _, e | .lst _ :: _, _, e | .lsto _ :: _, _, e | .scr _ :: _, _, e | .dct _ _ :: _, _, e | .ins _ _ _ :: _, _, e | .exc _ _ :: _, _, e | .fn _ :: _, _, e | .clo _ _ _ :: _, _, e | .own _ :: _, _, e => by simp [intsOf] at e
theorem RepL.ints : ∀ {xs : List V} {ns : List Int}, RepL T O H xs (ns.map .int) → xs = ns.map .int
  | [], [], _ => rfl
  | _ :: _, _ :: _, .cons r t => by
    cases r
    rw [RepL.ints t]
    rfl
theorem lex_le (ns ms : List Int) : ∀ k i, i + k = min ns.length ms.length →
    Ob.lexAt (fun j => decide (ns.getD j 0 = ms.getD j 0)) (fun j => decide (ns.getD j 0 ≤ ms.getD j 0)) (decide (ns.length ≤ ms.length)) i k = (cmpI (ns.drop i) (ms.drop i) != .gt)
  | 0, i, e => by
    rw [Ob.lexAt_zero]
    rcases Nat.le_total ns.length ms.length with h | h
    · rw [decide_eq_true h]
      have : ns.drop i = [] := List.drop_eq_nil_of_le (by omega)
      rw [this]
      cases ms.drop i <;> rfl
    · have h2 : ms.drop i = [] := List.drop_eq_nil_of_le (by omega)
      rw [h2]
      by_cases q : ns.length ≤ ms.length
      · have : ns.drop i = [] := List.drop_eq_nil_of_le (by omega)
        rw [decide_eq_true q, this]
        rfl
      · rw [decide_eq_false q]
        cases q2 : ns.drop i with
        | nil => have := List.drop_eq_nil_iff.mp q2; omega
        | cons a r => rfl
  | k + 1, i, e => by
    have h1 : i < ns.length := by omega
    have h2 : i < ms.length := by omega
    rw [Ob.lexAt_succ, lex_le ns ms k (i + 1) (by omega), List.drop_eq_getElem_cons h1, List.drop_eq_getElem_cons h2]
    simp only [cmpI, List.getD_eq_getElem?_getD, List.getElem?_eq_getElem h1, List.getElem?_eq_getElem h2, Option.getD_some, decide_eq_true_eq]
    by_cases q : ns[i] = ms[i]
    · rw [if_pos q, if_neg (by omega), if_neg (by omega)]
    · rw [if_neg q]
      by_cases q2 : ns[i] < ms[i]
      · rw [if_pos q2, decide_eq_true (by omega)]; rfl
      · rw [if_neg q2, if_pos (by omega), decide_eq_false (by omega)]; rfl
theorem lex_lt : ∀ ns ms : List Int, HT.lexLt ns ms = (cmpI ns ms == .lt)
  | [], [] => rfl
  | [], _ :: _ => rfl
  | _ :: _, [] => rfl
  | x :: xs, y :: ys => by
    rw [HT.lexLt_cons]
    simp only [cmpI]
    by_cases q : x = y
    · rw [if_pos q, if_neg (by omega), if_neg (by omega), lex_lt xs ys]
    · rw [if_neg q]
      by_cases q2 : x < y
      · rw [if_pos q2, decide_eq_true q2]; rfl
      · rw [if_neg q2, if_pos (by omega), decide_eq_false q2]; rfl
theorem inD_any {x : D} : ∀ {ys : List D} {b : Bool}, inD x ys = some b → ((pyL ys).any fun z => PyData.eqv z x.py) = b ∧ (ys ≠ [] → eqOk x = true) ∧ ∀ y ∈ ys, eqOk y = true
  | [], b, e => by simp [inD] at e; subst e; exact ⟨rfl, fun z => absurd rfl z, fun _ h => nomatch h⟩
  | y :: ys, b, e => by
    simp only [inD, eqD] at e
    by_cases c : (eqOk y && eqOk x) = true
    · rw [if_pos c] at e
      cases q : inD x ys with
      | none => rw [q] at e; cases e
      | some b' =>
        rw [q] at e
        cases e
        obtain ⟨h1, h2, h3⟩ := inD_any q
        rw [Bool.and_eq_true] at c
        refine ⟨by simp only [pyL, List.any_cons, h1], fun _ => c.2, fun z hz => ?_⟩
        rcases List.mem_cons.mp hz with rfl | hz
        · exact c.1
        · exact h3 z hz
    · rw [if_neg c] at e
      cases e
theorem okL_data : ∀ {ys : List D}, (∀ y ∈ ys, eqOk y = true) → dataL false ys = true ∧ PyData.canLayAll0 (pyL ys) = true ∧ PyData.depthAll (pyL ys) ≤ 60
  | [], _ => ⟨by simp [dataL], by simp [pyL, PyData.canLayAll0], by simp [pyL, PyData.depthAll]⟩
  | y :: ys, h => by
    obtain ⟨h1, h2, h3⟩ := okL_data (ys := ys) fun z hz => h z (List.mem_cons_of_mem _ hz)
    have hy := h y List.mem_cons_self
    simp only [eqOk, Bool.and_eq_true, decide_eq_true_eq] at hy
    refine ⟨by simp [dataL, hy.1.1, h1], by simp [pyL, PyData.canLayAll0, hy.1.2, h2], ?_⟩
    simp only [pyL, PyData.depthAll]
    omega
theorem eqOk_shaped (h : eqOk d = true) : d.isData false = true ∧ SeqAt.shaped d.py = true := by
  simp only [eqOk, Bool.and_eq_true, decide_eq_true_eq] at h
  exact ⟨h.1.1, by simp only [SeqAt.shaped, Bool.and_eq_true, decide_eq_true_eq]; exact ⟨h.1.2, by omega⟩⟩
theorem flat_in {x : D} : ∀ {ys : List D} {vx : V} {vs : List V}, Rep T O H vx x → isFlat x = true → RepL T O H vs ys → ys.all isFlat = true → flatV vx = true ∧ vs.all flatV = true ∧ inV vx vs = ((pyL ys).any fun z => PyData.eqv z x.py)
  | [], vx, _, r, fx, .nil, _ => ⟨(by cases r <;> first | rfl | cases fx), rfl, rfl⟩
  | y :: ys, vx, _, r, fx, .cons ry t, fy => by
    rw [List.all_cons, Bool.and_eq_true] at fy
    obtain ⟨h1, h2, h3⟩ := flat_in r fx t fy.2
    refine ⟨h1, ?_, ?_⟩
    · rw [List.all_cons, h2, Bool.and_true]
      have f1 := fy.1
      cases ry <;> first | rfl | (simp [isFlat] at f1; done)
    · unfold inV at h3 ⊢
      rw [List.any_cons, h3]
      simp only [pyL, List.any_cons]
      congr 1
      have f1 := fy.1
      cases r <;> first | (simp [isFlat] at fx; done) | (cases ry <;> first | (simp [isFlat] at f1; done) | simp [eqV, D.py, PyData.eqv])
end
end Vm
namespace Vm
open PySem PySem.Spec PyProof.Rows L2
def coOf : CO → CmpOp
  | .eq => .Eq | .ne => .NotEq | .lt => .Lt | .le => .LtE | .gt => .Gt | .ge => .GtE | .is_ => .Is | .isn => .IsNot | .in_ => .In | .nin => .NotIn
section
variable {X : Cx}
theorem sgl {c : PySem.Str} {k : Nat} (h : c.cps.toList = [k]) : c = ⟨#[k]⟩ := by
  obtain ⟨⟨l⟩⟩ := c
  have h : l = [k] := h
  rw [h]
theorem cop_ok (hu : X.A.units + 65 < cLine) (o : CO) : OpR X (compareOp (coOf o)) (rOp (cop o)) := by
  rintro pins s σ H x y v u Q I rx ry ⟨T, O, F, ρ, σ', dx, dy, d, f, px, py, e, q⟩
  have sc : ∀ (b : Bool), D.bl b = d → Q (.bl b) H := fun b e => by
    subst e
    exact q _ H O (Keep.refl ..) (f.add rfl (.bl b))
  have eqs : ∀ {dx dy : D} {b : Bool}, Pk T O H x dx → Pk T O H y dy → eqD dx dy = some b → PyData.eqv dx.py dy.py = b ∧ Dp X.K H x dx.py ∧ Dp X.K H y dy.py ∧ SeqAt.shaped dx.py = true ∧ SeqAt.shaped dy.py = true := fun {dx dy b} px py e => by
    unfold eqD at e
    split at e
    · rename_i c
      rw [Bool.and_eq_true] at c
      obtain ⟨a1, a2⟩ := eqOk_shaped c.1
      obtain ⟨b1, b2⟩ := eqOk_shaped c.2
      exact ⟨Option.some.inj e, px.dp a1, py.dp b1, a2, b2⟩
    · cases e
  have inl : ∀ {dx : D} {ys : List D} {b : Bool}, Pk T O H x dx → Pk T O H y (.lst ys) → inD dx ys = some b → eqOk dx = true → ∃ ds, Dp X.K H x dx.py ∧ Dp X.K H y (.list ds) ∧ SeqAt.shaped dx.py = true ∧ SeqAt.shaped (.list ds) = true ∧ (ds.any fun z => PyData.eqv z dx.py) = b := fun {dx ys b} px py e ex => by
    obtain ⟨h1, _, h3⟩ := inD_any e
    obtain ⟨g1, g2, g3⟩ := okL_data h3
    obtain ⟨a1, a2⟩ := eqOk_shaped ex
    refine ⟨pyL ys, px.dp a1, py.dp (by simpa [D.isData] using g1), a2, ?_, h1⟩
    simp only [SeqAt.shaped, PyData.canLay0, PyData.depth, Bool.and_eq_true, decide_eq_true_eq]
    refine ⟨g2, ?_⟩
    exact decide_eq_true (by omega)
  have int2 : ∀ {i j : Int}, Pk T O H x (.int i) → Pk T O H y (.int j) → RelV (.int i) v ∧ RelV (.int j) u := fun a b => by
    rw [a.int] at rx; rw [b.int] at ry
    exact ⟨rx, ry⟩
  unfold cop at e
  split at e
  · split at e
    · cases e
    · rename_i hn
      have hn : dx.isOwn = false := by simpa using hn
      exact op_isN pins s σ H x y v u Q I rx ry ⟨py.non, by rw [px.nonIff hn]; exact sc _ (by rw [← Option.some.inj e])⟩
  · split at e
    · cases e
    · rename_i hn
      have hn : dx.isOwn = false := by simpa using hn
      refine op_notN pins s σ H x y v u Q I rx ry ⟨py.non, ?_⟩
      rw [px.nonIff hn]
      refine sc _ ?_
      rw [← Option.some.inj e]
  · rw [px.bl] at rx; rw [py.bl] at ry
    exact op_is_bl pins s σ H _ _ v u Q I rx ry ⟨_, _, rfl, rfl, sc _ (by rw [← Option.some.inj e, Bool.beq_eq_decide_eq])⟩
  · rw [px.bl] at rx; rw [py.bl] at ry
    exact op_isnot_bl pins s σ H _ _ v u Q I rx ry ⟨_, _, rfl, rfl, sc _ (by rw [← Option.some.inj e, bne, Bool.beq_eq_decide_eq])⟩
  · obtain ⟨r1, r2⟩ := int2 px py
    exact op_lt pins s σ H _ _ v u Q I r1 r2 ⟨_, _, rfl, rfl, sc _ (Option.some.inj e)⟩
  · obtain ⟨r1, r2⟩ := int2 px py
    exact op_le pins s σ H _ _ v u Q I r1 r2 ⟨_, _, rfl, rfl, sc _ (Option.some.inj e)⟩
  · obtain ⟨r1, r2⟩ := int2 px py
    exact op_gt pins s σ H _ _ v u Q I r1 r2 ⟨_, _, rfl, rfl, sc _ (Option.some.inj e)⟩
  · obtain ⟨r1, r2⟩ := int2 px py
    exact op_ge pins s σ H _ _ v u Q I r1 r2 ⟨_, _, rfl, rfl, sc _ (Option.some.inj e)⟩
  · rename_i xs ys
    split at e
    · rename_i ns ms e1 e2
      obtain ⟨a, vs, rfl, ha, na, ra⟩ := px.tup
      obtain ⟨b, ws, rfl, hb, nb, rb⟩ := py.tup
      rw [intsOf_eq e1] at ra
      rw [intsOf_eq e2] at rb
      have r1 := ra.ints
      have r2 := rb.ints
      subst r1 r2
      refine op_leT (by omega) pins s σ H _ _ v u Q I rx ry ⟨a, b, ns, ms, rfl, rfl, SqT.of ha, SqT.of hb, ?_⟩
      rw [lex_le ns ms _ 0 (by omega)]
      exact sc _ (Option.some.inj e)
    · cases e
  · rename_i xs ys
    split at e
    · rename_i ns ms e1 e2
      obtain ⟨a, vs, rfl, ha, na, ra⟩ := px.tup
      obtain ⟨b, ws, rfl, hb, nb, rb⟩ := py.tup
      rw [intsOf_eq e1] at ra
      rw [intsOf_eq e2] at rb
      have r1 := ra.ints
      have r2 := rb.ints
      subst r1 r2
      refine op_ltT (by omega) pins s σ H _ _ v u Q I rx ry ⟨a, b, ns, ms, rfl, rfl, SqT.of ha, SqT.of hb, ?_⟩
      rw [lex_lt]
      exact sc _ (Option.some.inj e)
    · cases e
  · -- str in str
    rename_i c z
    split at e
    · rename_i k hk
      rw [px.str] at rx; rw [py.str] at ry
      refine op_in_str pins s σ H _ _ v u Q I rx ry ⟨_, _, rfl, rfl, ?_⟩
      rw [sgl hk, StrLaws.found_one]
      exact sc _ (Option.some.inj e)
    · cases e
  · -- in list
    split at e
    · rename_i ex
      obtain ⟨b, hb, e⟩ := Option.map_eq_some_iff.mp e
      obtain ⟨ds, d1, d2, s1, s2, h⟩ := inl px py hb ex
      refine op_inD hu pins s σ H _ _ v u Q I rx ry ⟨_, ds, d1, d2, s1, s2, ?_⟩
      rw [h]
      exact sc _ e
    · cases e
  · split at e
    · rename_i ex
      obtain ⟨b, hb, e⟩ := Option.map_eq_some_iff.mp e
      obtain ⟨ds, d1, d2, s1, s2, h⟩ := inl px py hb ex
      refine op_notInD hu pins s σ H _ _ v u Q I rx ry ⟨_, ds, d1, d2, s1, s2, ?_⟩
      rw [h]
      exact sc _ e
    · cases e
  · -- in tuple
    split at e
    · rename_i c
      rw [Bool.and_eq_true] at c
      obtain ⟨b, hb, e⟩ := Option.map_eq_some_iff.mp e
      obtain ⟨a, xs, rfl, ha, na, ra⟩ := py.tup
      obtain ⟨g1, g2, g3⟩ := flat_in (px.flatRep c.1) c.1 ra c.2
      refine op_in_seq pins s σ H _ _ v u Q I rx ry ⟨a, xs, rfl, .inr (SqT.of ha), g1, g2, ?_⟩
      rw [g3, (inD_any hb).1]
      exact sc _ e
    · cases e
  · split at e
    · rename_i c
      rw [Bool.and_eq_true] at c
      obtain ⟨b, hb, e⟩ := Option.map_eq_some_iff.mp e
      obtain ⟨a, xs, rfl, ha, na, ra⟩ := py.tup
      obtain ⟨g1, g2, g3⟩ := flat_in (px.flatRep c.1) c.1 ra c.2
      refine op_notIn_seq pins s σ H _ _ v u Q I rx ry ⟨a, xs, rfl, .inr (SqT.of ha), g1, g2, ?_⟩
      rw [g3, (inD_any hb).1]
      exact sc _ e
    · cases e
  · obtain ⟨b, hb, e⟩ := Option.map_eq_some_iff.mp e
    obtain ⟨h, d1, d2, s1, s2⟩ := eqs px py hb
    refine op_eqD (by omega) pins s σ H _ _ v u Q I rx ry ⟨_, _, d1, d2, s1, s2, ?_⟩
    rw [h]
    exact sc _ e
  · obtain ⟨b, hb, e⟩ := Option.map_eq_some_iff.mp e
    obtain ⟨h, d1, d2, s1, s2⟩ := eqs px py hb
    refine op_neD (by omega) pins s σ H _ _ v u Q I rx ry ⟨_, _, d1, d2, s1, s2, ?_⟩
    rw [h]
    exact sc _ e
  · cases e
end
end Vm
/-! #### part Vo3 -/
namespace Vm
open PySem PySem.Spec PyProof.Rows L2
section
variable {X : Cx} {pins : List (Addr × Obj)} {τ : L2.St} {H : Hp} {s : Shared} {T : Tab} {O : AS}
mutual
/-- the heap's data, dicts among them -/
theorem Rep.reads (I : Inv X pins τ H s) : ∀ (d : D) (v : V) (u : Value), Rep T O H v d → d.isData true = true → RelV v u → ∃ as, Reads s.heap u d.py as ∧ (noLst d = true → sysModules ∉ as)
  | _, _, _, .non, _, r => by cases r; exact ⟨_, .none, fun _ z => nomatch z⟩
  | _, _, _, .bl b, _, r => by cases r; exact ⟨_, .bool b, fun _ z => nomatch z⟩
  | _, _, _, .int i, _, r => by obtain ⟨t, rfl⟩ := r; exact ⟨_, .int i t, fun _ z => nomatch z⟩
  | _, _, _, .str x, _, r => by obtain ⟨t, rfl⟩ := r; exact ⟨_, .str x t, fun _ z => nomatch z⟩
  | .tup ds, _, _, .tup h n q, e, r => by
    cases r
    obtain ⟨its, rv, ⟨o, ho, hc, k, hd⟩, _⟩ := I.tuple (SqT.of h)
    obtain ⟨as, hr, hn⟩ := RepL.reads I ds _ its q (by simpa [D.isData] using e) rv
    exact ⟨_, .tuple ho hc hd hr, fun z => hn (by simpa [noLst] using z)⟩
  | .lst ds, _, _, .lst h n q, e, r => by
    cases r
    obtain ⟨its, rv, ⟨o, k, ho, hc, _, hd⟩, _⟩ := I.list (SqL.of h)
    obtain ⟨as, hr, hn⟩ := RepL.reads I ds _ its q (by simpa [D.isData] using e) rv
    exact ⟨_, .list ho hc hd hr, fun z => by simp [noLst] at z⟩
  | _, _, _, .dct0 h n, e, r => by
    cases r
    obtain ⟨z, y, vs, kv, ⟨o, es, ep, ho, hx, hd, _, hpp, _⟩⟩ := (show ObjOk X.prog X.w H s.heap _ (.dK []) from I.hok _ _ h)
    cases kv
    have hes : es.toList = [] := List.length_eq_zero_iff.mp (by have := hpp.length; simpa using this)
    refine ⟨_, .dict ho hx.1 hd (kvs := []) (as := []) (bs := []) ?_ ?_, fun _ m => ?_⟩
    · rw [hes]; exact .nil
    · rw [hes]; exact .nil
    · rcases List.mem_cons.mp m with m | m
      · rw [← m] at y
        simp at y
      · cases m
  | .own d, v, u, .own _ q, e, r => by
    obtain ⟨as, h1, h2⟩ := Rep.reads I d v u q (by simpa [D.isData] using e) r
    exact ⟨as, h1, fun z => h2 (by simpa [noLst] using z)⟩
  | .lsto _, _, _, .lsto _ _ _, e, _ => by simp [D.isData] at e
  | .scr _, _, _, .scr _ _ _, e, _ => by simp [D.isData] at e
  | .ins _ _ _, _, _, .ins _ _ _ _ _, e, _ => by simp [D.isData] at e
  | .fn _, _, _, .fn _, e, _ => by simp [D.isData] at e
theorem RepL.reads (I : Inv X pins τ H s) : ∀ (ds : List D) (vs : List V) (us : List Value), RepL T O H vs ds → dataL true ds = true → Vals vs us → ∃ as, ReadsAll s.heap us (pyL ds) as ∧ (noLsts ds = true → sysModules ∉ as)
  | [], _, _, .nil, _, r => by cases r; exact ⟨_, .nil, fun _ z => nomatch z⟩
  | d :: ds, _, _, .cons q t, e, r => by
    cases r with
    | cons r1 r2 =>
      simp only [dataL, Bool.and_eq_true] at e
      obtain ⟨as, h1, n1⟩ := Rep.reads I d _ _ q e.1 r1
      obtain ⟨bs, h2, n2⟩ := RepL.reads I ds _ _ t e.2 r2
      refine ⟨_, .cons h1 h2, fun z m => ?_⟩
      simp only [noLsts, Bool.and_eq_true] at z
      rcases List.mem_append.mp m with m | m
      · exact n1 z.1 m
      · exact n2 z.2 m
end
end
/-- a built-in function of one value -/
def r1 (sem : D → Option D) : V → Hp → VK → Prop := fun x H Q => ∃ T O F ρ σ' dx d, FR T O F H ρ σ' ∧ Pk T O H x dx ∧ sem dx = some d ∧
  ∀ v H' O', Keep F O H O' H' → FR T O' F H' (ρ ++ [some d]) (σ' ++ [some v]) → Q v H'
def rC1 (sem : D → Option D) : List V → Hp → VK → Prop := fun xs H Q => ∃ x, xs = [x] ∧ r1 sem x H Q
def rC2 (sem : D → D → Option D) : List V → Hp → VK → Prop := fun xs H Q => ∃ x y, xs = [x, y] ∧ rOp sem x y H Q
section
variable {X : Cx} {T : Tab} {O F : AS} {H : Hp} {ρ : Env} {σ : LSt} {x : V} {ds : List D}
theorem blsOf_eq : ∀ {ds : List D} {ns : List Bool}, blsOf ds = some ns → ds = ns.map .bl
  | [], ns, e => by simp [blsOf] at e; subst e; rfl
  | .bl i :: r, ns, e => by
    simp only [blsOf, Option.map_eq_some_iff] at e
    obtain ⟨ms, h, rfl⟩ := e
    rw [blsOf_eq h]
    rfl
  | .non :: _, _, e | .int _ :: _, _, e | .str _ :: _, _, e | .tup _ :: _, _, e | .lst _ :: _, _, e | .lsto _ :: _, _, e | .scr _ :: _, _, e | .dct _ _ :: _, _, e | .ins _ _ _ :: _, _, e | .exc _ _ :: _, _, e | .fn _ :: _, _, e | .clo _ _ _ :: _, _, e | .own _ :: _, _, e => by simp [blsOf] at e
theorem RepL.bls : ∀ {xs : List V} {ns : List Bool}, RepL T O H xs (ns.map .bl) → xs = ns.map .bl
  | [], [], _ => rfl
  | _ :: _, _ :: _, .cons r t => by
    cases r
    rw [RepL.bls t]
    rfl
theorem Pk.dct0 {ks vs : List D} (p : Pk T O H x (.dct ks vs)) : ∃ a, x = .ref a ∧ H a = some (.dK []) ∧ ks = [] ∧ vs = [] := by
  rcases p with ⟨A, w⟩ | r
  · cases w with
    | dct0 h e => exact ⟨_, rfl, h, rfl, rfl⟩
  · cases r with
    | dct0 h n => exact ⟨_, rfl, h, rfl, rfl⟩
theorem Pk.lsto (p : Pk T O H x (.lsto ds)) : ∃ a xs, x = .ref a ∧ H a = some (.lst xs) ∧ xs.length = ds.length := by
  rcases p with ⟨A, w⟩ | r
  · cases w with
    | lsto h r n e =>
      refine ⟨_, _, rfl, h, ?_⟩
      have : ∀ {xs : List V} {ds : List D} {B : AS}, OwnL T O H xs ds B → xs.length = ds.length := fun {xs ds B} q => by
        have := (OwnL.share (O' := emp) (fun _ _ z => z) ds xs B q fun _ _ z => z)
        exact this.length
      exact this r
  · cases r with
    | lsto h n r => exact ⟨_, _, rfl, h, r.length⟩
theorem b1_len : CallR X (.builtin "len") (rC1 (b1 .len)) := by
  rintro pins s σ H xs us Q I r ⟨x, rfl, T, O, F, ρ, σ', dx, d, f, p, e, q⟩
  have sc : ∀ i : Int, D.int i = d → Q (.int i) H := fun i e => by
    subst e
    exact q _ H O (Keep.refl ..) (f.add rfl (.int i))
  have seq : ∀ {a : Addr} {xs : List V} {n : Nat}, x = .ref a → (SqL X.K H a xs ∨ SqT X.K H a xs) → xs.length = n → D.int n = d → wpAny (model X.prog X.w) X.A (call (.builtin "len") us) (EP X pins σ Q) X.xe s := fun {a xs n} e1 h e2 e3 => by
    subst e1
    exact call_len_seq pins s σ H _ us Q I r ⟨a, xs, rfl, h, by rw [e2]; exact sc _ e3⟩
  cases dx with
  | lst ds =>
    obtain ⟨a, xs, rfl, h, rr⟩ := p.lst
    exact seq rfl (.inl (SqL.of h)) rr.length (by simpa [b1] using e)
  | lsto ds =>
    obtain ⟨a, xs, rfl, h, rr⟩ := p.lsto
    exact seq rfl (.inl (SqL.of h)) rr (by simpa [b1] using e)
  | scr ds =>
    obtain ⟨a, o, xs, rfl, h, rr⟩ := p.scr
    exact seq rfl (.inl (.inl (.inr ⟨o, h⟩))) rr.length (by simpa [b1] using e)
  | tup ds =>
    obtain ⟨a, xs, rfl, h, _, rr⟩ := p.tup
    exact seq rfl (.inr (SqT.of h)) rr.length (by simpa [b1] using e)
  | dct ks vs =>
    obtain ⟨a, rfl, h, rfl, rfl⟩ := p.dct0
    exact call_lenD pins s σ H _ us Q I r ⟨a, [], rfl, h, sc _ (by simpa [b1] using e)⟩
  | str z =>
    rw [p.str] at r
    simp only [b1] at e
    split at e
    · rename_i hz
      exact call_len_str pins s σ H _ us Q I r ⟨z, rfl, by rw [← line_eq]; exact hz, sc _ (Option.some.inj e)⟩
    · cases e
  | _ => simp [b1] at e
theorem b1_abs : CallR X (.builtin "abs") (rC1 (b1 .abs)) := by
  rintro pins s σ H xs us Q I r ⟨x, rfl, T, O, F, ρ, σ', dx, d, f, p, e, q⟩
  cases dx with
  | int i =>
    rw [p.int] at r
    have e : D.int (if i < 0 then -i else i) = d := by simpa [b1] using e
    subst e
    exact call_abs pins s σ H _ us Q I r ⟨i, rfl, q _ H O (Keep.refl ..) (f.add rfl (.int _))⟩
  | _ => simp [b1] at e
theorem b1_int : CallR X (.type "int") (rC1 (b1 .int)) := by
  rintro pins s σ H xs us Q I r ⟨x, rfl, T, O, F, ρ, σ', dx, d, f, p, e, q⟩
  cases dx with
  | int i =>
    rw [p.int] at r
    have e : D.int i = d := by simpa [b1] using e
    subst e
    exact call_int1 pins s σ H _ us Q I r (.inl ⟨i, rfl, q _ H O (Keep.refl ..) (f.add rfl (.int _))⟩)
  | bl i =>
    rw [p.bl] at r
    have e : D.int (if i = true then 1 else 0) = d := by simpa [b1] using e
    subst e
    exact call_int1 pins s σ H _ us Q I r (.inr ⟨i, rfl, q _ H O (Keep.refl ..) (f.add rfl (.int _))⟩)
  | _ => simp [b1] at e
theorem b1_list : CallR X (.type "list") (rC1 (b1 .list)) := by
  rintro pins s σ H xs us Q I r ⟨x, rfl, T, O, F, ρ, σ', dx, d, f, p, e, q⟩
  cases dx with
  | lst ds =>
    obtain ⟨a, xs, rfl, h, rr⟩ := p.lst
    have e : D.own (.lst ds) = d := by simpa [b1] using e
    subst e
    refine call_list_of pins s σ H _ us Q I r ⟨a, xs, rfl, .inl (SqL.of h), fun l n => ?_⟩
    obtain ⟨k, f'⟩ := f.lst n rr
    exact q _ _ _ k f'
  | tup ds =>
    obtain ⟨a, xs, rfl, h, _, rr⟩ := p.tup
    have e : D.own (.lst ds) = d := by simpa [b1] using e
    subst e
    refine call_list_of pins s σ H _ us Q I r ⟨a, xs, rfl, .inr (SqT.of h), fun l n => ?_⟩
    obtain ⟨k, f'⟩ := f.lst n rr
    exact q _ _ _ k f'
  | _ => simp [b1] at e
theorem b1_tuple : CallR X (.type "tuple") (rC1 (b1 .tuple)) := by
  rintro pins s σ H xs us Q I r ⟨x, rfl, T, O, F, ρ, σ', dx, d, f, p, e, q⟩
  cases dx with
  | lst ds =>
    obtain ⟨a, xs, rfl, h, rr⟩ := p.lst
    have e : D.tup ds = d := by simpa [b1] using e
    subst e
    refine call_tuple_of pins s σ H _ us Q I r ⟨a, xs, rfl, .inl ⟨SqL.of h, fun l n => ?_⟩⟩
    obtain ⟨k, f'⟩ := f.tup n rr
    exact q _ _ _ k f'
  | tup ds =>
    obtain ⟨a, xs, rfl, h, na, rr⟩ := p.tup
    have e : D.tup ds = d := by simpa [b1] using e
    subst e
    exact call_tuple_of pins s σ H _ us Q I r ⟨a, xs, rfl, .inr ⟨SqT.of h, q _ H O (Keep.refl ..) (f.add rfl (.tup h na rr))⟩⟩
  | _ => simp [b1] at e
theorem b1_all (hc : X.calm = true) : CallR X (.builtin "all") (rC1 (b1 .all)) := by
  rintro pins s σ H xs us Q I r ⟨x, rfl, T, O, F, ρ, σ', dx, d, f, p, e, q⟩
  cases dx with
  | lst ds =>
    obtain ⟨a, xs, rfl, h, rr⟩ := p.lst
    simp only [b1, Option.map_eq_some_iff] at e
    obtain ⟨bs, hb, e⟩ := e
    subst e
    rw [blsOf_eq hb] at rr
    have := rr.bls
    subst this
    exact cr_all hc pins s σ H _ us Q I r ⟨a, bs, rfl, SqL.of h, q _ H O (Keep.refl ..) (f.add rfl (.bl _))⟩
  | _ => simp [b1] at e
theorem b1_any (hc : X.calm = true) : CallR X (.builtin "any") (rC1 (b1 .any)) := by
  rintro pins s σ H xs us Q I r ⟨x, rfl, T, O, F, ρ, σ', dx, d, f, p, e, q⟩
  cases dx with
  | lst ds =>
    obtain ⟨a, xs, rfl, h, rr⟩ := p.lst
    simp only [b1, Option.map_eq_some_iff] at e
    obtain ⟨bs, hb, e⟩ := e
    subst e
    rw [blsOf_eq hb] at rr
    have := rr.bls
    subst this
    exact cr_any hc pins s σ H _ us Q I r ⟨a, bs, rfl, SqL.of h, q _ H O (Keep.refl ..) (f.add rfl (.bl _))⟩
  | _ => simp [b1] at e
theorem sum_tup {prog : Program} {w : World} {A : Around} {E : Value → Shared → Prop} {s : Shared} {l : Addr} {its : List Value} {ns : List Int} {Q : Value → Shared → Prop} (hh : A.handled = none) (ht : IsTup s.heap l its.toArray) (hi : IntsAre its ns)
    (h : ∀ h' tk t', (∀ b o, s.heap.get? b = some o → h'.get? b = some o) → Q (.int ns.sum t') { s with heap := h', toks := tk }) : wpAny (model prog w) A (call (.builtin "sum") [.ref l]) Q E s := by
  obtain ⟨xs, e⟩ := hi.allInts.items
  have hn : numsOf (intItems xs).toList = ns := by rw [← e]; exact hi.numsOf
  rw [nums_intItems] at hn; rw [e] at ht
  have lt : l < s.heap.objs.size := let ⟨_, e, _⟩ := ht; Heap.lt_size e
  have ht' : s.heap.IsTuple l (intItems xs) := ht
  refine PySem.call_sum_walkG (wpAny_pyIter_tuple ht' ⟨_, _, _, _, _, _, PySem.numAt xs, rfl, Walks.tuple (A := A.in1) hh _ l (Nat.ne_of_lt lt) (intItems xs), ⟨⟨_, Heap.get?_push_size _ rfl, rfl, rfl⟩, ?_⟩, fun b hb => ?_, fun _ _ => PySem.intItems_at, fun h' tk t' hk => ?_⟩)
  · obtain ⟨o, e1, r⟩ := ht'
    exact ⟨o, Heap.get?_push_of_some _ e1, r⟩
  · show b < (s.heap.push _).objs.size
    rw [Heap.size_push]
    have : b = s.heap.objs.size ∨ b = l := by simpa using hb
    rcases this with rfl | rfl
    · exact Nat.lt_succ_self _
    · exact Nat.lt_succ_of_lt lt
  · have := h h' tk t' fun b o eo => hk b o (fun hm => by
      have : b = s.heap.objs.size := by simpa using hm
      exact absurd (this ▸ Heap.lt_size eo) (Nat.lt_irrefl _)) (Heap.get?_push_of_some _ eo)
    have z : PySem.preSum (PySem.numAt xs) xs.size = ns.sum := by
      rw [PySem.preSum_eq, List.take_of_length_le (by simp), hn]
    have z2 : (intItems xs).size = xs.size := by simp [intItems]
    rw [z2, z]
    exact this
theorem RepL.intsAre : ∀ {xs : List V} {ns : List Int} {us : List Value}, RepL T O H xs (ns.map .int) → Vals xs us → IntsAre us ns
  | _, [], _, .nil, .nil => .nil
  | _, n :: ns, _, .cons r t, .cons q u => by
    cases r
    obtain ⟨tk, rfl⟩ := q
    exact .cons n tk (RepL.intsAre t u)
theorem b1_sum (hc : X.calm = true) : CallR X (.builtin "sum") (rC1 (b1 .sum)) := by
  rintro pins s σ H xs us Q I r ⟨x, rfl, T, O, F, ρ, σ', dx, d, f, p, e, q⟩
  cases dx with
  | lst ds =>
    obtain ⟨a, xs, rfl, h, rr⟩ := p.lst
    simp only [b1, Option.map_eq_some_iff] at e
    obtain ⟨ns, hb, e⟩ := e
    subst e
    rw [intsOf_eq hb] at rr
    have := rr.ints
    subst this
    exact cr_sum hc pins s σ H _ us Q I r ⟨a, ns, rfl, SqL.of h, q _ H O (Keep.refl ..) (f.add rfl (.int _))⟩
  | tup ds =>
    obtain ⟨a, xs, rfl, h, na, rr⟩ := p.tup
    simp only [b1, Option.map_eq_some_iff] at e
    obtain ⟨ns, hb, e⟩ := e
    subst e
    rw [intsOf_eq hb] at rr
    obtain ⟨its, rv, ht, _⟩ := I.tuple (SqT.of h)
    rw [Vals.ref1 r]
    exact sum_tup (I.ok.hd hc) ht (rr.intsAre rv) fun h' tk t' hk => ⟨.int _, H, I.kept hk, ⟨_, rfl⟩, q _ H O (Keep.refl ..) (f.add rfl (.int _))⟩
  | _ => simp [b1] at e
theorem b1_repr (hg : X.A.guards = some []) (hu : X.A.units + 64 < cLine) : CallR X (.builtin "repr") (rC1 (b1 .repr)) := by
  rintro pins s σ H xs us Q I r ⟨x, rfl, T, O, F, ρ, σ', dx, d, f, p, e, q⟩
  simp only [b1, Option.map_eq_some_iff] at e
  obtain ⟨t, e, e2⟩ := e
  subst e2
  unfold reprD at e
  split at e
  · rename_i c
    simp only [Bool.and_eq_true, decide_eq_true_eq, Bool.or_eq_true, Bool.not_eq_true'] at c
    obtain ⟨⟨⟨⟨c1, c2⟩, c3⟩, c4⟩, c5⟩ := c
    have e := Option.some.inj e
    subst e
    obtain ⟨u, rfl, rx⟩ := vals1 r
    obtain ⟨as, h1, h2⟩ := Rep.reads I dx x u p.view c1 rx
    have fin : ∀ h' u tk, (∀ b o, s.heap.get? b = some o → h'.get? b = some o) → EP X pins σ Q (.str dx.py.shown u) { s with heap := h', toks := tk } := fun h' u tk k =>
      ⟨.str _, H, I.kept k, ⟨_, rfl⟩, q _ H O (Keep.refl ..) (f.add rfl (.str _))⟩
    have hz : dx.py.shown.length ≤ sizeLine := by rw [← line_eq]; exact c4
    have hsm : dx.py.hasDict = true → sysModules ∉ as := fun z => by
      rcases c5 with c5 | c5
      · rw [z] at c5; cases c5
      · exact h2 c5
    revert fin hz hsm c3 c2
    generalize dx.py = dp at h1
    intro c3 c2 fin hz hsm
    cases h1 with
    | none => exact PySem.P.repr_of_none (by have := fin s.heap s.toks (s.toks + 1) fun _ _ z => z; simpa only [PyData.shown] using this)
    | bool b => exact PySem.P.repr_of_bool (by have := fin s.heap s.toks (s.toks + 1) fun _ _ z => z; simpa only [PyData.shown] using this)
    | int i t => exact PySem.P.repr_of_int (by simpa [PyData.showable] using c3) (by have := fin s.heap s.toks (s.toks + 1) fun _ _ z => z; simpa only [PyData.shown] using this)
    | str y t => exact PySem.P.repr_of_str (by have := fin s.heap s.toks (s.toks + 1) fun _ _ z => z; simpa only [PyData.shown] using this) (by simpa only [PyData.shown] using hz)
    | list a1 a2 a3 a4 => exact repr_of_reads' (.list a1 a2 a3 a4) c3 hsm hg (by omega) (fun _ _ z => z) fin hz
    | tuple a1 a2 a3 a4 => exact repr_of_reads' (.tuple a1 a2 a3 a4) c3 hsm hg (by omega) (fun _ _ z => z) fin hz
    | dict a1 a2 a3 a4 a5 => exact repr_of_reads' (.dict a1 a2 a3 a4 a5) c3 hsm hg (by omega) (fun _ _ z => z) fin hz
  · cases e
theorem b1_str : CallR X (.type "str") (rC1 (b1 .str)) := by
  rintro pins s σ H xs us Q I r ⟨x, rfl, T, O, F, ρ, σ', dx, d, f, p, e, q⟩
  cases dx with
  | int i =>
    rw [p.int] at r
    simp only [b1] at e
    split at e
    · rename_i c
      have e := Option.some.inj e
      subst e
      exact call_str_int pins s σ H _ us Q I r ⟨i, rfl, c, q _ H O (Keep.refl ..) (f.add rfl (.str _))⟩
    · cases e
  | str z =>
    rw [p.str] at r
    have e : D.str z = d := by simpa [b1] using e
    subst e
    exact SkE.call_str_str pins s σ H _ us Q I r ⟨z, rfl, q _ H O (Keep.refl ..) (f.add rfl (.str _))⟩
  | _ => simp [b1] at e
theorem b2_min (hc : X.calm = true) : CallR X (.builtin "min") (rC2 (b2 .min2)) := by
  rintro pins s σ H xs us Q I r ⟨x, y, rfl, T, O, F, ρ, σ', dx, dy, d, f, px, py, e, q⟩
  unfold b2 at e
  split at e
  · rw [px.int, py.int] at r
    have e := Option.some.inj e
    subst e
    exact call_min2 hc pins s σ H _ us Q I r ⟨_, _, rfl, q _ H O (Keep.refl ..) (f.add rfl (.int _))⟩
  all_goals first | (cases e; done) | contradiction
theorem b2_max (hc : X.calm = true) : CallR X (.builtin "max") (rC2 (b2 .max2)) := by
  rintro pins s σ H xs us Q I r ⟨x, y, rfl, T, O, F, ρ, σ', dx, dy, d, f, px, py, e, q⟩
  unfold b2 at e
  split at e
  · contradiction
  · rw [px.int, py.int] at r
    have e := Option.some.inj e
    subst e
    exact call_max2 hc pins s σ H _ us Q I r ⟨_, _, rfl, q _ H O (Keep.refl ..) (f.add rfl (.int _))⟩
  all_goals first | (cases e; done) | contradiction
end
end Vm
/-! #### part Vo4 -/
namespace Vm
open PySem PySem.Spec PyProof.Rows L2
/-- an operand whose owned places lie in S -/
def PkA (T : Tab) (O S : AS) (H : Hp) (v : V) (d : D) : Prop := (∃ A, Own T O H v d A ∧ ∀ b, A b → S b) ∨ Rep T O H v d
/-- a place's thing whose owned places lie in S -/
def PkO (T : Tab) (O S : AS) (H : Hp) (v : V) (d : D) : Prop := (∃ x A, d = .own x ∧ Own T O H v x A ∧ ∀ b, A b → S b) ∨ Rep T O H v d
section
variable {T : Tab} {O S F : AS} {H : Hp} {ρ : Env} {σ : LSt} {x y v : V} {d e : D} {ds : List D} {xs : List V}
theorem Val.pkA (p : Val T O H v d) : PkA T O O H v d.un := by
  rcases p with ⟨x, A, rfl, w, s⟩ | r
  · exact .inl ⟨A, w, s⟩
  · exact .inr r.un
theorem Pk.pkA (p : Pk T O H v d) : PkA T O (fun _ => True) H v d := by
  rcases p with ⟨A, w⟩ | r
  · exact .inl ⟨A, w, fun _ _ => trivial⟩
  · exact .inr r
theorem PkO.rep (p : PkO T O S H v d) (n : d.isOwn = false) : Rep T O H v d := by
  rcases p with ⟨x, A, rfl, w, s⟩ | r
  · cases n
  · exact r
theorem OwnL.get : ∀ {xs : List V} {ds : List D} {B : AS} {i : Nat} {d : D}, OwnL T O H xs ds B → (∀ b, B b → S b) → ds[i]? = some d → ∃ v, xs[i]? = some v ∧ PkO T O S H v d
  | _, _, _, _, _, .nil _, _, e => by simp at e
  | _, _, _, 0, _, .rep n r t, s, e => by simp at e; subst e; exact ⟨_, rfl, .inr r⟩
  | _, _, _, 0, _, .own r t n ee, s, e => by simp at e; subst e; exact ⟨_, rfl, .inl ⟨_, _, rfl, r, fun b hb => s b ((ee b).mpr (.inl hb))⟩⟩
  | _, _, _, i + 1, d, .rep n r t, s, e => by
    obtain ⟨v, h1, h2⟩ := OwnL.get (i := i) (d := d) t s (by simpa using e)
    exact ⟨v, by simpa using h1, h2⟩
  | _, _, _, i + 1, d, .own r t n ee, s, e => by
    obtain ⟨v, h1, h2⟩ := OwnL.get (i := i) (d := d) t (fun b hb => s b ((ee b).mpr (.inr hb))) (by simpa using e)
    exact ⟨v, by simpa using h1, h2⟩
theorem OwnL.length : ∀ {xs : List V} {ds : List D} {B : AS}, OwnL T O H xs ds B → xs.length = ds.length
  | _, _, _, .nil _ => rfl
  | _, _, _, .rep _ _ t => congrArg (· + 1) (OwnL.length t)
  | _, _, _, .own _ t _ _ => congrArg (· + 1) (OwnL.length t)
theorem ixN_eq (n : Nat) (i : Int) : Vm.ixN n i = L2.ixN n i := rfl
/-- a list or tuple that is looked into -/
theorem PkA.seq (p : PkA T O S H x d) (hd : (∃ ds, d = .lst ds) ∨ (∃ ds, d = .lsto ds) ∨ (∃ ds, d = .scr ds) ∨ ∃ ds, d = .tup ds) : ∃ (a : Addr) (xs : List V) (ds : List D), x = .ref a ∧ (∀ K, SqL K H a xs ∨ SqT K H a xs) ∧ (d = .lst ds ∨ d = .lsto ds ∨ d = .scr ds ∨ d = .tup ds) ∧ xs.length = ds.length ∧
    ∀ (i : Nat) (e : D), ds[i]? = some e → ∃ v, xs[i]? = some v ∧ PkO T O S H v e := by
  have rp : ∀ {xs : List V} {ds : List D}, RepL T O H xs ds → ∀ (i : Nat) (e : D), ds[i]? = some e → ∃ v, xs[i]? = some v ∧ PkO T O S H v e := fun {xs ds} r i e h => by
    obtain ⟨v, h1, h2⟩ := r.get h
    exact ⟨v, h1, .inr h2⟩
  rcases p with ⟨A, w, s⟩ | r
  · cases w with
    | lst h r e => exact ⟨_, _, _, rfl, fun K => .inl (SqL.of h), .inl rfl, r.length, rp r⟩
    | lsto h r n e => exact ⟨_, _, _, rfl, fun K => .inl (SqL.of h), .inr (.inl rfl), r.length, fun i d h => r.get (fun b hb => s b ((e b).mpr (.inr hb))) h⟩
    | dct0 h e => simp at hd
    | ins c h m r n e => simp at hd
  · cases r with
    | lst h n r => exact ⟨_, _, _, rfl, fun K => .inl (SqL.of h), .inl rfl, r.length, rp r⟩
    | lsto h n r => exact ⟨_, _, _, rfl, fun K => .inl (SqL.of h), .inr (.inl rfl), r.length, rp r⟩
    | scr h n r => exact ⟨_, _, _, rfl, fun K => .inl (.inl (.inr ⟨_, h⟩)), .inr (.inr (.inl rfl)), r.length, rp r⟩
    | tup h n r => exact ⟨_, _, _, rfl, fun K => .inr (SqT.of h), .inr (.inr (.inr rfl)), r.length, rp r⟩
    | _ => simp at hd
/-- x[i]: where it stands -/
def rItem : R2 := fun x y H Q => ∃ T O S dx dy e, PkA T O S H x dx ∧ Pk T O H y dy ∧ itemD dx dy = some e ∧ ∀ w, PkO T O S H w e → Q w H
theorem ix_item {X : Cx} : IxR X rItem := by
  rintro value slice pins s σ H x y v u Q I rx ry ⟨T, O, S, dx, dy, e, px, py, h, q⟩ hs
  have go : ∀ {ds : List D} {k : Int}, ((∃ ds, dx = .lst ds) ∨ (∃ ds, dx = .lsto ds) ∨ (∃ ds, dx = .scr ds) ∨ ∃ ds, dx = .tup ds) → (∀ ds', (dx = .lst ds' ∨ dx = .lsto ds' ∨ dx = .scr ds' ∨ dx = .tup ds') → ds' = ds) → dy = .int k → ((Vm.ixN ds.length k).bind fun j => ds[j]?) = some e →
      wpAny (model X.prog X.w) X.A (subscriptTail value slice v u) (EP X pins σ Q) X.xe s := fun {ds k} hd hu e1 e2 => by
    obtain ⟨a, xs, ds', rfl, sq, hd', hl, get⟩ := px.seq hd
    have := hu ds' hd'
    subst this
    subst e1
    obtain ⟨j, hj, e3⟩ := Option.bind_eq_some_iff.mp e2
    obtain ⟨w, hw, pw⟩ := get j e e3
    rw [py.int] at ry
    have ha : atI xs k = some w := by
      unfold atI
      rw [← ixN_eq, hl, hj]
      exact hw
    rcases sq X.K with sq | sq
    · exact ix_list value slice pins s σ H _ _ v u Q I rx ry ⟨a, xs, k, w, rfl, rfl, sq, ha, q w pw⟩ hs
    · exact ix_tup value slice pins s σ H _ _ v u Q I rx ry ⟨a, xs, k, w, rfl, rfl, sq, ha, q w pw⟩ hs
  unfold itemD at h
  split at h
  · exact go (.inl ⟨_, rfl⟩) (fun ds' z => by simpa [eq_comm] using z) rfl h
  · exact go (.inr (.inl ⟨_, rfl⟩)) (fun ds' z => by simpa [eq_comm] using z) rfl h
  · exact go (.inr (.inr (.inl ⟨_, rfl⟩))) (fun ds' z => by simpa [eq_comm] using z) rfl h
  · exact go (.inr (.inr (.inr ⟨_, rfl⟩))) (fun ds' z => by simpa [eq_comm] using z) rfl h
  · rename_i z k
    split at h
    · rename_i hz
      obtain ⟨j, hj, e3⟩ := Option.bind_eq_some_iff.mp h
      obtain ⟨c, hc, e4⟩ := Option.map_eq_some_iff.mp e3
      have px' : x = .str z := by
        rcases px with ⟨A, w, _⟩ | r
        · cases w
        · cases r; rfl
      subst px'
      rw [py.int] at ry
      subst e4
      refine ix_str value slice pins s σ H _ _ v u Q I rx ry ⟨z, k, c, rfl, rfl, by rw [← line_eq]; exact hz, ?_, q _ (.inr (.str _))⟩ hs
      unfold atI
      have hl : z.cps.toList.length = z.length := rfl
      rw [← ixN_eq, hl, hj]
      simpa using hc
    · cases h
  · rename_i ks vs k
    split at h
    · rcases px with ⟨A, w, _⟩ | r
      · cases w with
        | dct0 hh e => simp [valD] at h
      · cases r with
        | dct0 hh n => simp [valD] at h
    · cases h
  · cases h
/-! ### fields -/
theorem fname_beq (f g : Nat) : (fname f == fname g) = (f == g) := by
  by_cases h : f = g
  · subst h; simp
  · rw [beq_eq_false_iff_ne.mpr h, beq_eq_false_iff_ne.mpr (fun e => h (fname_inj e))]
theorem RepL.fld {f : Nat} : ∀ {fs : List (PySem.Str × V)} {gs : List Nat} {vs : List D}, fs.map (·.1) = gs.map fname → RepL T O H (fs.map (·.2)) vs → (gs.zip vs).lookup f = some d → ∃ v, fs.lookup (fname f) = some v ∧ Rep T O H v d
  | [], [], _, _, .nil, e => by simp at e
  | (n, v) :: fs, g :: gs, _ :: _, m, .cons r t, e => by
    simp only [List.map_cons, List.cons.injEq] at m
    obtain ⟨m1, m2⟩ := m
    subst m1
    rw [List.zip_cons_cons, List.lookup_cons] at e
    rw [List.lookup_cons, fname_beq]
    cases q : f == g with
    | true => rw [q] at e; cases e; exact ⟨_, rfl, r⟩
    | false => rw [q] at e; exact RepL.fld m2 t e
  | [], _ :: _, _, m, _, _ => by simp at m
  | _ :: _, [], _, m, _, _ => by simp at m
theorem OwnL.fld {f : Nat} : ∀ {fs : List (PySem.Str × V)} {gs : List Nat} {vs : List D} {B : AS}, fs.map (·.1) = gs.map fname → OwnL T O H (fs.map (·.2)) vs B → (∀ b, B b → S b) → (gs.zip vs).lookup f = some d → ∃ v, fs.lookup (fname f) = some v ∧ PkO T O S H v d
  | [], [], _, _, _, .nil _, _, e => by simp at e
  | (n, v) :: fs, g :: gs, _, _, m, .rep nn r t, s, e => by
    simp only [List.map_cons, List.cons.injEq] at m
    obtain ⟨m1, m2⟩ := m
    subst m1
    rw [List.zip_cons_cons, List.lookup_cons] at e
    rw [List.lookup_cons, fname_beq]
    cases q : f == g with
    | true => rw [q] at e; cases e; exact ⟨_, rfl, .inr r⟩
    | false => rw [q] at e; exact OwnL.fld m2 t s e
  | (n, v) :: fs, g :: gs, _, _, m, .own r t nn ee, s, e => by
    simp only [List.map_cons, List.cons.injEq] at m
    obtain ⟨m1, m2⟩ := m
    subst m1
    rw [List.zip_cons_cons, List.lookup_cons] at e
    rw [List.lookup_cons, fname_beq]
    cases q : f == g with
    | true => rw [q] at e; cases e; exact ⟨_, rfl, .inl ⟨_, _, rfl, r, fun b hb => s b ((ee b).mpr (.inl hb))⟩⟩
    | false => rw [q] at e; exact OwnL.fld m2 t (fun b hb => s b ((ee b).mpr (.inr hb))) e
  | [], _ :: _, _, _, m, _, _, _ => by simp at m
  | _ :: _, [], _, _, m, _, _, _ => by simp at m
/-- an instance that is looked into -/
theorem PkA.ins {c : Nat} {gs : List Nat} {vs : List D} {f : Nat} (p : PkA T O S H x (.ins c gs vs)) : ∃ a C dx fs, x = .ref a ∧ T.cls c = some C ∧ H a = some (.ins C dx fs) ∧ fs.map (·.1) = gs.map fname ∧
    ∀ f d, (gs.zip vs).lookup f = some d → ∃ v, fs.lookup (fname f) = some v ∧ PkO T O S H v d := by
  rcases p with ⟨A, w, s⟩ | r
  · cases w with
    | ins c h m r n e => exact ⟨_, _, _, _, rfl, c, h, m, fun f d q => r.fld m (fun b hb => s b ((e b).mpr (.inr hb))) q⟩
  · cases r with
    | ins c h n m r => exact ⟨_, _, _, _, rfl, c, h, m, fun f d q => let ⟨v, h1, h2⟩ := r.fld m q; ⟨v, h1, .inr h2⟩⟩
end
end Vm
/-! #### part Vo5 -/
namespace Vm
open PySem PySem.Spec PyProof.Rows L2
def rSl (sem : D → Option Int → Option Int → Option D) : V → Option Int → Option Int → Hp → VK → Prop := fun x lo hi H Q => ∃ T O F ρ σ' dx d, FR T O F H ρ σ' ∧ Pk T O H x dx ∧ sem dx lo hi = some d ∧
  ∀ v H' O', Keep F O H O' H' → FR T O' F H' (ρ ++ [some d]) (σ' ++ [some v]) → Q v H'
section
variable {X : Cx} {T : Tab} {O F : AS} {H : Hp} {ρ : Env} {σ : LSt} {x : V} {ds : List D} {xs : List V}
theorem RepL.cut (r : RepL T O H xs ds) (lo hi : Option Int) : RepL T O H (cutV xs lo hi) (cutL ds lo hi) := by
  unfold cutV cutL
  rw [r.length]
  exact (r.drop _).take _
theorem sl_ok : SlR X (rSl sliceD) := by
  rintro pins s σ H x v vl vu lo hi sl Q I rx hs pl pu ⟨T, O, F, ρ, σ', dx, d, f, p, e, q⟩
  cases dx with
  | lst ds =>
    obtain ⟨a, xs, rfl, h, rr⟩ := p.lst
    have e : D.own (.lst (cutL ds lo hi)) = d := Option.some.inj e
    subst e
    refine sl_list pins s σ H _ v vl vu lo hi sl Q I rx hs pl pu ⟨a, xs, rfl, SqL.of h, fun l n => ?_⟩
    obtain ⟨k, f'⟩ := f.lst n (rr.cut lo hi)
    exact q _ _ _ k f'
  | scr ds =>
    obtain ⟨a, o, xs, rfl, h, rr⟩ := p.scr
    have e : D.own (.lst (cutL ds lo hi)) = d := Option.some.inj e
    subst e
    refine sl_list pins s σ H _ v vl vu lo hi sl Q I rx hs pl pu ⟨a, xs, rfl, .inl (.inr ⟨o, h⟩), fun l n => ?_⟩
    obtain ⟨k, f'⟩ := f.lst n (rr.cut lo hi)
    exact q _ _ _ k f'
  | tup ds =>
    obtain ⟨a, xs, rfl, h, na, rr⟩ := p.tup
    have e : D.tup (cutL ds lo hi) = d := Option.some.inj e
    subst e
    refine sl_tupA pins s σ H _ v vl vu lo hi sl Q I rx hs pl pu ⟨a, xs, rfl, SqT.of h, fun hw => ?_, fun _ l n => ?_⟩
    · refine q _ H O (Keep.refl ..) (f.add rfl (.tup h na ?_))
      have : cutV xs lo hi = xs := by
        unfold cutV
        rw [hw.1, hw.2]
        simp
      have r2 := rr.cut lo hi
      rw [this] at r2
      exact r2
    · obtain ⟨k, f'⟩ := f.tup n (rr.cut lo hi)
      exact q _ _ _ k f'
  | _ => cases e
end
/-! ### isinstance -/
def kdV (T : Tab) : Kd → Option Value
  | .non => some (.type "NoneType")
  | .bl => some (.type "bool")
  | .int => some (.type "int")
  | .str => some (.type "str")
  | .tup => some (.type "tuple")
  | .lst => some (.type "list")
  | .dct => some (.type "dict")
  | .ins c => (T.cls c).map .ref
def tyV (T : Tab) : Ty → Option Value
  | .int => some (.type "int")
  | .bool => some (.type "bool")
  | .str => some (.type "str")
  | .tuple => some (.type "tuple")
  | .list => some (.type "list")
  | .dict => some (.type "dict")
  | .cls c => if c = 19 then some (.type "ValueError") else (T.cls c <|> T.xcl c).map .ref
/-- what is known of a class of instances -/
structure InsC (K : PySem.W.Frag) (C : Addr) : Prop where
  c : L2.Cls K C
  ha : PySem.W.findIn K (.ref C) "__class__" = some (some (.builtin "object.__class__"))
  hn : PySem.W.specialIn K (.builtin "object.__class__") "__get__" = some (some (.builtin "getset_descriptor.__get__"))
  htk : PySem.W.takesIn K (.builtin "object.__class__") = some true
  hm : PySem.W.mroIn K C (.type "object") = some true
  nf : ∀ f, f < 15 → NoAttr K C (fname f)
section
variable {X : Cx} {T : Tab} {O F : AS} {H : Hp} {ρ : Env} {σ : LSt} {x : V} {d : D} {K : PySem.W.Frag}
theorem Pk.tyx (hi : ∀ c C dx fs a, T.cls c = some C → H a = some (.ins C dx fs) → InsC K C) (p : Pk T O H x d) {k : Kd} (e : kdOf d = some k) {t : Value} (et : kdV T k = some t) : TyX K H x t := by
  cases d with
  | non => cases e; cases et; rw [p.non]; exact .base .non
  | bl b => cases e; cases et; rw [p.bl]; exact .base (.bl b)
  | int i => cases e; cases et; rw [p.int]; exact .base (.int i)
  | str z => cases e; cases et; rw [p.str]; exact .base (.str z)
  | tup ds => cases e; cases et; obtain ⟨a, xs, rfl, h, _⟩ := p.tup; exact .base (.tup h)
  | lst ds => cases e; cases et; obtain ⟨a, xs, rfl, h, _⟩ := p.lst; exact .base (.lst h)
  | dct ks vs => cases e; cases et; obtain ⟨a, rfl, h, _⟩ := p.dct0; exact .base (.dK h)
  | ins c gs vs =>
    cases e
    obtain ⟨a, C, dx, fs, rfl, hc, h, _⟩ := PkA.ins (f := 0) p.pkA
    have et : (T.cls c).map Value.ref = some t := et
    rw [hc] at et
    cases et
    have z := hi c C dx fs a hc h
    exact .base (.ins h z.c z.ha z.hn z.htk z.hm)
  | _ => cases e
/-- isinstance(x, t) -/
def rIs (K : PySem.W.Frag) (t : Ty) : List V → Hp → VK → Prop := fun xs H Q => ∃ T O dx x k c u w, Pk T O H x dx ∧ kdOf dx = some k ∧ (∀ c C dx fs a, T.cls c = some C → H a = some (.ins C dx fs) → InsC K C) ∧ xs = [x, c] ∧ ClsV c w ∧ tyV T t = some w ∧
  kdV T k = some u ∧ PySem.W.kitOne K u w = some (isKd k t) ∧ Q (.bl (isKd k t)) H
theorem is_ok {t : Ty} : CallR X (.builtin "isinstance") (rIs X.K t) := by
  rintro pins s σ H xs us Q I r ⟨T, O, dx, x, k, c, u, w, p, e, hi, rfl, hc, _, eu, ek, q⟩
  exact call_isi pins s σ H _ us Q I r ⟨x, c, u, w, _, rfl, hc, p.tyx hi e eu, ek, q⟩
end
/-! ### x[::-1], x a tuple -/
theorem rev_places (n : Nat) : Builtin.Slice.slicePlaces ((n : Int) - 1) (-1) (-1) = n := by
  unfold Builtin.Slice.slicePlaces
  rw [if_neg (show ¬ (-1 : Int) > 0 by omega)]
  have h1 : (-(-1 : Int)) = 1 := by omega
  rw [h1, Int.ediv_one]
  split <;> omega
theorem rev_pick (xs : Array Value) : (((List.range xs.size).filterMap fun (m : Nat) => xs[(((xs.size : Int) - 1) + (m : Int) * (-1)).toNat]?)) = xs.toList.reverse := by
  obtain ⟨l⟩ := xs
  simp only [List.size_toArray]
  have e : ∀ m ∈ List.range l.length, (fun (m : Nat) => (l.toArray)[(((l.length : Int) - 1) + (m : Int) * (-1)).toNat]?) m = (fun m => l.reverse[m]?) m := fun m hm => by
    have hm := List.mem_range.mp hm
    have q : (((l.length : Int) - 1) + (m : Int) * (-1)).toNat = l.length - 1 - m := by omega
    simp only [q]
    rw [List.getElem?_reverse hm]
    simp
  have cg : ∀ {l : List Nat} {f g : Nat → Option Value}, (∀ m ∈ l, f m = g m) → l.filterMap f = l.filterMap g := fun {l f g} hh => by
    induction l with
    | nil => rfl
    | cons a r ih =>
      rw [List.filterMap_cons, List.filterMap_cons, hh a List.mem_cons_self, ih fun m hm => hh m (List.mem_cons_of_mem _ hm)]
  rw [cg e]
  have : ∀ (r : List Value), (List.range r.length).filterMap (fun m => r[m]?) = r := fun r => by
    induction r with
    | nil => rfl
    | cons a r ih =>
      rw [List.length_cons, List.range_succ_eq_map, List.filterMap_cons]
      simp only [List.getElem?_cons_zero, List.filterMap_map]
      congr 1
  have q := this l.reverse
  rw [List.length_reverse] at q
  exact q
theorem getItem_trev {prog : Program} {w : World} {A : Around} {E : Value → Shared → Prop} {s : Shared} {t sl : Addr} {items : Array Value} {vl vu vt : Value} {Q : Value → Shared → Prop} (ht : IsTup s.heap t items)
    (hs : s.heap.IsSliceOf sl vl vu vt) (pl : IsPart vl none) (pu : IsPart vu none) (pt : IsPart vt (some (-1))) (hsz : items.size ≤ sizeLine)
    (h : Q (.ref s.heap.objs.size) { s with heap := s.heap.push { cls := .type "tuple", data := .seq items.toList.reverse.toArray } }) : wpAny (model prog w) A (getItem (.ref t) (.ref sl)) Q E s := by
  obtain ⟨so, hso, hcs, hds⟩ := id hs
  have T1 : s.TypeIs (.ref sl) "slice" := ⟨so, hso, hcs⟩
  have hz : sizeOk (.seq items.toList.reverse.toArray) := by
    show items.toList.reverse.toArray.size ≤ sizeLine
    simpa using hsz
  unfold getItem; try with_reducible refine wpAny_holding ?_
  first | refine wpAny_bind (wpAny_pure ?_) | skip
  refine wpAny_bind (wpAny_sequenceKey ht.typeIs (by decide) (wpAny_bind (wpAny_callSpecial?_slot (name := Str.ofString "__getitem__") ht.typeIs PyProof.Rows.slot_tuple_getitem (wpAny_call_entry PyProof.Rows.slot_tuple_getitem ht.typeIs entry_tuple_getitem ?_ (args_tuple_getitem _ _)))))
  show wpAny _ _ (Builtin.Tuple.tupleItemsOf (.ref t) >>= _) _ _ s
  refine wpAny_bind (PyProof.Rows.tupleItemsOf_ ht (wpAny_bind (wpAny_typeOf T1 ?_))); rw [if_pos (by decide)]
  refine wpAny_bind ?_
  unfold Builtin.Slice.sliceApplied Builtin.Slice.sliceFields
  refine wpAny_bind (wpAny_bind (wpAny_field hso hds (x := vl) rfl (wpAny_bind (wpAny_field hso hds (x := vu) rfl (wpAny_bind (wpAny_field hso hds (x := vt) rfl (wpAny_pure ?_)))))))
  refine wpAny_bind (HT.slicePart_ pt ?_)
  show wpAny _ _ (if ((-1 : Int) == 0) = true then _ else _) _ _ s
  rw [if_neg (by decide)]; refine wpAny_bind (HT.slicePart_ pl (wpAny_bind (HT.slicePart_ pu (wpAny_bind (wpAny_pure ?_)))))
  show wpAny _ _ (pure (((items.size : Int) - 1), (-1 : Int), Builtin.Slice.slicePlaces ((items.size : Int) - 1) (-1) (-1))) _ _ s
  rw [rev_places]
  refine wpAny_pure ?_
  show wpAny _ _ (if ((((items.size : Int) - 1) == 0 && (-1 : Int) == 1 && items.size == items.size) = true) then _ else _) _ _ s
  rw [if_neg (by simp), rev_pick]
  first
    | exact wpAny_bind (m := Builtin.Tuple.tupleExact _) (wpAny_newObj_type (wpAny_pure ⟨_, rfl, wpAny_pure h⟩) hz)
    | exact wpAny_bind (m := Builtin.Tuple.tupleExact _) (wpAny_newObj_type (wpAny_bind (wpAny_pure (wpAny_pure ⟨_, rfl, wpAny_pure h⟩))) hz)
    | exact wpAny_bind (wpAny_bind (m := Builtin.Tuple.tupleExact _) (wpAny_newObj_type (wpAny_pure (wpAny_pure ⟨_, rfl, wpAny_pure h⟩)) hz))
    | exact wpAny_bind (wpAny_bind (m := Builtin.Tuple.tupleExact _) (wpAny_newObj_type (wpAny_pure ⟨_, rfl, wpAny_pure h⟩) hz))
def tRev (te : TE) : TE := fun σ H Q => te σ H fun x H1 => ∃ T O F ρ σ' dx d, FR T O F H1 ρ σ' ∧ Pk T O H1 x dx ∧ revD dx = some d ∧
  ∀ v H' O', Keep F O H1 O' H' → FR T O' F H' (ρ ++ [some d]) (σ' ++ [some v]) → Q v H'
theorem pe_rev {X : Cx} {e : Expr} {te : TE} {k : Nat} {p1 p2 p3 pos : Pos} (he : PE X e te) : PE X (.Subscript e (.Slice none none (some (.UnaryOp .USub (.Constant (.int 1) k p1) p2)) p3) pos) (tRev te) := by
  refine ⟨fun pins s σ H Q I h => Subscript_ (thn (he.run pins s σ H _ I h) fun v s1 ⟨x, H1, I1, rx, T, O, F, ρ, σ', dx, d, f, p, e1, q⟩ => ?_)⟩
  have hst : PO X (some (.UnaryOp .USub (.Constant (.int 1) k p1) p2)) (tPart (tUn (rU fun i => .int (-i)) (tC (.int 1)))) := po_some (pe_un un_neg pe_int)
  refine wpAny_Slice (thn (po_none.run pins s1 σ H1 (fun o H2 => o = none ∧ H2 = H1) I1 ⟨rfl, rfl⟩) fun vl s2 ⟨l, H2, I2, pl, el, e2⟩ => ?_)
  subst el e2
  refine thn (po_none.run pins s2 σ H2 (fun o H3 => o = none ∧ H3 = H2) I2 ⟨rfl, rfl⟩) fun vu s3 ⟨u, H3, I3, pu, eu, e3⟩ => ?_
  subst eu e3
  refine thn (hst.run pins s3 σ H3 (fun o H4 => o = some (-1) ∧ H4 = H3) I3 ⟨1, rfl, -1, rfl, rfl, rfl⟩) fun vs s4 ⟨o, H4, I4, ps, eo, e4⟩ => ?_
  subst eo e4
  have I5 : Inv X pins σ H4 { s4 with heap := s4.heap.push { cls := .type "slice", data := .fields #[vl, vu, vs] } } := I4.kept (t' := s4.toks) fun b ob z => Heap.get?_push_of_some _ z
  have nw := I5.hok.fresh (Nat.le_refl _)
  show wpAny (model X.prog X.w) X.A (subscriptTail e (.Slice none none (some (.UnaryOp .USub (.Constant (.int 1) k p1) p2)) p3) v (.ref s4.heap.objs.size)) (EP X pins σ Q) X.xe _
  cases dx with
  | lst ds =>
    obtain ⟨a, xs, rfl, h, rr⟩ := p.lst
    cases rx
    have e1 : D.own (.lst ds.reverse) = d := Option.some.inj e1
    subst e1
    obtain ⟨its, r, ht, hz⟩ := I5.list (SqL.of h)
    have hl := r.length
    refine tail_any (ops := [.ref a, .ref s4.heap.objs.size]) ht.isList.typeIs (PySem.slot_list_getitem.lookup) ?_ (by with_unfolding_all rfl)
    refine wpAny_getItem_list_slice ht.isList (Heap.IsSliceOf.new _ vl vu vs) pl pu ps (by decide) ?_ (by rw [List.size_toArray]; omega)
    rw [PySem.W.krv_pick]
    obtain ⟨kk, f'⟩ := f.lst nw rr.reverse
    exact ⟨.ref _, _, I5.laid (t' := s4.toks) (o := .lst xs.reverse) (fun b ob z => Heap.get?_push_of_some _ z) (Nat.le_refl _) ⟨by rw [List.length_reverse]; exact hz, _, 0, r.reverse, Heap.get?_push_size _ rfl⟩, rfl, q _ _ _ kk f'⟩
  | tup ds =>
    obtain ⟨a, xs, rfl, h, na, rr⟩ := p.tup
    cases rx
    have e1 : D.tup ds.reverse = d := Option.some.inj e1
    subst e1
    obtain ⟨its, r, ht, hz⟩ := I5.tuple (SqT.of h)
    have hl := r.length
    refine tail_any (ops := [.ref a, .ref s4.heap.objs.size]) ht.typeIs (PyProof.Rows.slot_tuple_getitem.lookup) ?_ (by with_unfolding_all rfl)
    refine getItem_trev ht (Heap.IsSliceOf.new _ vl vu vs) pl pu ps (by rw [List.size_toArray]; omega) ?_
    obtain ⟨kk, f'⟩ := f.tup nw rr.reverse
    exact ⟨.ref _, _, I5.laid (t' := s4.toks) (o := .tup xs.reverse) (fun b ob z => Heap.get?_push_of_some _ z) (Nat.le_refl _) ⟨by rw [List.length_reverse]; exact hz, _, r.reverse, IsTup.new _ _⟩, rfl, q _ _ _ kk f'⟩
  | _ => cases e1
end Vm
/-! #### part Ve1 -/
namespace Vm
open PySem PySem.Spec PyProof.Rows L2
/-! ### defs, where no repr is under way -/
structure FnG (P : Program) (w : World) (K : PySem.W.Frag) (mg : PySem.Str → Option Value) (base : Heap) (k : Nat) (f : Addr) (fd : FuncData) (ps : List PySem.Str) (sp : Sp) : Prop where
  len : ∀ vs H Q E, sp vs H Q E → vs.length = ps.length
  run : ∀ (A : Around) (outer : List PySem.Env) (s : Shared) (H : Hp) (args : Args) (us : List Value) (vs : List V) (Q : VK) (E : XK), A.guards = some [] → Room k A → Env0 P w K mg base A outer s H → BindsTo s fd args (ps.zip us) → Vals vs us → sp vs H Q E →
    codeAny (model P w) A (.call (.ref f) args) (CR (L2.CX P w) outer P w H s Q E) s
theorem FnG.mono {P : Program} {w : World} {K : PySem.W.Frag} {mg : PySem.Str → Option Value} {base : Heap} {j k : Nat} {f : Addr} {fd : FuncData} {ps : List PySem.Str} {sp : Sp} (F : FnG P w K mg base j f fd ps sp) (h : j ≤ k) : FnG P w K mg base k f fd ps sp :=
  ⟨F.len, fun A outer s H args us vs Q E hg hr => F.run A outer s H args us vs Q E hg (hr.mono h)⟩
def isStar : Expr → Bool
  | .Starred .. => true
  | _ => false
theorem star_cons {e : Expr} (h : isStar e = false) (es : List Expr) (env : PySem.Env) : starEach (e :: es) env = (false, eval e env) :: starEach es env := by
  cases e <;> first | rfl | cases h
theorem star_any : ∀ {es : List Expr}, (es.any isStar) = false → ∀ (pos : Pos) (env : PySem.Env), (backTo pos (starEach es env)).any (·.1) = false
  | [], _, _, _ => rfl
  | e :: es, h, pos, env => by
    rw [List.any_cons, Bool.or_eq_false_iff] at h
    rw [star_cons h.1]
    show (false || (backTo pos (starEach es env)).any (·.1)) = false
    rw [star_any h.2]
    rfl
theorem star_all : ∀ {es : List Expr}, (es.any isStar) = false → ∀ (pos : Pos) (env : PySem.Env), (backTo pos (starEach es env)).all (fun x => !x.1) = true
  | [], _, _, _ => rfl
  | e :: es, h, pos, env => by
    rw [List.any_cons, Bool.or_eq_false_iff] at h
    rw [star_cons h.1]
    show (true && (backTo pos (starEach es env)).all (fun x => !x.1)) = true
    rw [star_all h.2]
    rfl
def isCall : Expr → Bool
  | .Call .. => true
  | _ => false
theorem attrB {o : Expr} (h : isCall o = false) (a : PySem.Str) (env : PySem.Env) (t : Sem Value) : attributeBase o a env t = t := by
  cases o <;> first | rfl | cases h
section
variable {X : Cx} {k : Nat} {f C : Addr} {fd : FuncData} {ps : List PySem.Str} {sp : Sp} {E : L2.St → XK} {x m : PySem.Str} {p pos apos : Pos} {o : Expr} {es : List Expr} {ta : TE} {t : TA}
theorem run_fnG {pins : List (Addr × Obj)} {σ : L2.St} {H : Hp} {s : Shared} {Q : VK} {us : List Value} {vs : List V} (F : FnG X.prog X.w X.K X.mg X.base k f fd ps sp) (hg : X.A.guards = some []) (hr : Room k X.A) (hb : Binds X.K fd ps []) (hx : PassesAt (L2.CX X.prog X.w) X σ (E σ))
    (I : Inv X pins σ H s) (r : Vals vs us) (h : sp vs H Q (E σ)) : wpAny (model X.prog X.w) X.A (call (.ref f) us) (EP X pins σ Q) X.xe s := by
  have hl : us.length = ps.length := r.length.symm.trans (F.len _ _ _ _ h)
  have b := hb s us I.kIn (by rw [List.append_nil]; exact hl)
  rw [List.append_nil] at b
  refine wpAny_call (codeAny_mono (F.run X.A X.stack s H ⟨us, []⟩ us vs Q (E σ) hg hr I.env0 b r h) fun res s' hq => ?_)
  match res, hq with
  | .error e, hq => exact hx pins H s e s' I hq
  | .ok (.ret u), hq => exact I.after hq
  | .ok .next, hq => exact False.elim hq
  | .ok .brk, hq => exact False.elim hq
  | .ok .cont, hq => exact False.elim hq
/-- f(..) -/
theorem peG_call {e : Expr} (F : FnG X.prog X.w X.K X.mg X.base k f fd ps sp) (hG : X.A.guards = some []) (hr : Room k X.A) (hg : Gl X x) (hm : X.mg x = some (.ref f)) (hk : PySem.W.keepIn X.K (.ref f) = true) (hb : Binds X.K fd ps []) (hx : ∀ σ, PassesAt (L2.CX X.prog X.w) X σ (E σ))
    (ha : PA X (e :: es) t) (hs : (e :: es).any isStar = false) (hdb : (x == ("__debug__" : PySem.Str)) = false) : PE X (.Call (.Name x p) (e :: es) [] pos) (tCallS sp E t) := by
  rw [List.any_cons, Bool.or_eq_false_iff] at hs
  exact ⟨fun pins s σ H Q I h => wpAny_Call_Name_kw (ld_glob I hg hm (PySem.W.callWith_K (h₀ := X.base) I.ok.mod.kin hk (thn (ha.run pos pins s σ H _ I h) fun us s1 ⟨vs, H1, I1, r, q⟩ => ⟨I1.kIn, run_fnG F hG hr hb (hx σ) I1 r q⟩) (star_cons hs.1 ..) (star_any hs.2 ..)) hdb)⟩
theorem peG_call0 (F : FnG X.prog X.w X.K X.mg X.base k f fd ps sp) (hG : X.A.guards = some []) (hr : Room k X.A) (hg : Gl X x) (hm : X.mg x = some (.ref f)) (hk : PySem.W.keepIn X.K (.ref f) = true) (hb : Binds X.K fd ps []) (hx : ∀ σ, PassesAt (L2.CX X.prog X.w) X σ (E σ))
    (hdb : (x == ("__debug__" : PySem.Str)) = false) : PE X (.Call (.Name x p) [] [] pos) (tCallS sp E tNil) :=
  ⟨fun pins s σ H Q I h => wpAny_Call_Name_kw (ld_glob I hg hm (PySem.W.callWith_K0 I.kIn hk (run_fnG (us := []) F hG hr hb (hx σ) I .nil h)) hdb)⟩
/-- the tree of a method's call -/
theorem meth_tree (hc : isCall o = false) (hs : es.any isStar = false) (hn : es.length < 30) (hl : (apos.endLine == pos.line) = true) : eval (.Call (.Attribute o m apos) es [] pos) X.env = (do
    let ov ← eval o X.env
    standAt apos.atName
    let (f, first) ← holding [ov] (getMethod ov m (do return (← importBound o X.env).getD true))
    callWith pos f first (backTo pos (starEach es X.env)) (backToKw pos (keywordEach [] X.env))) := by
  rw [arm_eval_Call, attrB hc]
  have hf : methodCallForm (es.length + ([] : List Keyword).length) (backTo pos (starEach es X.env)) (backToKw pos (keywordEach [] X.env)) = true := by
    unfold methodCallForm
    rw [star_all hs]
    show (true && true && decide (es.length + 0 + 0 < 30)) = true
    simpa using hn
  unfold methodCall
  rw [hf]
  have hp : methodCallPos true o X.env apos pos = pure pos := by
    unfold methodCallPos
    rw [hl]
    rfl
  rw [hp]
  rfl
end
end Vm
/-! #### part Ve2 -/
namespace Vm
open PySem PySem.Spec PyProof.Rows L2
theorem _root_.L2.PE.imp {X : Cx} {x : Expr} {t t' : TE} (h : PE X x t) (w : ∀ σ H Q, t' σ H Q → t σ H Q) : PE X x t' := ⟨fun pins s σ H Q I q => h.run pins s σ H Q I (w σ H Q q)⟩
theorem _root_.L2.PA.imp {X : Cx} {x : List Expr} {t t' : TA} (h : PA X x t) (w : ∀ σ H Q, t' σ H Q → t σ H Q) : PA X x t' := ⟨fun pos pins s σ H Q I q => h.run pos pins s σ H Q I (w σ H Q q)⟩
section
variable {T : Tab} {W : WX} {O F : AS} {H H' : Hp} {σ : L2.St} {ρ τ : Env} {ς : LSt} {v w : V} {d e : D}
mutual
theorem Own.there : ∀ (d : D) (v : V) (A : AS), Own T O H v d A → ∀ a, A a → ∃ o, H a = some o ∧ ∀ ps, o ≠ .tbl ps
  | .lst ds, _, _, .lst h r e, a, z => by
    have z := (e a).mp z
    subst z
    exact ⟨_, h, fun _ => by intro z; cases z⟩
  | .lsto ds, _, _, .lsto h r n e, a, z => by
    rcases (e a).mp z with rfl | z
    · exact ⟨_, h, fun _ => by intro z; cases z⟩
    · exact OwnL.there ds _ _ r a z
  | _, _, _, .dct0 h e, a, z => by
    have z := (e a).mp z
    subst z
    exact ⟨_, h, fun _ => by intro z; cases z⟩
  | .ins c gs vs, _, _, .ins c1 h m r n e, a, z => by
    rcases (e a).mp z with rfl | z
    · exact ⟨_, h, fun _ => by intro z; cases z⟩
    · exact OwnL.there vs _ _ r a z
theorem OwnL.there : ∀ (ds : List D) (vs : List V) (B : AS), OwnL T O H vs ds B → ∀ a, B a → ∃ o, H a = some o ∧ ∀ ps, o ≠ .tbl ps
  | _, _, _, .nil h, a, z => absurd z (h a)
  | d :: ds, _, _, .rep n r t, a, z => OwnL.there ds _ _ t a z
  | .own d :: ds, _, _, .own r t n e, a, z => by
    rcases (e a).mp z with z | z
    · exact Own.there d _ _ r a z
    · exact OwnL.there ds _ _ t a z
end
theorem Pk.grow (p : Pk T O H v d) (g : Grow H H') : Pk T O H' v d := by
  have k : ∀ a o, H a = some o → (∀ ps, o ≠ .tbl ps) → ¬ O a → H' a = some o ∧ ¬ O a := fun a o e t n => ⟨g a o e t, n⟩
  rcases p with ⟨A, w⟩ | r
  · refine .inl ⟨A, Own.keep k d v A w fun a ha => ?_⟩
    obtain ⟨u, e, z⟩ := Own.there d v A w a ha
    rw [e]
    exact g a u e z
  · exact .inr (Rep.keep k d v r)
/-- two operands, then an operation -/
theorem FinP2.op {r : R (D × D)} {sem : D → D → Option D} {Q : VK} (h : Fin T W O F H σ (r.bind fun xy ρ1 => R.of (sem xy.1 xy.2) ρ1) Q) : FinP2 T W O F H σ r (fun x y H2 => rOp sem x y H2 Q) := by
  cases r with
  | no => exact h
  | ex x ρ1 => exact h
  | ok d ρ1 =>
    have h : Fin T W O F H σ (R.of (sem d.1 d.2) ρ1) Q := h
    intro v w H' O' k f p1 p2
    cases e : sem d.1 d.2 with
    | none => rw [e] at h; exact h.elim
    | some z =>
      rw [e] at h
      exact ⟨T, O', F, ρ1, σ, _, _, z, f, p1, p2, e, fun u H2 O2 k2 f2 => h u H2 O2 (k.trans k2 fun _ z => z) f2⟩
/-- one operand, then an operation -/
theorem FinP.op {r : R D} {sem : D → Option D} {Q : VK} (h : Fin T W O F H σ (r.bind fun x ρ1 => R.of (sem x) ρ1) Q) : FinP T W O F H σ r (fun x H2 => r1 sem x H2 Q) := by
  cases r with
  | no => exact h
  | ex x ρ1 => exact h
  | ok d ρ1 =>
    have h : Fin T W O F H σ (R.of (sem d) ρ1) Q := h
    intro v H' O' k f p1
    cases e : sem d with
    | none => rw [e] at h; exact h.elim
    | some z =>
      rw [e] at h
      exact ⟨T, O', F, ρ1, σ, _, z, f, p1, e, fun u H2 O2 k2 f2 => h u H2 O2 (k.trans k2 fun _ z => z) f2⟩
/-- a temporary of a plain kind is no place -/
theorem FR.top (f : FR T O F H (ρ ++ [some d]) (σ ++ [some v])) : ρ.length = σ.length := by
  have := f.length
  simpa using this
theorem FR.topPk (f : FR T O F H (ρ ++ [some d]) (σ ++ [some v])) : Pk T O H v d.un := by
  have e : slot (ρ ++ [some d]) ρ.length = some d := by rw [slot_app_ge (Nat.le_refl _), Nat.sub_self]; rfl
  obtain ⟨w, e1, p⟩ := f.pk e
  rw [f.top, List.getElem?_append_right (Nat.le_refl _), Nat.sub_self] at e1
  cases e1
  exact p
theorem FR.topVal (f : FR T O F H (ρ ++ [some d]) (σ ++ [some v])) : Val T O H v d := by
  have e : slot (ρ ++ [some d]) ρ.length = some d := by rw [slot_app_ge (Nat.le_refl _), Nat.sub_self]; rfl
  obtain ⟨w, e1, p⟩ := f.val e
  rw [f.top, List.getElem?_append_right (Nat.le_refl _), Nat.sub_self] at e1
  cases e1
  exact p
theorem FR.drop1 (f : FR T O F H (ρ ++ [some d]) (σ ++ [some v])) : FR T O F H ρ σ := f.front f.top
/-- a value that is a value of the language: for a name that is read -/
theorem tE.var {Κ : Nat → Option Cls} {C : Cf} {i : Nat} {Q : VK} (h : tE T Κ C W (.rd (.loc i)) σ H Q) : tVar i σ H Q := by
  obtain ⟨sx, O, F, ρ, f, h⟩ := h
  have h : Fin T W O F H σ (match slot ρ i with
    | some d => .ok d.un (ρ.set i (some d.un))
    | none => .no) Q := h
  cases q : slot ρ i with
  | none => rw [q] at h; exact h.elim
  | some d =>
    rw [q] at h
    obtain ⟨O', k, f', _⟩ := f.share q
    have q' : slot (ρ.set i (some d.un)) i = some d.un := slot_set_self (slot_lt q)
    obtain ⟨v, e1, p⟩ := f'.get q'
    refine ⟨v, (join_lt e1).2, h v H O' k ?_⟩
    rcases p with ⟨x, A, e, w⟩ | ⟨n, r⟩
    · exfalso
      obtain ⟨v2, e2, p2⟩ := f.get q
      rcases p2 with ⟨x2, A2, rfl, w2⟩ | ⟨n2, _⟩
      · have := w2.plain
        rw [show x2 = .own x from e] at this
        cases this
      · rw [un_of n2] at e
        rw [e] at n2
        cases n2
    · exact f'.add n r
theorem tE.deep {Κ : Nat → Option Cls} {C : Cf} {p : P} (n : ∀ i, p ≠ .loc i) {Q : VK} (h : tE T Κ C W (.rd p) σ H Q) : tRd T p σ H Q := by
  obtain ⟨sx, O, F, ρ, f, h⟩ := h
  have ee : ev Κ C (.rd p) ρ = R.of (plain (rp p ρ)) ρ := by
    cases p <;> first | rfl | exact absurd rfl (n _)
  rw [ee] at h
  refine ⟨sx, O, F, ρ, f, ?_⟩
  cases q : rp p ρ with
  | none => rw [q] at h; exact h
  | some d =>
    rw [q] at h
    cases ho : d.isOwn with
    | true => simp [plain, ho] at h; exact h.elim
    | false =>
      simp only [plain, ho, Bool.false_eq_true, if_false] at h
      intro v H' g x
      obtain ⟨f', k⟩ := f.growG g
      exact h v H' O k (f'.add ho (x.rep ho))
/-- the value's reading, from the operand's -/
theorem tE.of {Κ : Nat → Option Cls} {C : Cf} {e : E} {Q : VK} (h : tE T Κ C W e σ H Q) : tO T Κ C W e σ H Q := by
  by_cases hp : ∃ p, e = .rd p
  · obtain ⟨p, rfl⟩ := hp
    by_cases hi : ∃ i, p = .loc i
    · obtain ⟨i, rfl⟩ := hi
      exact h.var
    · rw [tO.deep fun i z => hi ⟨i, z⟩]
      exact h.deep fun i z => hi ⟨i, z⟩
  · rw [tO.other fun p z => hp ⟨p, z⟩]
    exact h
end
end Vm
/-! #### part Ve3 -/
namespace Vm
open PySem PySem.Spec PyProof.Rows L2
def rotF (n m k : Nat) : Nat := if k < n then k else if k = n then n + m else k - 1
theorem rot_get {α : Type} (x y : List α) (o : α) (k : Nat) (hk : k < x.length + y.length + 1) : (x ++ o :: y)[k]? = ((x ++ y) ++ [o])[rotF x.length y.length k]? := by
  unfold rotF
  by_cases h1 : k < x.length
  · rw [if_pos h1, List.getElem?_append_left h1, List.append_assoc, List.getElem?_append_left h1]
  · rw [if_neg h1, List.getElem?_append_right (by omega)]
    by_cases h2 : k = x.length
    · rw [if_pos h2, List.getElem?_append_right (by simp), h2]
      simp
    · rw [if_neg h2]
      have e1 : k - x.length = (k - 1 - x.length) + 1 := by omega
      rw [e1, List.getElem?_cons_succ, List.append_assoc, List.getElem?_append_right (by omega), List.getElem?_append_left (by omega)]
section
variable {T : Tab} {W : WX} {O F : AS} {H H' : Hp} {σ ς : LSt} {ρ τ : Env} {v w : V} {d e : D} {o : Option D} {u : Option V}
theorem FR.rot (f : FR T O F H ((ρ ++ τ) ++ [o]) ((σ ++ ς) ++ [u])) (h1 : ρ.length = σ.length) (h2 : τ.length = ς.length) : FR T O F H (ρ ++ o :: τ) (σ ++ u :: ς) := by
  have inj : ∀ i k, i < ρ.length + τ.length + 1 → k < ρ.length + τ.length + 1 → rotF ρ.length τ.length i = rotF ρ.length τ.length k → i = k := fun i k hi hk e => by
    unfold rotF at e
    split at e <;> split at e <;> (try split at e) <;> (try split at e) <;> omega
  refine f.reidx (by simp only [List.length_append, List.length_cons]; omega) (rotF ρ.length τ.length) (fun i d e => ?_) fun i k d e q1 q2 _ _ z => ?_
  · have hi := slot_lt e
    simp only [List.length_append, List.length_cons] at hi
    refine ⟨?_, ?_⟩
    · unfold slot at e ⊢
      rw [← rot_get ρ τ o i (by omega)]
      exact e
    · rw [h1, h2, ← rot_get σ ς u i (by omega)]
  · have a1 := slot_lt q1
    have a2 := slot_lt q2
    simp only [List.length_append, List.length_cons] at a1 a2
    exact inj i k (by omega) (by omega) z
/-- temporaries whose values are shared -/
theorem FR.unTops : ∀ {ds : List D} {vs : List V} {O : AS} {ρ : Env} {σ : LSt}, FR T O F H (ρ ++ ds.map some) (σ ++ vs.map some) → ρ.length = σ.length → ds.length = vs.length →
    ∃ O', Keep F O H O' H ∧ FR T O' F H ρ σ ∧ RepL T O' H vs (ds.map D.un)
  | [], [], O, ρ, σ, f, _, _ => ⟨O, Keep.refl .., by simpa using f, .nil⟩
  | d :: ds, v :: vs, O, ρ, σ, f, hl, hd => by
    have f' : FR T O F H ((ρ ++ [some d]) ++ ds.map some) ((σ ++ [some v]) ++ vs.map some) := by simpa using f
    obtain ⟨O1, k1, f1, r1⟩ := FR.unTops f' (by simp [hl]) (by simpa using hd)
    obtain ⟨O2, k2, f2, r2⟩ := f1.unTop hl
    exact ⟨O2, k1.trans k2 fun _ z => z, f2.front hl, .cons r2 (RepL.keep k2.sh _ _ r1)⟩
  | [], _ :: _, _, _, _, _, _, h => by simp at h
  | _ :: _, [], _, _, _, _, _, h => by simp at h
end
section
variable {X : Cx} {T : Tab} {W : WX} {O F : AS} {H : Hp} {σ : L2.St} {Κ : Nat → Option Cls} {C : Cf} {ρ : Env} {e : E} {es : List E}
/-- items, one after another -/
theorem tL.cons {Q : List V → Hp → Prop} (h : tL T Κ C W (e :: es) σ H Q) : tCons (tE T Κ C W e) (tL T Κ C W es) σ H Q := by
  obtain ⟨sx, O, F, ρ, f, h⟩ := h
  have h : FinL T W O F H σ ((ev Κ C e ρ).bind fun d ρ1 => (evL Κ C es ρ1).bind fun ds ρ2 => .ok (d :: ds) ρ2) Q := h
  refine ⟨sx, O, F, ρ, f, ?_⟩
  cases q : ev Κ C e ρ with
  | no => rw [q] at h; exact h
  | ex x ρ1 => rw [q] at h; exact h
  | ok d ρ1 =>
    rw [q] at h
    intro v H1 O1 k1 f1
    have hl := f1.top
    obtain ⟨F', f2, s2, back⟩ := f1.frame hl
    have h2 := h.step k1 s2
    refine ⟨sx, O1, F', ρ1, f2, ?_⟩
    cases q2 : evL Κ C es ρ1 with
    | no => rw [R.bind_ok, q2] at h2; exact h2
    | ex x ρ2 => rw [R.bind_ok, q2] at h2; exact h2
    | ok ds ρ2 =>
      rw [R.bind_ok, q2] at h
      have h : FinL T W O F H σ (.ok (d :: ds) ρ2) Q := h
      intro vs H2 O2 k2 f3 hd
      have hl2 : ρ2.length = σ.length := by
        have := f3.length
        simp at this
        omega
      have f4 := back O2 H2 _ _ k2 f3
      have f5 := f4.rot hl2 (by simpa using hd)
      exact h (v :: vs) H2 O2 (k1.trans (k2.less s2) fun _ z => z) f5 (by simp [hd])
theorem tL.nil {Q : List V → Hp → Prop} (h : tL T Κ C W [] σ H Q) : tNil σ H Q := by
  obtain ⟨sx, O, F, ρ, f, h⟩ := h
  exact h [] H O (Keep.refl ..) (by simpa using f) rfl
/-- arguments: owned names are lent -/
def argD : Arg → Option D
  | .v d => some d
  | .s _ => none
def FinA (T : Tab) (W : WX) (O F : AS) (H : Hp) (σ : LSt) (r : R (List Arg)) (Q : List V → Hp → Prop) : Prop := match r with
  | .ok as ρ' => ∀ vs H' O', Keep F O H O' H' → FR T O' F H' (ρ' ++ as.map argD) (σ ++ vs.map some) → as.length = vs.length → (∀ (j i : Nat), as[j]? = some (.s i) → ∃ v, vs[j]? = some v ∧ σ[i]? = some (some v)) → Q vs H'
  | .ex x ρ' => ∀ cls dx H' O', Keep F O H O' H' → FR T O' F H' ρ' σ → ExR T O' H' cls dx x → W cls dx σ H'
  | .no => False
theorem FinA.step {O1 F' : AS} {H1 : Hp} {r : R (List Arg)} {Q : List V → Hp → Prop} (k : Keep F O H O1 H1) (s : ∀ b, F b → F' b) (h : FinA T W O F H σ r Q) : FinA T W O1 F' H1 σ r Q := by
  cases r with
  | ok d ρ' => exact fun v H' O' k' f => h v H' O' (k.trans k' s) (f.less s)
  | ex x ρ' => exact fun c d H' O' k' f e => h c d H' O' (k.trans k' s) (f.less s) e
  | no => exact h
def tA (T : Tab) (Κ : Nat → Option Cls) (C : Cf) (W : WX) (es : List E) : TA := fun σ H Q => SX T σ ∧ ∃ O F ρ, FR T O F H ρ σ ∧ FinA T W O F H σ (evA Κ C es ρ) Q
/-- an argument's reading -/
def tG (T : Tab) (Κ : Nat → Option Cls) (C : Cf) (W : WX) (e : E) : TE := match recvOf e with
  | some i => tVar i
  | none => tE T Κ C W e
theorem recv_some {i : Nat} (h : recvOf e = some i) : e = .rd (.loc i) := by
  unfold recvOf at h
  split at h
  · cases h; rfl
  · cases h
theorem evA_cons (es : List E) (ρ : Env) : evA Κ C (e :: es) ρ = match recvOf e with
    | some i => if (slot ρ i).isSome then (evA Κ C es ρ).bind fun as ρ1 => .ok (.s i :: as) ρ1 else .no
    | none => (ev Κ C e ρ).bind fun d ρ1 => (evA Κ C es ρ1).bind fun as ρ2 => .ok (.v d :: as) ρ2 := by
  rewrite [evA]
  cases recvOf e <;> rfl
theorem tA.cons {Q : List V → Hp → Prop} (h : tA T Κ C W (e :: es) σ H Q) : tCons (tG T Κ C W e) (tA T Κ C W es) σ H Q := by
  obtain ⟨sx, O, F, ρ, f, h⟩ := h
  rw [evA_cons] at h
  cases hr : recvOf e with
  | some i =>
    rw [hr] at h
    have h : FinA T W O F H σ (if (slot ρ i).isSome then (evA Κ C es ρ).bind fun as ρ1 => .ok (.s i :: as) ρ1 else .no) Q := h
    split at h
    rotate_left
    · exact h.elim
    rename_i hz
    obtain ⟨d0, hd0⟩ := Option.isSome_iff_exists.mp hz
    obtain ⟨v, ev, _⟩ := f.get hd0
    have ev := (join_lt ev).2
    show tG T Κ C W e σ H _
    unfold tG
    rw [hr]
    refine ⟨v, ev, sx, O, F, ρ, f, ?_⟩
    cases q : evA Κ C es ρ with
    | no => rw [q] at h; exact h
    | ex x ρ1 => rw [q] at h; exact h
    | ok as ρ1 =>
      rw [q] at h
      have h : FinA T W O F H σ (.ok (.s i :: as) ρ1) Q := h
      intro vs H1 O1 k1 f1 hd hs
      have hl : ρ1.length = σ.length := by
        have := f1.length
        simp at this
        omega
      refine h (v :: vs) H1 O1 k1 ?_ (by simp [hd]) (fun j i' e' => ?_)
      · have f2 : FR T O1 F H1 ((ρ1 ++ as.map argD) ++ [none]) ((σ ++ vs.map some) ++ [some v]) := by
          refine f1.reidx (by simp [hl, hd]) (fun k => k) (fun k d e => ?_) fun _ _ _ _ _ _ _ _ z => z
          have hk := slot_lt e
          simp only [List.length_append, List.length_cons, List.length_nil, List.length_map] at hk
          by_cases hk2 : k < (ρ1 ++ as.map argD).length
          · rw [slot_app_lt hk2] at e
            exact ⟨e, by rw [List.getElem?_append_left (by simp only [List.length_append, List.length_map] at hk2 ⊢; omega)]⟩
          · rw [slot_app_ge (Nat.le_of_not_lt hk2)] at e
            have : k - (ρ1 ++ as.map argD).length = 0 := by simp only [List.length_append, List.length_map] at hk2 ⊢; omega
            rw [this] at e
            cases e
        exact f2.rot hl (by simpa using hd)
      · cases j with
        | zero =>
          have : i = i' := by simpa using e'
          subst this
          exact ⟨v, rfl, ev⟩
        | succ j => exact hs j i' (by simpa using e')
  | none =>
    rw [hr] at h
    have h : FinA T W O F H σ ((ev Κ C e ρ).bind fun d ρ1 => (evA Κ C es ρ1).bind fun as ρ2 => .ok (.v d :: as) ρ2) Q := h
    show tG T Κ C W e σ H _
    unfold tG
    rw [hr]
    refine ⟨sx, O, F, ρ, f, ?_⟩
    cases q : ev Κ C e ρ with
    | no => rw [q] at h; exact h
    | ex x ρ1 => rw [q] at h; exact h
    | ok d ρ1 =>
      rw [q] at h
      intro v H1 O1 k1 f1
      have hl := f1.top
      obtain ⟨F', f2, s2, back⟩ := f1.frame hl
      have h2 := h.step k1 s2
      refine ⟨sx, O1, F', ρ1, f2, ?_⟩
      cases q2 : evA Κ C es ρ1 with
      | no => rw [R.bind_ok, q2] at h2; exact h2
      | ex x ρ2 => rw [R.bind_ok, q2] at h2; exact h2
      | ok as ρ2 =>
        rw [R.bind_ok, q2] at h
        have h : FinA T W O F H σ (.ok (.v d :: as) ρ2) Q := h
        intro vs H2 O2 k2 f3 hd hs
        have hl2 : ρ2.length = σ.length := by
          have := f3.length
          simp at this
          omega
        have f4 := back O2 H2 _ _ k2 f3
        have f5 := f4.rot hl2 (by simpa using hd)
        refine h (v :: vs) H2 O2 (k1.trans (k2.less s2) fun _ z => z) f5 (by simp [hd]) fun j i e' => ?_
        cases j with
        | zero => simp at e'
        | succ j => exact hs j i (by simpa using e')
theorem tA.nil {Q : List V → Hp → Prop} (h : tA T Κ C W [] σ H Q) : tNil σ H Q := by
  obtain ⟨sx, O, F, ρ, f, h⟩ := h
  exact h [] H O (Keep.refl ..) (by simpa using f) rfl (fun j i e => by simp at e)
end
end Vm
/-! #### part Ve4 -/
namespace Vm
open PySem PySem.Spec PyProof.Rows L2
section
variable {T : Tab} {W : WX} {O F : AS} {H H' : Hp} {σ ς β δ : LSt} {ρ τ α γ : Env} {v w : V} {d e : D} {o : Option D} {u : Option V}
theorem get_app {α : Type} (x y : List α) (k : Nat) : (x ++ y)[k]? = if k < x.length then x[k]? else y[k - x.length]? := by
  split
  · exact List.getElem?_append_left ‹_›
  · exact List.getElem?_append_right (by omega)
theorem FR.swap (f : FR T O F H (α ++ ρ) (β ++ σ)) (h : α.length = β.length) : FR T O F H (ρ ++ α) (σ ++ β) := by
  have hl := f.length
  simp only [List.length_append] at hl
  refine f.reidx (by simp only [List.length_append]; omega) (fun k => if k < ρ.length then α.length + k else k - ρ.length) (fun i d e => ?_) fun i k d e q1 q2 _ _ z => ?_
  · have hi := slot_lt e
    simp only [List.length_append] at hi
    unfold slot at e ⊢
    rw [get_app] at e
    rw [get_app, get_app, get_app]
    by_cases h1 : i < ρ.length
    · rw [if_pos h1] at e ⊢
      rw [if_neg (by omega), if_pos (by omega), if_neg (by omega), Nat.add_sub_cancel_left, show α.length + i - β.length = i by omega]
      exact ⟨e, rfl⟩
    · rw [if_neg h1] at e ⊢
      rw [if_pos (by omega), if_neg (by omega), if_pos (by omega)]
      exact ⟨e, by rw [show i - σ.length = i - ρ.length by omega]⟩
  · have a1 := slot_lt q1
    have a2 := slot_lt q2
    simp only [List.length_append] at a1 a2
    have z : (if i < ρ.length then α.length + i else i - ρ.length) = (if k < ρ.length then α.length + k else k - ρ.length) := z
    split at z <;> split at z <;> omega
/-- one temporary forgotten -/
theorem FR.del (f : FR T O F H (ρ ++ o :: γ) (σ ++ u :: δ)) (h : ρ.length = σ.length) : FR T O F H (ρ ++ γ) (σ ++ δ) := by
  have hl := f.length
  simp only [List.length_append, List.length_cons] at hl
  refine f.reidx (by simp only [List.length_append]; omega) (fun k => if k < ρ.length then k else k + 1) (fun i d e => ?_) fun i k d e q1 q2 _ _ z => ?_
  · unfold slot at e ⊢
    rw [get_app] at e
    rw [get_app, get_app, get_app]
    by_cases h1 : i < ρ.length
    · rw [if_pos h1] at e
      rw [if_pos h1, if_pos h1, if_pos (by omega), if_pos (by omega)]
      exact ⟨e, rfl⟩
    · rw [if_neg h1] at e
      rw [if_neg h1, if_neg (by omega), if_neg (by omega), if_neg (by omega), show i + 1 - ρ.length = (i - ρ.length) + 1 by omega, show i + 1 - σ.length = (i - σ.length) + 1 by omega, List.getElem?_cons_succ, List.getElem?_cons_succ]
      exact ⟨e, rfl⟩
  · have z : (if i < ρ.length then i else i + 1) = (if k < ρ.length then k else k + 1) := z
    split at z <;> split at z <;> omega
/-- what a temporary held goes to a slot that holds nothing -/
theorem FR.put {i : Nat} (f : FR T O F H (ρ ++ o :: γ) (σ ++ some v :: δ)) (h : ρ.length = σ.length) (hi : σ[i]? = some (some v)) : FR T O F H (ρ.set i o ++ γ) (σ ++ δ) := by
  have hl := f.length
  simp only [List.length_append, List.length_cons] at hl
  have hi' := (List.getElem?_eq_some_iff.mp hi).1
  refine f.reidx (by simp only [List.length_append, List.length_set]; omega) (fun k => if k = i then ρ.length else if k < ρ.length then k else k + 1) (fun k d e => ?_) fun a b d e q1 q2 _ _ z => ?_
  · unfold slot at e ⊢
    rw [get_app, List.length_set] at e
    rw [get_app, get_app, get_app]
    by_cases h0 : k = i
    · subst h0
      rw [if_pos (by omega), List.getElem?_set_self (by omega)] at e
      rw [if_pos rfl, if_neg (by omega), Nat.sub_self, if_pos hi', hi, if_neg (by omega), show ρ.length - σ.length = 0 by omega]
      exact ⟨by simpa using e, rfl⟩
    · rw [if_neg h0]
      by_cases h1 : k < ρ.length
      · rw [if_pos h1, List.getElem?_set_ne (Ne.symm h0)] at e
        rw [if_pos h1, if_pos h1, if_pos (by omega), if_pos (by omega)]
        exact ⟨e, rfl⟩
      · rw [if_neg h1] at e
        rw [if_neg h1, if_neg (by omega), if_neg (by omega), if_neg (by omega), show k + 1 - ρ.length = (k - ρ.length) + 1 by omega, show k + 1 - σ.length = (k - σ.length) + 1 by omega, List.getElem?_cons_succ, List.getElem?_cons_succ]
        exact ⟨e, rfl⟩
  · have z : (if a = i then ρ.length else if a < ρ.length then a else a + 1) = (if b = i then ρ.length else if b < ρ.length then b else b + 1) := z
    have hiρ : i < ρ.length := by omega
    split at z <;> split at z <;> (try split at z) <;> (try split at z) <;> omega
/-- a slot's thing is lent: it goes to a temporary -/
theorem FR.lend {i : Nat} (f : FR T O F H (ρ ++ (α ++ none :: γ)) (σ ++ (β ++ some v :: δ))) (h : ρ.length = σ.length) (h2 : α.length = β.length) (hi : σ[i]? = some (some v)) (hs : slot ρ i = some d) :
    FR T O F H ((if d.isOwn then ρ.set i none else ρ) ++ (α ++ some d :: γ)) (σ ++ (β ++ some v :: δ)) := by
  have hl := f.length
  simp only [List.length_append, List.length_cons] at hl
  have hi' := (List.getElem?_eq_some_iff.mp hi).1
  have hρ : (if d.isOwn then ρ.set i none else ρ).length = ρ.length := by split <;> simp
  have look : ∀ k e, slot ((if d.isOwn then ρ.set i none else ρ) ++ (α ++ some d :: γ)) k = some e → k ≠ ρ.length + α.length → slot (ρ ++ (α ++ none :: γ)) k = some e ∧ (k = i → d.isOwn = false) := fun k e q ne => by
    by_cases h1 : k < ρ.length
    · rw [slot_app_lt (by rw [hρ]; exact h1)] at q
      rw [slot_app_lt h1]
      cases ho : d.isOwn with
      | false =>
        rw [ho] at q
        exact ⟨q, fun _ => rfl⟩
      | true =>
        rw [ho] at q
        have q : slot (ρ.set i none) k = some e := q
        rw [slot_none] at q
        split at q
        · cases q
        · rename_i hk
          exact ⟨q, fun z => absurd z.symm hk⟩
    · rw [slot_app_ge (by rw [hρ]; omega), hρ] at q
      rw [slot_app_ge (by omega)]
      refine ⟨?_, fun z => by omega⟩
      by_cases h3 : k - ρ.length < α.length
      · rw [slot_app_lt h3] at q
        rw [slot_app_lt h3]
        exact q
      · rw [slot_app_ge (by omega)] at q
        rw [slot_app_ge (by omega)]
        have e1 : k - ρ.length - α.length = (k - ρ.length - α.length - 1) + 1 := by omega
        unfold slot at q ⊢
        rw [e1, List.getElem?_cons_succ] at q
        rw [e1, List.getElem?_cons_succ]
        exact q
  refine f.reidx (by simp only [List.length_append, List.length_cons, hρ]; omega) (fun k => if k = ρ.length + α.length then i else k) (fun k e q => ?_) fun a b x y q1 q2 o1 o2 z => ?_
  · by_cases h0 : k = ρ.length + α.length
    · subst h0
      rw [if_pos rfl]
      rw [slot_app_ge (by rw [hρ]; omega), hρ, Nat.add_sub_cancel_left, slot_app_ge (Nat.le_refl _), Nat.sub_self] at q
      have q : some d = some e := q
      cases q
      rw [slot_app_lt (by omega)]
      refine ⟨hs, ?_⟩
      rw [get_app, get_app, get_app, if_neg (by omega), if_neg (by omega), if_pos hi', hi, show ρ.length + α.length - σ.length - β.length = 0 by omega]
      rfl
    · rw [if_neg h0]
      exact ⟨(look k e q h0).1, rfl⟩
  · have z : (if a = ρ.length + α.length then i else a) = (if b = ρ.length + α.length then i else b) := z
    have dn : ∀ k e, slot ((if d.isOwn then ρ.set i none else ρ) ++ (α ++ some d :: γ)) k = some e → k = ρ.length + α.length → e = d := fun k e q h0 => by
      subst h0
      rw [slot_app_ge (by rw [hρ]; omega), hρ, Nat.add_sub_cancel_left, slot_app_ge (Nat.le_refl _), Nat.sub_self] at q
      have q : some d = some e := q
      cases q
      rfl
    by_cases c1 : a = ρ.length + α.length <;> by_cases c2 : b = ρ.length + α.length
    · rw [c1, c2]
    · rw [if_pos c1, if_neg c2] at z
      have := (look b y q2 c2).2 z.symm
      rw [dn a x q1 c1, this] at o1
      cases o1
    · rw [if_neg c1, if_pos c2] at z
      have := (look a x q1 c1).2 z
      rw [dn b y q2 c2, this] at o2
      cases o2
    · rw [if_neg c1, if_neg c2] at z
      exact z
theorem FR.grab : ∀ {as : List Arg} {vs : List V} {ds : List D} {ρ ρ2 α : Env} {β : LSt}, FR T O F H (ρ ++ (α ++ as.map argD)) (σ ++ (β ++ vs.map some)) → ρ.length = σ.length → α.length = β.length → as.length = vs.length →
    (∀ (j i : Nat), as[j]? = some (.s i) → ∃ v, vs[j]? = some v ∧ σ[i]? = some (some v)) → Vm.grab as ρ = some (ds, ρ2) → FR T O F H (ρ2 ++ (α ++ ds.map some)) (σ ++ (β ++ vs.map some)) ∧ ρ2.length = σ.length ∧ ds.length = as.length
  | [], [], ds, ρ, ρ2, α, β, f, h1, h2, _, _, g => by
    cases g
    exact ⟨f, h1, rfl⟩
  | .v d :: r, v :: vs, ds, ρ, ρ2, α, β, f, h1, h2, h3, hs, g => by
    simp only [Vm.grab, Option.map_eq_some_iff] at g
    obtain ⟨⟨ds', ρ'⟩, g, e⟩ := g
    cases e
    have f' : FR T O F H (ρ ++ ((α ++ [some d]) ++ r.map argD)) (σ ++ ((β ++ [some v]) ++ vs.map some)) := by simpa [argD] using f
    obtain ⟨a, b, c⟩ := FR.grab f' h1 (by simp [h2]) (by simpa using h3) (fun j i e => hs (j + 1) i (by simpa using e)) g
    exact ⟨by simpa using a, b, by simp [c]⟩
  | .s i :: r, v :: vs, ds, ρ, ρ2, α, β, f, h1, h2, h3, hs, g => by
    simp only [Vm.grab] at g
    split at g
    · rename_i d hd
      simp only [Option.map_eq_some_iff] at g
      obtain ⟨⟨ds', ρ'⟩, g, e⟩ := g
      cases e
      obtain ⟨v', e1, e2⟩ := hs 0 i rfl
      have e1 : v = v' := by simpa using e1
      subst e1
      have f1 := FR.lend (γ := r.map argD) (by simpa [argD] using f) h1 h2 e2 hd
      have f' : FR T O F H ((if d.isOwn then ρ.set i none else ρ) ++ ((α ++ [some d]) ++ r.map argD)) (σ ++ ((β ++ [some v]) ++ vs.map some)) := by simpa using f1
      obtain ⟨a, b, c⟩ := FR.grab f' (by split <;> simp [h1]) (by simp [h2]) (by simpa using h3) (fun j i e => hs (j + 1) i (by simpa using e)) g
      exact ⟨by simpa using a, b, by simp [c]⟩
    · cases g
  | [], _ :: _, _, _, _, _, _, _, _, _, h, _, _ => by simp at h
  | _ :: _, [], _, _, _, _, _, _, _, _, h, _, _ => by simp at h
theorem FR.back : ∀ {as : List Arg} {os : Env} {vs : List V} {ρ : Env}, FR T O F H (ρ ++ (os ++ τ)) (σ ++ (vs.map some ++ ς)) → ρ.length = σ.length → os.length = vs.length → as.length = vs.length →
    (∀ (j i : Nat), as[j]? = some (.s i) → ∃ v, vs[j]? = some v ∧ σ[i]? = some (some v)) → FR T O F H (Vm.back as os ρ ++ τ) (σ ++ ς) ∧ (Vm.back as os ρ).length = σ.length
  | [], [], [], ρ, f, h1, _, _, _ => ⟨f, h1⟩
  | .v d :: r, o :: os, v :: vs, ρ, f, h1, h2, h3, hs => by
    simp only [Vm.back]
    exact FR.back (f.del h1) h1 (by simpa using h2) (by simpa using h3) (fun j i e => hs (j + 1) i (by simpa using e))
  | .s i :: r, o :: os, v :: vs, ρ, f, h1, h2, h3, hs => by
    simp only [Vm.back]
    obtain ⟨v', e1, e2⟩ := hs 0 i rfl
    have e1 : v = v' := by simpa using e1
    subst e1
    split
    · exact FR.back (f.put h1 e2) (by simp [h1]) (by simpa using h2) (by simpa using h3) (fun j i e => hs (j + 1) i (by simpa using e))
    · exact FR.back (f.del h1) h1 (by simpa using h2) (by simpa using h3) (fun j i e => hs (j + 1) i (by simpa using e))
  | [], _ :: _, [], _, _, _, h, _, _ => by simp at h
  | [], _, _ :: _, _, _, _, _, h, _ => by simp at h
  | _ :: _, _, [], _, _, _, _, h, _ => by simp at h
  | _ :: _, [], _ :: _, _, _, _, h, _, _ => by simp at h
end
/-- what a def promises, by V -/
def FinC (T : Tab) (O F : AS) (H : Hp) (vs : LSt) (r : R D) (Q : VK) (E : XK) : Prop := Fin T (fun c d _ H => E c d H) O F H vs r Q
def spF (T : Tab) (Φ : Nat → List D → R D) (f : Nat) (n : Nat) : Sp := fun vs H Q E => vs.length = n ∧ ∃ O F args, args.length = n ∧ FR T O F H (args.map some) (vs.map some) ∧ FinC T O F H (vs.map some) (Φ f args) Q E
section
variable {T : Tab} {W : WX} {O F : AS} {H : Hp} {σ : L2.St} {ρ : Env} {Φ : Nat → List D → R D} {f : Nat} {as : List Arg} {vs : List V} {Q : VK}
/-- the arguments stand: the call -/
theorem calls_sp {n : Nat} (hn : as.length = n) (fr : FR T O F H (ρ ++ as.map argD) (σ ++ vs.map some)) (hd : as.length = vs.length) (hs : ∀ (j i : Nat), as[j]? = some (.s i) → ∃ v, vs[j]? = some v ∧ σ[i]? = some (some v))
    (h : Fin T W O F H σ (calls Φ f as ρ) Q) : spF T Φ f n vs H Q (WE W σ) := by
  have hl : ρ.length = σ.length := by
    have := fr.length
    simp at this
    omega
  unfold calls at h
  cases g : grab as ρ with
  | none => rw [g] at h; exact h.elim
  | some x =>
    obtain ⟨ds, ρ2⟩ := x
    rw [g] at h
    have h : Fin T W O F H σ (match Φ f ds with
      | .ok d os => .ok d (back as os ρ2)
      | .ex e os => .ex e (back as os ρ2)
      | .no => .no) Q := h
    obtain ⟨f1, hl2, hd2⟩ := FR.grab (α := []) (β := []) (by simpa using fr) hl rfl hd hs g
    have f2 : FR T O F H (ds.map some ++ ρ2) (vs.map some ++ σ) := (show FR T O F H (ρ2 ++ ds.map some) (σ ++ vs.map some) by simpa using f1).swap hl2
    obtain ⟨F', f3, s3, bk⟩ := f2.frame (by simp; omega)
    refine ⟨by omega, O, F', ds, by omega, f3, ?_⟩
    unfold FinC
    cases q : Φ f ds with
    | no => rw [q] at h; exact h.elim
    | ok d os =>
      rw [q] at h
      have h : Fin T W O F H σ (.ok d (back as os ρ2)) Q := h
      intro v H' O' k f4
      have f5 := bk O' H' _ _ k f4
      have f6 : FR T O' F H' (ρ2 ++ (os ++ [some d])) (σ ++ (vs.map some ++ [some v])) := FR.swap f5 (by have := f4.length; simpa using this)
      obtain ⟨f7, _⟩ := FR.back f6 hl2 (by have := f4.length; simpa using this) hd hs
      exact h v H' O' (k.less s3) f7
    | ex x os =>
      rw [q] at h
      have h : Fin T W O F H σ (.ex x (back as os ρ2)) Q := h
      intro cls dx H' O' k f4 xr
      have f5 := bk O' H' _ _ k f4
      have f6 : FR T O' F H' (ρ2 ++ (os ++ [])) (σ ++ (vs.map some ++ [])) := by simpa using FR.swap f5 (by have := f4.length; simpa using this)
      obtain ⟨f7, _⟩ := FR.back f6 hl2 (by have := f4.length; simpa using this) hd hs
      exact h cls dx H' O' (k.less s3) (by simpa using f7) xr
end
end Vm
/-! #### part Ve5 -/
namespace Vm
open PySem PySem.Spec PyProof.Rows L2
/-- all slots as before, or with shared things -/
theorem FR.fill {T : Tab} {O F : AS} {H : Hp} {ρ ρ' : Env} {σ σ' : LSt} (f : FR T O F H ρ σ) (hl : ρ'.length = σ'.length) (h : ∀ i d, slot ρ' i = some d → (slot ρ i = some d ∧ σ'[i]?.join = σ[i]?.join) ∨ (d.isOwn = false ∧ ∃ v, σ'[i]?.join = some v ∧ Rep T O H v d)) : FR T O F H ρ' σ' := by
  obtain ⟨A, f⟩ := f
  refine ⟨A, hl, fun i d e => ?_, f.sub, f.dis, f.fo, f.trk, f.xc⟩
  rcases h i d e with ⟨h1, h2⟩ | ⟨h1, v, h2, r⟩
  · obtain ⟨v, e1, q⟩ := f.slot i d h1
    exact ⟨v, by rw [h2]; exact e1, q⟩
  · exact ⟨v, h2, .inr ⟨h1, r⟩⟩
/-- an owned list is written -/
theorem FR.mut {T : Tab} {O F : AS} {H : Hp} {ρ : Env} {σ : LSt} {i : Nat} {ds es : List D} (f : FR T O F H ρ σ) (e : slot ρ i = some (.own (.lst ds))) : ∃ a xs, σ[i]?.join = some (.ref a) ∧ H a = some (.lst xs) ∧ RepL T O H xs ds ∧
    ∀ ys, RepL T O H ys es → Keep F O H O (upd H a (.lst ys)) ∧ FR T O F (upd H a (.lst ys)) (ρ.set i (some (.own (.lst es)))) σ := by
  obtain ⟨A, f'⟩ := id f
  obtain ⟨v, e1, q⟩ := f'.slot i _ e
  rcases q with ⟨x, e2, w⟩ | ⟨n, _⟩
  rotate_left
  · cases n
  cases e2
  cases w with
  | @lst a xs ds _ h r ea =>
    refine ⟨a, xs, e1, h, r, fun ys ry => ?_⟩
    have Oa : O a := (f'.sub i a ((ea a).mpr rfl)).1
    have ne : ∀ b, ¬ O b → b ≠ a := fun b n z => n (z ▸ Oa)
    have hk : Keep F O H O (upd H a (.lst ys)) := ⟨fun b o eo _ no => ⟨by rw [upd_ne (ne b no)]; exact eo, no⟩, fun b hb => upd_ne fun z => (f'.sub i a ((ea a).mpr rfl)).2 (z ▸ hb)⟩
    refine ⟨hk, A, by rw [List.length_set]; exact f'.len, fun k d ek => ?_, f'.sub, f'.dis, f'.fo, fun b hb => ?_, fun z ez => (f'.xc z ez).keep hk.sh⟩
    · have ek : slot (ρ.set i (some (.own (.lst es)))) k = some d := ek
      by_cases hk2 : i = k
      · subst hk2
        rw [slot_set_self (slot_lt e)] at ek
        cases ek
        exact ⟨_, e1, .inl ⟨_, rfl, .lst upd_same (RepL.keep hk.sh _ _ ry) ea⟩⟩
      · rw [slot_set_ne hk2] at ek
        exact ((f'.slot k).keep hk.sh fun b hb => upd_ne fun z => f'.dis k i b (Ne.symm hk2) hb (z ▸ (ea a).mpr rfl)) d ek
    · by_cases hb2 : b = a
      · rw [hb2, upd_same]
        exact ⟨_, rfl, fun _ => by intro z; cases z⟩
      · rw [upd_ne hb2]
        exact f'.trk b hb
/-! ### what of the written text is meant -/
structure Sc where
  N : List PySem.Str
  sc : Scope
  bl : Option Scope := none
  hot : Bool := false
  xi : Option Nat := none
structure Gt where
  Κ : Nat → Option Cls
  fnm : List (PySem.Str × Nat)
  clm : List (PySem.Str × Nat)
  cst : List (PySem.Str × Int)
  asks : List Ty
  mts : List PySem.Str
  ar : Nat → Nat
  mar : Nat → Nat
  xar : Nat → Option Nat
  cats : List Nat
def glB (S : Sc) (x : PySem.Str) : Bool := decide (S.sc.names.lookup x = some .globalImplicit) && !(x == ("__debug__" : PySem.Str))
def visB (S : Sc) (i : Nat) (x : PySem.Str) : Bool := decide (S.N[i]? = some x) && (decide (S.sc.names.lookup x = some .local) || decide (S.sc.names.lookup x = some .cell) || decide (S.sc.names.lookup x = some .free)) && !(x == ("__debug__" : PySem.Str)) && !(x == ("__classdict__" : PySem.Str))
def fnS (S : Sc) (x : PySem.Str) : Bool := match S.bl with
  | none => true
  | some sc => sc.names.lookup x == some .cell
def locB (S : Sc) (i : Nat) (x : PySem.Str) : Bool := decide (S.N[i]? = some x) && (decide (S.sc.names.lookup x = some .local) || decide (S.sc.names.lookup x = some .cell)) && (fnS S x || decide (S.sc.names.lookup x = some .local))
def isSlice : Expr → Bool
  | .Slice .. => true
  | _ => false
def isSet : Expr → Bool
  | .Set .. => true
  | _ => false
def boB : BO → Operator → Bool
  | .add, .Add | .sub, .Sub | .mul, .Mult | .fdiv, .FloorDiv | .mod, .Mod | .pow, .Pow => true
  | _, _ => false
def coB : CO → CmpOp → Bool
  | .eq, .Eq | .ne, .NotEq | .lt, .Lt | .le, .LtE | .gt, .Gt | .ge, .GtE | .is_, .Is | .isn, .IsNot | .in_, .In | .nin, .NotIn => true
  | _, _ => false
theorem boB_eq {o : BO} {p : Operator} (h : boB o p = true) : p = boOf o := by
  cases o <;> cases p <;> first | rfl | cases h
theorem coB_eq {o : CO} {p : CmpOp} (h : coB o p = true) : p = coOf o := by
  cases o <;> cases p <;> first | rfl | cases h
def litB : D → Const → Bool
  | .non, .none => true
  | .bl b, .bool c => b == c
  | .int i, .int j => i == j
  | .str x, .str y => decide (x = y)
  | _, _ => false
def biN : Bi → Option PySem.Str
  | .len => some "len" | .abs => some "abs" | .int => some "int" | .list => some "list" | .tuple => some "tuple" | .all => some "all" | .any => some "any" | .repr => some "repr" | .str => some "str" | .sum => some "sum"
  | .min2 => some "min" | .max2 => some "max" | _ => none
def tyN : Ty → Option PySem.Str
  | .int => some "int" | .bool => some "bool" | .str => some "str" | .tuple => some "tuple" | .list => some "list" | .dict => some "dict" | .cls _ => none
/-- the built-in names that are used -/
def bnames : List PySem.Str := ["len", "abs", "int", "list", "tuple", "all", "any", "repr", "str", "min", "max", "isinstance", "bool", "dict", "range", "sum", "sorted", "ValueError"]
def clB (G : Gt) (S : Sc) (t : Ty) (x : PySem.Str) : Bool := glB S x && (match t with
  | .cls c => if c = 19 then decide (x = "ValueError") else decide (G.clm.lookup x = some c)
  | t => decide (tyN t = some x) && bnames.contains x) && !(x == ("__name__" : PySem.Str))
/-- a field's name -/
def fldB (f : Nat) (x : PySem.Str) : Bool := decide (f < 15) && decide (fname f = x)
/-- no field's name -/
def noFld (x : PySem.Str) : Bool := ((List.range 15).all fun f => !decide (fname f = x)) && !decide (x.cps[0]? = some 0)
mutual
def chkQ (G : Gt) (S : Sc) : E → Expr → Bool
  | .lit d, x => match x with
    | .Constant c _ _ => litB d c
    | .Name n _ => glB S n && (match d with
      | .int i => decide (G.cst.lookup n = some i)
      | _ => false)
    | _ => false
  | .rd p, x => chkP G S p x
  | .bin o a b, x => match x with
    | .BinOp y op z _ => boB o op && chkQ G S a y && chkQ G S b z
    | _ => false
  | .neg a, x => match x with
    | .UnaryOp .USub y _ => chkQ G S a y
    | _ => false
  | _, _ => false
def chkP (G : Gt) (S : Sc) : P → Expr → Bool
  | .loc i, x => match x with
    | .Name n _ => visB S i n
    | _ => false
  | .fld p f, x => match x with
    | .Attribute o n _ => fldB f n && !isCall o && chkP G S p o
    | _ => false
  | .at_ p q, x => match x with
    | .Subscript o i _ => !isSlice i && chkP G S p o && chkQ G S q i
    | _ => false
end
mutual
def chkT (S : Sc) : Tg → Expr → Bool
  | .nm i, x => match x with
    | .Name n _ => locB S i n
    | _ => false
  | .tp ts, x => match x with
    | .Tuple es _ _ => !es.any isStar && chkTs S ts es
    | _ => false
def chkTs (S : Sc) : List Tg → List Expr → Bool
  | [], [] => true
  | t :: ts, e :: es => chkT S t e && chkTs S ts es
  | _, _ => false
end
def tgS : Tg → List Nat
  | .nm i => [i]
  | .tp ts => tgSs ts
where tgSs : List Tg → List Nat
  | [] => []
  | t :: ts => tgS t ++ tgSs ts
def isExc (G : Gt) (c : Nat) : Bool := match G.Κ c with
  | some k => k.exc
  | none => true
/-- the scope that runs in a comprehension's block -/
def blkSc (S : Sc) (scope : Scope) : Sc := { N := S.N, sc := relS scope S.sc, bl := some scope, hot := S.hot, xi := S.xi }
/-- the names of the slots -/
def ownN (S : Sc) (vs : List Nat) : List (PySem.Str × Nat) := vs.map fun i => (S.N.getD i "", i)
mutual
def chkE (G : Gt) (S : Sc) : E → Expr → Bool
  | .lit d, x => chkQ G S (.lit d) x
  | .rd p, x => chkP G S p x
  | .tup es, x => match x with
    | .Tuple xs _ _ => !xs.any isStar && decide (xs.length ≤ 1000) && chkL G S es xs
    | _ => false
  | .lst keep es, x => match x with
    | .List xs _ => !keep && !xs.any isStar && decide (xs.length ≤ 1000) && chkL G S es xs
    | _ => false
  | .dct ks vs, x => match x with
    | .Dict [] [] _ => ks.isEmpty && vs.isEmpty
    | _ => false
  | .bin o a b, x => match x with
    | .BinOp y op z _ => boB o op && chkE G S a y && chkE G S b z
    | _ => false
  | .neg a, x => match x with
    | .UnaryOp .USub y _ => chkE G S a y
    | _ => false
  | .not a, x => match x with
    | .UnaryOp .Not y _ => chkE G S a y
    | _ => false
  | .cmp o a b, x => match x with
    | .Compare y [op] [z] _ => coB o op && !isSet z && chkE G S a y && chkE G S b z
    | _ => false
  | .cmp2 o o' a b c, x => match x with
    | .Compare y [op, op'] [z, u] _ => coB o op && coB o' op' && !isSet z && !isSet u && chkE G S a y && chkE G S b z && chkE G S c u
    | _ => false
  | .and a b, x => match x with
    | .BoolOp .And (y :: z :: []) _ => chkE G S a y && chkE G S b z
    | .BoolOp .And (y :: z :: u :: r) p => chkE G S a y && chkE G S b (.BoolOp .And (z :: u :: r) p)
    | _ => false
  | .or a b, x => match x with
    | .BoolOp .Or (y :: z :: []) _ => chkE G S a y && chkE G S b z
    | .BoolOp .Or (y :: z :: u :: r) p => chkE G S a y && chkE G S b (.BoolOp .Or (z :: u :: r) p)
    | _ => false
  | .ite c a b, x => match x with
    | .IfExp y z u _ => chkE G S c y && chkE G S a z && chkE G S b u
    | _ => false
  | .sub a i, x => match x with
    | .Subscript y z _ => !isSlice z && chkE G S a y && chkE G S i z
    | _ => false
  | .slc a lo hi, x => match x with
    | .Subscript y (.Slice l h none _) _ => chkE G S a y && chkO G S lo l && chkO G S hi h
    | _ => false
  | .rev a, x => match x with
    | .Subscript y (.Slice none none (some (.UnaryOp .USub (.Constant (.int 1) _ _) _)) _) _ => chkE G S a y
    | _ => false
  | .bi b a, x => match x with
    | .Call (.Name n _) [y] [] _ => !S.hot && !(b == .min2) && !(b == .max2) && decide (biN b = some n) && glB S n && !isStar y && chkE G S a y
    | _ => false
  | .bi2 b a c, x => match x with
    | .Call (.Name n _) [y, z] [] _ => !S.hot && (b == .min2 || b == .max2) && decide (biN b = some n) && glB S n && !isStar y && !isStar z && chkE G S a y && chkE G S c z
    | _ => false
  | .isi a ts, x => match x with
    | .Call (.Name n _) [y, .Name t _] [] _ => decide (n = "isinstance") && glB S n && !isStar y && (match ts with
      | [ty] => G.asks.contains ty && clB G S ty t
      | _ => false) && chkE G S a y
    | _ => false
  | .call f args, x => match x with
    | .Call (.Name n _) xs [] _ => !S.hot && glB S n && decide (G.fnm.lookup n = some f) && decide (G.ar f = args.length) && !xs.any isStar && chkL G S args xs
    | _ => false
  | .new c args, x => match x with
    | .Call (.Name n _) (y :: ys) [] _ => !S.hot && glB S n && decide (G.clm.lookup n = some c) && !isExc G c && (match (G.Κ c).bind Cls.init with
      | some f => decide (G.ar f = args.length + 1)
      | none => false) && !(y :: ys).any isStar && chkL G S args (y :: ys)
    | _ => false
  | .meth m [], x => false
  | .meth m (e :: es), x => match x with
    | .Call (.Attribute o n ap) ys [] cp => !S.hot && decide (G.mts[m]? = some n) && decide (G.mar m = es.length + 1) && noFld n && !isCall o && !ys.any isStar && decide (ys.length < 30) && (ap.endLine == cp.line) && chkE G S e o && chkL G S es ys
    | _ => false
  | .app p e, x => match x with
    | .Call (.Attribute (.Name n _) a ap) [y] [] cp => decide (a = "append") && (ap.endLine == cp.line) && !isStar y && (match p with
      | .loc i => visB S i n
      | _ => false) && chkE G S e y
    | _ => false
  | .ext p e, x => match x with
    | .Call (.Attribute (.Name n _) a ap) [y] [] cp => decide (a = "extend") && (ap.endLine == cp.line) && !isStar y && (match p with
      | .loc i => visB S i n
      | _ => false) && chkE G S e y
    | _ => false
  | .popA p e, x => match x with
    | .Call (.Attribute (.Name n _) a ap) [y] [] cp => decide (a = "pop") && (ap.endLine == cp.line) && !isStar y && (match p with
      | .loc i => visB S i n
      | _ => false) && chkE G S e y
    | _ => false
  | .comp keep elt tg it ifs vs, x => match x with
    | .ListComp ee [⟨te, ie, fs, 0⟩] scope _ => !keep && !S.hot && S.xi.isNone && !isSet ie && blkC S.N S.sc scope (ownN S vs) && chkT (blkSc S scope) tg te && (tgS tg).all (fun i => vs.contains i) && chkI G S it ie && chkF G (blkSc S scope) ifs fs && chkE G (blkSc S scope) elt ee
    | _ => false
  | .xis c, x => match x with
    | .Call (.Name n _) [.Name e _, .Name t _] [] _ => decide (n = "isinstance") && glB S n && (match S.xi with
      | some i => visB S i e
      | none => false) && G.asks.contains (.cls c) && clB G S (.cls c) t
    | _ => false
  | .xfld f, x => match x with
    | .Attribute (.Name e _) n _ => fldB f n && (match S.xi with
      | some i => visB S i e
      | none => false)
    | _ => false
  | _, _ => false
def chkO (G : Gt) (S : Sc) : Option E → Option Expr → Bool
  | none, none => true
  | some e, some x => chkQ G S e x
  | _, _ => false
def chkF (G : Gt) (S : Sc) : Option E → List Expr → Bool
  | none, [] => true
  | some e, [x] => chkE G S e x
  | _, _ => false
def chkL (G : Gt) (S : Sc) : List E → List Expr → Bool
  | [], [] => true
  | e :: es, x :: xs => chkE G S e x && chkL G S es xs
  | _, _ => false
def chkI (G : Gt) (S : Sc) : It → Expr → Bool
  | .seq e, x => chkE G S e x
  | .rng es, x => match x with
    | .Call (.Name n _) xs [] _ => decide (n = "range") && glB S n && !xs.any isStar && (xs.length == 1 || xs.length == 2) && chkL G S es xs
    | _ => false
  | _, _ => false
end
end Vm
/-! #### part Ve6 -/
namespace Vm
open PySem PySem.Spec PyProof.Rows L2
/-- what the text's own == leans on -/
structure EqC (K : PySem.W.Frag) (C f : Addr) : Prop where
  at_ : PySem.W.findIn K (.ref C) "__eq__" = some (some (.ref f))
  fn : PySem.W.isFn K (.ref f) = true
  ne : PySem.W.findIn K (.ref C) "__ne__" = some (some (.builtin "object.__ne__"))
  ob : PySem.W.subIn K (.ref C) (.type "object") = some true
/-- how an exception of a class of the text is made -/
structure MkEx (T : Tab) (P : Program) (w : World) (K : PySem.W.Frag) (mg : PySem.Str → Option Value) (base : Heap) (k : Nat) (c : Nat) (D : Addr) (n : Nat) : Prop where
  run : ∀ (X : Cx) (pins : List (Addr × Obj)) (s : Shared) (σ : L2.St) (H : Hp) (O F : AS) (ρ : Env) (us : List Value) (vs : List V) (ds : List Vm.D) (Q : XK), X.prog = P → X.w = w → X.K = K → X.mg = mg → X.base = base → X.calm = true → Room (k + 1) X.A → X.A.guards = some [] →
    Inv X pins σ H s → Vals vs us → vs.length = n → FR T O F H ρ σ → RepL T O H vs ds → (∀ dx H' O', Keep F O H O' H' → FR T O' F H' ρ σ → ExR T O' H' (.ref D) dx (.exc c ds) → Q (.ref D) dx H') →
    wpAny (model P w) X.A (call (.ref D) us) (MkP X pins σ Q) X.xe s
/-- what stands where in the text -/
structure Fct (G : Gt) (T : Tab) (k : Nat) (Φ : Nat → List D → R D) (X : Cx) : Prop where
  K : X.K = T.K
  mgF : ∀ x f, G.fnm.lookup x = some f → ∃ a, T.fns f = some a ∧ X.mg x = some (.ref a) ∧ PySem.W.keepIn X.K (.ref a) = true
  mgC : ∀ x c, G.clm.lookup x = some c → (∃ a, (T.cls c <|> T.xcl c) = some a ∧ X.mg x = some (.ref a))
  mgI : ∀ x i, G.cst.lookup x = some i → ∃ t, X.mg x = some (.int i t)
  mgB : ∀ x, x ∈ bnames → X.mg x = none
  fns : ∀ f a, T.fns f = some a → ∃ fd ps, FnG X.prog X.w X.K X.mg X.base k a fd ps (spF T Φ f (G.ar f)) ∧ ps.length = G.ar f ∧ Binds X.K fd ps []
  ins : ∀ c C, T.cls c = some C → InsC X.K C
  mks : ∀ c C kc f, T.cls c = some C → G.Κ c = some kc → kc.init = some f → ∃ a, T.fns f = some a ∧ Mk X.K C a
  mts : ∀ c C kc m f n, T.cls c = some C → G.Κ c = some kc → kc.meths.lookup m = some f → G.mts[m]? = some n → G.ar f ≥ 1 ∧ ∃ a, T.fns f = some a ∧ Meth X.K C n a
  eqs : ∀ c C kc f, T.cls c = some C → G.Κ c = some kc → kc.eq = some f → G.ar f = 2 ∧ ∃ a, T.fns f = some a ∧ EqC X.K C a
  nf : ∀ c C kd u, T.cls c = some C → kdV T kd = some u → PySem.W.notFirst X.K C u = true
  mar : ∀ c kc m f, G.Κ c = some kc → kc.meths.lookup m = some f → G.ar f = G.mar m
  xex : ∀ c D, T.xcl c = some D → isExc G c = true
  xnf : ∀ c D, T.xcl c = some D → ∀ f, f < 15 → PySem.W.findIn X.K (.ref D) (fname f) = some none
  xkit : ∀ c D c' w b, T.xcl c = some D → Ty.cls c' ∈ G.asks → tyV T (.cls c') = some w → isTy G.Κ (.exc c []) (.cls c') = some b → PySem.W.kitOne X.K (.ref D) w = some b
  kit : ∀ kd u t w, kdV T kd = some u → t ∈ G.asks → tyV T t = some w → PySem.W.kitOne X.K u w = some (isKd kd t)
  xcc : ∀ c D, T.xcl c = some D → XfC X.K D ∧ ExcC X.K D ∧ Raises X (.ref D) ∧ PySem.W.keepIn X.K (.ref D) = true
  xmk : ∀ c D n, T.xcl c = some D → G.xar c = some n → MkEx T X.prog X.w X.K X.mg X.base k c D n
  xno : ∀ c, isExc G c = true → T.cls c = none
  xct : ∀ c D c' w b, T.xcl c = some D → c' ∈ G.cats → tyV T (.cls c') = some w → catches G.Κ c' (.exc c []) = some b → PySem.W.exmOne X.K (.ref D) w = some b
/-- isinstance(e, c), e the exception that the suite holds, dx its dict -/
def rIsX (K : PySem.W.Frag) (D a : Addr) (dx : Option Addr) : List V → Hp → VK → Prop := fun xs H Q => (dx = none ∨ ∃ d fs, dx = some d ∧ H d = some (.xd fs)) ∧ rIsE K D a xs H Q
theorem call_isX {X : Cx} {a D : Addr} {oe : Obj} {dx : Option Addr} {pn : List (Addr × Obj)} (C : ExcC X.K D) (hz : Zc (.ref D) dx oe) (hf : ∃ vs, oe.data = .fields vs) : CallR (X.suite a ((a, oe) :: pn)) (.builtin "isinstance") (rIsX X.K D a dx) := by
  intro pins s σ H xs us Q I r h
  obtain ⟨hd, c, cv, b, rfl, hcv, e, q⟩ := h
  cases r with
  | cons rx rr =>
    cases rr with
    | cons rt rr =>
      cases rr
      cases rx
      have ec := hcv _ rt
      subst ec
      obtain ⟨hget, _⟩ := I.pin (a, oe) (List.mem_append.mpr (.inl List.mem_cons_self))
      obtain ⟨vs, hv⟩ := hf
      have J : ∃ od, PySem.W.InstAt s.heap a oe D od := by
        obtain ⟨oc, od, oda, osl⟩ := oe
        obtain ⟨h1, h2⟩ := hz
        dsimp only at h1 h2 hv
        subst h1 h2 hv
        rcases hd with rfl | ⟨d, fs, rfl, hx⟩
        · exact ⟨none, hget, rfl, rfl, trivial⟩
        · obtain ⟨_, ⟨o, _, _, ho, _⟩, _⟩ := (show ObjOk X.prog X.w H s.heap d (.xd fs) from I.hok d _ hx)
          exact ⟨some o, hget, rfl, rfl, ho⟩
      obtain ⟨od, J⟩ := J
      obtain ⟨cdD, hcD, _⟩ := PySem.W.any_some C.hd
      exact PySem.W.kia_one (PySem.W.kitx_exc (by rw [hcD]; rfl) C.hg C.hk C.hs C.ha C.hn C.ht C.hm) I.kIn J e (fun z => nomatch z) fun tk => ⟨.bl b, H, I.kept (t' := tk) fun _ _ z => z, rfl, q⟩
/-- what an except suite may ask of the caught exception -/
structure HotX (T : Tab) (C : Cf) (X : Cx) (i : Nat) : Prop where
  at_ : ∃ z D c, T.xcl c = some D ∧ T.ξ = some z ∧ z.i = i ∧ C.ξ = some z.d ∧ z.cls = .ref D ∧ CallR X (.builtin "isinstance") (rIsX X.K D z.a z.dx) ∧
    ∀ (e : Expr) (te : TE) (n : PySem.Str) (pos : Pos), isCall e = false → PySem.W.findIn X.K (.ref D) n = some none → PE X e te → PE X (.Attribute e n pos) (tXf z.a z.cls z.dx D n te)
structure Good (G : Gt) (T : Tab) (k : Nat) (C : Cf) (S : Sc) (W : WX) (X : Cx) : Prop where
  fct : Fct G T k C.Φ X
  N : X.N = S.N
  sc : X.env.scope = S.sc
  nd : X.N.Nodup
  fn : ∀ x, X.fn x = fnS S x
  calm : S.hot = false → X.calm = true ∧ Room (k + 1) X.A ∧ T.ξ = none
  un : X.A.units + 200 < cLine
  gd : X.A.guards = some []
  tk : Takes X W
  xis : ∀ i, S.xi = some i → HotX T C X i
  no : S.hot = true → ∀ f as, C.Φ f as = .no
section
variable {G : Gt} {T : Tab} {k : Nat} {C : Cf} {S : Sc} {W : WX} {X : Cx} {Q : VK} {σ : L2.St} {H : Hp}
theorem Good.gl (g : Good G T k C S W X) {x : PySem.Str} (h : glB S x = true) : Gl X x ∧ (x == ("__debug__" : PySem.Str)) = false := by
  unfold glB at h
  simp only [Bool.and_eq_true, decide_eq_true_eq, Bool.not_eq_true'] at h
  exact ⟨by unfold Gl Env.kindOf; rw [g.sc]; exact h.1, h.2⟩
theorem Good.vis (g : Good G T k C S W X) {i : Nat} {x : PySem.Str} (h : visB S i x = true) {pos : Pos} : PE X (.Name x pos) (tVar i) := by
  unfold visB at h
  simp only [Bool.and_eq_true, Bool.or_eq_true, decide_eq_true_eq, Bool.not_eq_true'] at h
  obtain ⟨⟨⟨h1, h2⟩, h3⟩, h4⟩ := h
  refine pe_var (by rw [g.N]; exact h1) ?_ h3 h4
  unfold Vis
  rw [g.sc]
  rcases h2 with (h2 | h2) | h2
  · exact .inl h2
  · exact .inr (.inl h2)
  · exact .inr (.inr h2)
theorem FR.bare {O F : AS} {H : Hp} {ρ : Env} {σ : LSt} (f : FR T O F H ρ σ) : FR T O O H [] [] := by
  obtain ⟨A, f⟩ := f
  exact ⟨fun _ _ => False, rfl, fun i => SlotR.none, fun i b z => z.elim, fun _ _ _ _ z => z.elim, fun b z => z, f.trk, f.xc⟩
theorem Keep.grow {O O' : AS} {H H' : Hp} (k : Keep O O H O' H') : Grow H H' := fun a o e t => by
  by_cases z : O a
  · rw [k.fo a z]; exact e
  · exact (k.sh a o e t z).1
/-- a literal's value -/
def litV : D → V
  | .bl b => .bl b
  | .int i => .int i
  | .str x => .str x
  | _ => .non
theorem litB_pe {d : D} {c : Const} {j : Nat} {pos : Pos} (h : litB d c = true) : PE X (.Constant c j pos) (tC (litV d)) := by
  unfold litB at h
  split at h
  · exact pe_non
  · have := eq_of_beq h; subst this; exact pe_bl
  · have := eq_of_beq h; subst this; exact pe_int
  · have := of_decide_eq_true h; subst this; exact pe_str
  · cases h
theorem litB_rep {d : D} {c : Const} {O : AS} {H : Hp} (h : litB d c = true) : d.isOwn = false ∧ Rep T O H (litV d) d := by
  unfold litB at h
  split at h
  · exact ⟨rfl, .non⟩
  · exact ⟨rfl, .bl _⟩
  · exact ⟨rfl, .int _⟩
  · exact ⟨rfl, .str _⟩
  · cases h
theorem glob_lit (g : Good G T k C S W X) {n : PySem.Str} {i : Int} {pos : Pos} (h : glB S n = true) (e : G.cst.lookup n = some i) : PE X (.Name n pos) (tC (.int i)) := by
  obtain ⟨h1, h2⟩ := g.gl h
  obtain ⟨t, ht⟩ := g.fct.mgI n i e
  exact pe_glob h1 ht ⟨t, rfl⟩ h2
theorem plainIx_of {b : Expr} (h : isSlice b = false) : PlainIx b := fun o i => by
  cases b <;> first | rfl | cases h
/-- the literal's reading -/
theorem tQ.lit {d : D} (hr : ∀ (O : AS) (H : Hp), d.isOwn = false ∧ Rep T O H (litV d) d) (h : tQ T (.lit d) σ H Q) : tC (litV d) σ H Q := by
  obtain ⟨sx, O, F, ρ, f, h⟩ := h
  have h : ∀ v H', Grow H H' → d.isOwn = false → Rep T O H' v d → Q v H' := by simpa [qe] using h
  exact h _ H (Grow.refl _) (hr O H).1 (hr O H).2
theorem tQ.rd {p : P} (h : tQ T (.rd p) σ H Q) : tRd T p σ H Q := by
  obtain ⟨sx, O, F, ρ, f, h⟩ := h
  refine ⟨sx, O, F, ρ, f, ?_⟩
  rw [qe] at h
  cases q : rp p ρ with
  | none => rw [q] at h; exact h
  | some d =>
    rw [q] at h
    cases ho : d.isOwn with
    | true => simp [plain, ho] at h
    | false =>
      simp only [plain, ho, Bool.false_eq_true, if_false] at h
      exact fun v H' g x => h v H' g trivial (x.rep ho)
theorem tQ.bin {o : BO} {a b : E} (h : tQ T (.bin o a b) σ H Q) : tOp (rOp (bop o)) (tQ T a) (tQ T b) σ H Q := by
  obtain ⟨sx, O, F, ρ, f, h⟩ := h
  rw [qe] at h
  refine ⟨sx, O, F, ρ, f, ?_⟩
  cases qa : qe a ρ with
  | none => rw [qa] at h; exact h
  | some x =>
    intro vx H1 g1 nx rx
    obtain ⟨f1, k1⟩ := f.growG g1
    refine ⟨sx, O, F, ρ, f1, ?_⟩
    cases qb : qe b ρ with
    | none => rw [qa, qb] at h; exact h
    | some y =>
      intro vy H2 g2 ny ry
      rw [qa, qb] at h
      obtain ⟨f2, k2⟩ := f1.growG g2
      have h : match plain (bop o x y) with
        | some d => ∀ v H', Grow H H' → d.isOwn = false → Rep T O H' v d → Q v H'
        | none => False := h
      cases e : bop o x y with
      | none => rw [e] at h; exact h.elim
      | some d =>
        rw [e] at h
        cases ho : d.isOwn with
        | true => simp [plain, ho] at h
        | false =>
          simp only [plain, ho, Bool.false_eq_true, if_false] at h
          refine ⟨T, O, O, [], [], x, y, d, f2.bare, .inr (Rep.keep (k2.sh) _ _ rx), .inr ry, e, fun v H' O' k3 f3 => ?_⟩
          have r := f3.topVal.rep ho
          exact h v H' ((g1.trans g2).trans k3.grow) trivial (Rep.keep (fun a o e t n => ⟨e, fun z => n (f3.fo a z)⟩) _ _ r)
theorem tQ.neg {a : E} (h : tQ T (.neg a) σ H Q) : tUn (rU fun i => .int (-i)) (tQ T a) σ H Q := by
  obtain ⟨sx, O, F, ρ, f, h⟩ := h
  rw [qe] at h
  refine ⟨sx, O, F, ρ, f, ?_⟩
  cases qa : qe a ρ with
  | none => rw [qa] at h; exact h
  | some x =>
    rw [qa] at h
    intro vx H1 g1 nx rx
    cases rx with
    | int i =>
      have h : ∀ v H', Grow H H' → (D.int (-i)).isOwn = false → Rep T O H' v (.int (-i)) → Q v H' := h
      exact ⟨i, rfl, h _ H1 g1 rfl (.int _)⟩
    | _ => exact h.elim
theorem tRd.at_ {p : P} {q : E} (h : tRd T (.at_ p q) σ H Q) : tOp rItem (tRd T p) (tQ T q) σ H Q := by
  obtain ⟨sx, O, F, ρ, f, h⟩ := h
  rw [rp] at h
  refine ⟨sx, O, F, ρ, f, ?_⟩
  cases qa : rp p ρ with
  | none => rw [qa] at h; exact h
  | some x =>
    intro vx H1 g1 vx1
    obtain ⟨f1, k1⟩ := f.growG g1
    refine ⟨sx, O, F, ρ, f1, ?_⟩
    cases qb : qe q ρ with
    | none => rw [qa, qb] at h; exact h
    | some y =>
      intro vy H2 g2 ny ry
      rw [qa, qb] at h
      cases e : itemD x.un y with
      | none => simp [e] at h
      | some z =>
        have h : ∀ v H', Grow H H' → Val T O H' v z → Q v H' := by simpa [e] using h
        exact ⟨T, O, O, x.un, y, z, (vx1.growG f1.trk g2).pkA, .inr ry, e, fun w pw => h w H2 (g1.trans g2) pw⟩
theorem tRd.fld {p : P} {m : Nat} (hm : m < 15) (g : Fct G T k C.Φ X) (h : tRd T (.fld p m) σ H Q) : tFld X.K (tRd T p) (fname m) σ H Q := by
  obtain ⟨sx, O, F, ρ, f, h⟩ := h
  rw [rp] at h
  refine ⟨sx, O, F, ρ, f, ?_⟩
  cases qa : rp p ρ with
  | none => rw [qa] at h; exact h
  | some x =>
    intro vx H1 g1 vx1
    rw [qa] at h
    cases e : fldD x.un m with
    | none => simp [e] at h
    | some z =>
      have h : ∀ v H', Grow H H' → Val T O H' v z → Q v H' := by simpa [e] using h
      have pk := vx1.pkA
      unfold fldD at e
      split at e
      · rename_i c gs vs hx
        rw [hx] at pk
        obtain ⟨a, Ca, dx, fs, rfl, hc, ha, hn, get⟩ := PkA.ins (f := 0) pk
        obtain ⟨v, hv, pv⟩ := get m z e
        have ic := g.ins c Ca hc
        exact ⟨a, Ca, dx, fs, v, rfl, ha, ic.c, ic.nf m hm, hv, h v H1 g1 pv⟩
      · rename_i c y hx
        rw [hx] at pk
        rcases pk with ⟨A, w, _⟩ | r
        · cases w
        · cases r
      · cases e
mutual
theorem sQ (g : Good G T k C S W X) : ∀ (q : E) (x : Expr), chkQ G S q x = true → PE X x (tQ T q)
  | .lit d, x, h => by
    unfold chkQ at h
    split at h
    · exact (litB_pe h).imp fun _ _ _ z => z.lit fun _ _ => litB_rep h
    · rename_i n _
      rw [Bool.and_eq_true] at h
      split at h
      · rename_i i
        have e := of_decide_eq_true h.2
        exact (glob_lit g h.1 e).imp fun _ _ _ z => z.lit fun _ _ => ⟨rfl, .int _⟩
      · simp at h
    · cases h
  | .rd p, x, h => by
    unfold chkQ at h
    exact (sP g p x h).imp fun _ _ _ z => z.rd
  | .bin o a b, x, h => by
    unfold chkQ at h
    split at h
    · simp only [Bool.and_eq_true] at h
      obtain ⟨⟨h1, h2⟩, h3⟩ := h
      rw [boB_eq h1]
      exact (pe_op (bop_ok o) (sQ g a _ h2) (sQ g b _ h3)).imp fun _ _ _ z => z.bin
    · cases h
  | .neg a, x, h => by
    unfold chkQ at h
    split at h
    · exact (pe_un un_neg (sQ g a _ h)).imp fun _ _ _ z => z.neg
    · cases h
  | .mv _, x, h | .fnv _, x, h | .tup _, x, h | .lst _ _, x, h | .dct _ _, x, h | .not _, x, h | .cmp _ _ _, x, h | .cmp2 _ _ _ _ _, x, h | .and _ _, x, h | .or _ _, x, h | .ite _ _ _, x, h | .sub _ _, x, h | .slc _ _ _, x, h | .rev _, x, h | .bi _ _, x, h | .bi2 _ _ _, x, h | .isi _ _, x, h
  | .call _ _, x, h | .new _ _, x, h | .meth _ _, x, h | .attr _ _, x, h | .app _ _, x, h | .ext _ _, x, h | .pop _, x, h | .popA _ _, x, h | .comp _ _ _ _ _ _, x, h | .lrng _, x, h | .xis _, x, h | .xfld _, x, h => by simp [chkQ] at h
theorem sP (g : Good G T k C S W X) : ∀ (p : P) (x : Expr), chkP G S p x = true → PE X x (tRd T p)
  | .loc i, x, h => by
    unfold chkP at h
    split at h
    · refine (g.vis h).imp fun σ H Q z => ?_
      obtain ⟨sx, O, F, ρ, f, z⟩ := z
      rw [rp] at z
      cases q : slot ρ i with
      | none => rw [q] at z; exact z.elim
      | some d =>
        rw [q] at z
        obtain ⟨v, e1, vl⟩ := f.val q
        exact ⟨v, (join_lt e1).2, z v H (Grow.refl _) vl⟩
    · cases h
  | .fld p m, x, h => by
    unfold chkP at h
    split at h
    · simp only [Bool.and_eq_true, Bool.not_eq_true', fldB, decide_eq_true_eq] at h
      obtain ⟨⟨⟨h0, h1⟩, h2⟩, h3⟩ := h
      rw [← h1]
      exact (pe_fld (sP g p _ h3) (attrB h2 ..)).imp fun _ _ _ z => z.fld h0 g.fct
    · cases h
  | .at_ p q, x, h => by
    unfold chkP at h
    split at h
    · simp only [Bool.and_eq_true, Bool.not_eq_true'] at h
      obtain ⟨⟨h1, h2⟩, h3⟩ := h
      exact (pe_ix ix_item (sP g p _ h2) (sQ g q _ h3) (plainIx_of h1)).imp fun _ _ _ z => z.at_
    · cases h
end
end
end Vm
/-! #### part Ve7 -/
namespace Vm
open PySem PySem.Spec PyProof.Rows L2
section
variable {T : Tab} {W : WX} {σ : L2.St} {H : Hp} {Q : VK} {Κ : Nat → Option Cls} {C : Cf} {a b c : E} {es : List E} {o : BO} {X : Cx}
theorem tE.lit {d : D} {v : V} (hr : ∀ (O : AS) (H : Hp), d.isOwn = false ∧ Rep T O H v d) (h : tE T Κ C W (.lit d) σ H Q) : tC v σ H Q := by
  obtain ⟨sx, O, F, ρ, f, h⟩ := h
  have h : Fin T W O F H σ (.ok d ρ) Q := h
  exact h _ H O (Keep.refl ..) (f.add (hr O H).1 (hr O H).2)
theorem evL_length : ∀ {es : List E} {ρ ρ' : Env} {ds : List D}, evL Κ C es ρ = .ok ds ρ' → ds.length = es.length
  | [], ρ, ρ', ds, h => by
    have h : R.ok [] ρ = R.ok ds ρ' := h
    cases h
    rfl
  | e :: es, ρ, ρ', ds, h => by
    have h : (ev Κ C e ρ).bind (fun d ρ1 => (evL Κ C es ρ1).bind fun ds ρ2 => .ok (d :: ds) ρ2) = R.ok ds ρ' := h
    cases q : ev Κ C e ρ with
    | no => rw [q] at h; cases h
    | ex x r => rw [q] at h; cases h
    | ok d ρ1 =>
      rw [q, R.bind_ok] at h
      cases q2 : evL Κ C es ρ1 with
      | no => rw [q2] at h; cases h
      | ex x r => rw [q2] at h; cases h
      | ok ds2 ρ2 =>
        rw [q2, R.bind_ok] at h
        cases h
        have := evL_length q2
        simp [this]
/-- items, then what is made of them -/
theorem tL.bind {k : List D → Env → R D} {G : List V → Hp → Prop} {O F : AS} {ρ : Env} (sx : SX T σ) (f : FR T O F H ρ σ) (h : Fin T W O F H σ ((evL Κ C es ρ).bind k) Q)
    (g : ∀ ds ρ1 vs H1 O1, Keep F O H O1 H1 → FR T O1 F H1 (ρ1 ++ ds.map some) (σ ++ vs.map some) → ρ1.length = σ.length → ds.length = vs.length → ds.length = es.length → Fin T W O1 F H1 σ (k ds ρ1) Q → G vs H1) : tL T Κ C W es σ H G := by
  refine ⟨sx, O, F, ρ, f, ?_⟩
  cases e : evL Κ C es ρ with
  | no => rw [e] at h; exact h
  | ex x ρ1 => rw [e] at h; exact h
  | ok ds ρ1 =>
    rw [e] at h
    intro vs H1 O1 k1 f1 hd
    refine g ds ρ1 vs H1 O1 k1 f1 ?_ hd (evL_length e) (Fin.step k1 (fun _ z => z) h)
    have := f1.length
    simp at this
    omega
theorem size1000 {n : Nat} (h : n ≤ 1000) : n ≤ sizeLine := by rw [sizeLine_eq]; omega
theorem tE.tup (hz : es.length ≤ 1000) (h : tE T Κ C W (.tup es) σ H Q) : tTup (tL T Κ C W es) σ H Q := by
  obtain ⟨sx, O, F, ρ, f, h⟩ := h
  refine tL.bind (k := fun ds ρ1 => .ok (.tup (ds.map D.un)) ρ1) sx f h fun ds ρ1 vs H1 O1 k1 f1 hl hd hn h1 => ⟨size1000 (by omega), fun p np => ?_⟩
  obtain ⟨O2, k2, f2, r2⟩ := f1.unTops hl hd
  obtain ⟨k3, f3⟩ := f2.tup np r2
  exact h1 _ _ _ (k2.trans k3 fun _ z => z) f3
theorem tE.lst (hz : es.length ≤ 1000) (h : tE T Κ C W (.lst false es) σ H Q) : tLst (tL T Κ C W es) σ H Q := by
  obtain ⟨sx, O, F, ρ, f, h⟩ := h
  refine tL.bind (k := fun ds ρ1 => .ok (.own (.lst (ds.map D.un))) ρ1) sx f h fun ds ρ1 vs H1 O1 k1 f1 hl hd hn h1 => ⟨size1000 (by omega), fun p np => ?_⟩
  obtain ⟨O2, k2, f2, r2⟩ := f1.unTops hl hd
  obtain ⟨k3, f3⟩ := f2.lst np r2
  exact h1 _ _ _ (k2.trans k3 fun _ z => z) f3
theorem tE.dct (h : tE T Κ C W (.dct [] []) σ H Q) : tDNewK σ H Q := by
  obtain ⟨sx, O, F, ρ, f, h⟩ := h
  have h : Fin T W O F H σ (.ok (.own (.dct [] [])) ρ) Q := h
  intro p np
  obtain ⟨f1, k1⟩ := f.own1 (o := .dK []) (d := .dct [] []) (by intro _ e; cases e) np (.dct0 upd_same fun _ => Iff.rfl)
  exact h _ _ _ k1 f1
theorem tE.bin (h : tE T Κ C W (.bin o a b) σ H Q) : tOp (rOp (bop o)) (tO T Κ C W a) (tO T Κ C W b) σ H Q := by
  obtain ⟨sx, O, F, ρ, f, h⟩ := h
  exact operands sx f (FinP2.op h)
theorem tE.sub (h : tE T Κ C W (.sub a b) σ H Q) : tOp rItem (tO T Κ C W a) (tO T Κ C W b) σ H Q := by
  obtain ⟨sx, O, F, ρ, f, h⟩ := h
  refine operands sx f ?_
  have h : Fin T W O F H σ ((pkB2 a (ev Κ C a) b (ev Κ C b) ρ).bind fun xy ρ1 => R.of (plain (itemD xy.1 xy.2)) ρ1) Q := h
  cases q : pkB2 a (ev Κ C a) b (ev Κ C b) ρ with
  | no => rw [q] at h; exact h
  | ex x ρ1 => rw [q] at h; exact h
  | ok d ρ1 =>
    rw [q] at h
    have h : Fin T W O F H σ (R.of (plain (itemD d.1 d.2)) ρ1) Q := h
    intro v w H' O' k f1 p1 p2
    cases e : itemD d.1 d.2 with
    | none => rw [e] at h; exact h.elim
    | some z =>
      rw [e] at h
      cases ho : z.isOwn with
      | true => simp [plain, ho] at h; exact h.elim
      | false =>
        simp only [plain, ho, Bool.false_eq_true, if_false] at h
        exact ⟨T, O', fun _ => True, _, _, z, p1.pkA, p2, e, fun u pu => h u H' O' k (f1.add ho (pu.rep ho))⟩
theorem tE.neg (h : tE T Κ C W (.neg a) σ H Q) : tUn (rU fun i => .int (-i)) (tE T Κ C W a) σ H Q := by
  obtain ⟨sx, O, F, ρ, f, h⟩ := h
  refine tE.bind (k := fun d ρ1 => match d with
    | .int i => .ok (.int (-i)) ρ1
    | _ => .no) sx f h fun d ρ1 v H1 O1 k1 f1 h1 => ?_
  cases d with
  | int i =>
    have := f1.topPk.int
    subst this
    exact ⟨i, rfl, h1 _ H1 O1 (Keep.refl ..) (f1.drop1.add rfl (.int _))⟩
  | _ => exact h1.elim
theorem tE.not (h : tE T Κ C W (.not a) σ H Q) : tNotV (tE T Κ C W a) σ H Q := by
  obtain ⟨sx, O, F, ρ, f, h⟩ := h
  refine tE.bind (k := fun d ρ1 => match d with
    | .bl b => .ok (.bl (!b)) ρ1
    | _ => .no) sx f h fun d ρ1 v H1 O1 k1 f1 h1 => ?_
  cases d with
  | bl i =>
    have := f1.topPk.bl
    subst this
    exact ⟨i, rfl, h1 _ H1 O1 (Keep.refl ..) (f1.drop1.add rfl (.bl _))⟩
  | _ => exact h1.elim
theorem tE.and (h : tE T Κ C W (.and a b) σ H Q) : tAndV (tE T Κ C W a) (tE T Κ C W b) σ H Q := by
  obtain ⟨sx, O, F, ρ, f, h⟩ := h
  refine tE.bind (k := fun d ρ1 => match d with
    | .bl true => ev Κ C b ρ1
    | .bl false => .ok (.bl false) ρ1
    | _ => .no) sx f h fun d ρ1 v H1 O1 k1 f1 h1 => ?_
  cases d with
  | bl i =>
    have := f1.topPk.bl
    subst this
    cases i with
    | true => exact ⟨true, rfl, sx, O1, F, ρ1, f1.drop1, h1⟩
    | false => exact ⟨false, rfl, h1 _ H1 O1 (Keep.refl ..) (f1.drop1.add rfl (.bl _))⟩
  | _ => exact h1.elim
theorem tE.or (h : tE T Κ C W (.or a b) σ H Q) : tOrV (tE T Κ C W a) (tE T Κ C W b) σ H Q := by
  obtain ⟨sx, O, F, ρ, f, h⟩ := h
  refine tE.bind (k := fun d ρ1 => match d with
    | .bl true => .ok (.bl true) ρ1
    | .bl false => ev Κ C b ρ1
    | _ => .no) sx f h fun d ρ1 v H1 O1 k1 f1 h1 => ?_
  cases d with
  | bl i =>
    have := f1.topPk.bl
    subst this
    cases i with
    | false => exact ⟨false, rfl, sx, O1, F, ρ1, f1.drop1, h1⟩
    | true => exact ⟨true, rfl, h1 _ H1 O1 (Keep.refl ..) (f1.drop1.add rfl (.bl _))⟩
  | _ => exact h1.elim
/-- a test -/
def FinB (T : Tab) (W : WX) (O F : AS) (H : Hp) (σ : LSt) (r : R D) (Q : Bool → Hp → Prop) : Prop := match r with
  | .ok (.bl b) ρ' => ∀ H' O', Keep F O H O' H' → FR T O' F H' ρ' σ → Q b H'
  | .ok _ _ => False
  | .ex x ρ' => ∀ cls dx H' O', Keep F O H O' H' → FR T O' F H' ρ' σ → ExR T O' H' cls dx x → W cls dx σ H'
  | .no => False
theorem FinB.step {O O1 F F' : AS} {H1 : Hp} {r : R D} {Q : Bool → Hp → Prop} (k : Keep F O H O1 H1) (s : ∀ b, F b → F' b) (h : FinB T W O F H σ r Q) : FinB T W O1 F' H1 σ r Q := by
  cases r with
  | ok d ρ' => cases d <;> first | exact h | exact fun H' O' k' f => h H' O' (k.trans k' s) (f.less s)
  | ex x ρ' => exact fun c d H' O' k' f e => h c d H' O' (k.trans k' s) (f.less s) e
  | no => exact h
def tTs (T : Tab) (Κ : Nat → Option Cls) (C : Cf) (W : WX) (e : E) : TT := fun σ H Q => SX T σ ∧ ∃ O F ρ, FR T O F H ρ σ ∧ FinB T W O F H σ (ev Κ C e ρ) Q
theorem tTs.val {Q : Bool → Hp → Prop} (h : tTs T Κ C W a σ H Q) : L2.tB (tE T Κ C W a) σ H Q := by
  obtain ⟨sx, O, F, ρ, f, h⟩ := h
  refine ⟨sx, O, F, ρ, f, ?_⟩
  cases e : ev Κ C a ρ with
  | no => rw [e] at h; exact h
  | ex x ρ1 => rw [e] at h; exact h
  | ok d ρ1 =>
    rw [e] at h
    intro v H1 O1 k1 f1
    cases d with
    | bl i =>
      have := f1.topPk.bl
      subst this
      exact ⟨i, rfl, h H1 O1 k1 f1.drop1⟩
    | _ => exact h.elim
theorem tTs.bind {k : D → Env → R D} {Q G : Bool → Hp → Prop} {O F : AS} {ρ : Env} (sx : SX T σ) (f : FR T O F H ρ σ) (h : FinB T W O F H σ ((ev Κ C a ρ).bind k) Q)
    (nb : ∀ d ρ1, (∀ b, d ≠ .bl b) → k d ρ1 = .no)
    (g : ∀ b ρ1 H1 O1, Keep F O H O1 H1 → FR T O1 F H1 ρ1 σ → FinB T W O1 F H1 σ (k (.bl b) ρ1) Q → G b H1) : tTs T Κ C W a σ H G := by
  refine ⟨sx, O, F, ρ, f, ?_⟩
  cases e : ev Κ C a ρ with
  | no => rw [e] at h; exact h
  | ex x ρ1 => rw [e] at h; exact h
  | ok d ρ1 =>
    rw [e] at h
    by_cases hb : ∃ b, d = .bl b
    · obtain ⟨b, rfl⟩ := hb
      exact fun H1 O1 k1 f1 => g b ρ1 H1 O1 k1 f1 (FinB.step k1 (fun _ z => z) h)
    · have h : FinB T W O F H σ (k d ρ1) Q := h
      rw [nb d ρ1 fun b z => hb ⟨b, z⟩] at h
      exact h.elim
theorem tTs.not {Q : Bool → Hp → Prop} (h : tTs T Κ C W (.not a) σ H Q) : tNot (tTs T Κ C W a) σ H Q := by
  obtain ⟨sx, O, F, ρ, f, h⟩ := h
  exact tTs.bind (k := fun d ρ1 => match d with
    | .bl b => .ok (.bl (!b)) ρ1
    | _ => .no) sx f h (fun d ρ1 n => by cases d <;> first | rfl | exact absurd rfl (n _)) fun b ρ1 H1 O1 k1 f1 h1 => h1 H1 O1 (Keep.refl ..) f1
theorem tTs.and {Q : Bool → Hp → Prop} (h : tTs T Κ C W (.and a b) σ H Q) : tAnd (tTs T Κ C W a) (tTs T Κ C W b) σ H Q := by
  obtain ⟨sx, O, F, ρ, f, h⟩ := h
  refine tTs.bind (k := fun d ρ1 => match d with
    | .bl true => ev Κ C b ρ1
    | .bl false => .ok (.bl false) ρ1
    | _ => .no) sx f h (fun d ρ1 n => by cases d <;> first | rfl | exact absurd rfl (n _)) fun b ρ1 H1 O1 k1 f1 h1 => ?_
  cases b with
  | true => exact ⟨sx, O1, F, ρ1, f1, h1⟩
  | false => exact h1 H1 O1 (Keep.refl ..) f1
theorem tTs.or {Q : Bool → Hp → Prop} (h : tTs T Κ C W (.or a b) σ H Q) : tOr (tTs T Κ C W a) (tTs T Κ C W b) σ H Q := by
  obtain ⟨sx, O, F, ρ, f, h⟩ := h
  refine tTs.bind (k := fun d ρ1 => match d with
    | .bl true => .ok (.bl true) ρ1
    | .bl false => ev Κ C b ρ1
    | _ => .no) sx f h (fun d ρ1 n => by cases d <;> first | rfl | exact absurd rfl (n _)) fun b ρ1 H1 O1 k1 f1 h1 => ?_
  cases b with
  | false => exact ⟨sx, O1, F, ρ1, f1, h1⟩
  | true => exact h1 H1 O1 (Keep.refl ..) f1
theorem tTs.ite {Q : Bool → Hp → Prop} (h : tTs T Κ C W (.ite c a b) σ H Q) : tTs T Κ C W c σ H fun d H1 => if d = true then tTs T Κ C W a σ H1 Q else tTs T Κ C W b σ H1 Q := by
  obtain ⟨sx, O, F, ρ, f, h⟩ := h
  refine tTs.bind (k := fun d ρ1 => match d with
    | .bl true => ev Κ C a ρ1
    | .bl false => ev Κ C b ρ1
    | _ => .no) sx f h (fun d ρ1 n => by cases d <;> first | rfl | exact absurd rfl (n _)) fun d ρ1 H1 O1 k1 f1 h1 => ?_
  cases d with
  | true => exact ⟨sx, O1, F, ρ1, f1, h1⟩
  | false => exact ⟨sx, O1, F, ρ1, f1, h1⟩
theorem tE.ite (h : tE T Κ C W (.ite c a b) σ H Q) : tIf (tTs T Κ C W c) (tE T Κ C W a) (tE T Κ C W b) σ H Q := by
  obtain ⟨sx, O, F, ρ, f, h⟩ := h
  have h : Fin T W O F H σ ((ev Κ C c ρ).bind fun d ρ1 => match d with
    | .bl true => ev Κ C a ρ1
    | .bl false => ev Κ C b ρ1
    | _ => .no) Q := h
  refine ⟨sx, O, F, ρ, f, ?_⟩
  cases e : ev Κ C c ρ with
  | no => rw [e] at h; exact h
  | ex x ρ1 => rw [e] at h; exact h
  | ok d ρ1 =>
    rw [e, R.bind_ok] at h
    cases d with
    | bl i =>
      intro H1 O1 k1 f1
      cases i with
      | true => exact ⟨sx, O1, F, ρ1, f1, Fin.step k1 (fun _ z => z) h⟩
      | false => exact ⟨sx, O1, F, ρ1, f1, Fin.step k1 (fun _ z => z) h⟩
    | _ => exact h.elim
theorem pt_ifExp {x y z : Expr} {pos : Pos} {tc ta tb : TT} (hc : PT X x tc) (ha : PT X y ta) (hb : PT X z tb) : PT X (.IfExp x y z pos) (fun σ H Q => tc σ H fun d H1 => if d = true then ta σ H1 Q else tb σ H1 Q) := by
  refine ⟨fun pins s σ H Q I h => ?_⟩
  rw [arm_isTrue_IfExp]
  refine wpAny_bind (thn (hc.run pins s σ H _ I h) fun d s1 ⟨H1, I1, q1⟩ => ?_)
  cases d with
  | true => exact ha.run pins s1 σ H1 Q I1 q1
  | false => exact hb.run pins s1 σ H1 Q I1 q1
theorem tE.cmp2 {p q : CO} (h : tE T Κ C W (.cmp2 p q a b c) σ H Q) : tChain (rOp (cop p)) (rOp (cop q)) (tE T Κ C W a) (tE T Κ C W b) (tE T Κ C W c) σ H Q := by
  obtain ⟨sx, O, F, ρ, f, h⟩ := h
  refine tE.bind (k := fun x ρ1 => (ev Κ C b ρ1).bind fun y ρ2 => match cop p x.un y.un with
    | some (.bl true) => (ev Κ C c ρ2).bind fun z ρ3 => R.of (cop q y.un z.un) ρ3
    | some (.bl false) => .ok (.bl false) ρ2
    | _ => .no) sx f h fun x ρ1 vx H1 O1 k1 f1 h1 => ?_
  have hl := f1.top
  obtain ⟨O2, k2, f2, rx⟩ := f1.unTop hl
  obtain ⟨F2, f3, s3, bk⟩ := f2.frame hl
  have h2 := Fin.step k2 (fun _ z => z) h1
  refine tE.bind (k := fun y ρ2 => match cop p x.un y.un with
    | some (.bl true) => (ev Κ C c ρ2).bind fun z ρ3 => R.of (cop q y.un z.un) ρ3
    | some (.bl false) => .ok (.bl false) ρ2
    | _ => .no) sx f3 (Fin.step (Keep.refl ..) s3 h2) fun y ρ2 vy H3 O3 k3 f4 h3 => ?_
  have hl2 := f4.top
  obtain ⟨O4, k4, f5, ry⟩ := f4.unTop hl2
  have rx4 := Rep.keep k4.sh _ _ (Rep.keep k3.sh _ _ rx)
  have h4 := Fin.step k4 (fun _ z => z) h3
  cases e : cop p x.un y.un with
  | none => rw [e] at h4; exact h4.elim
  | some d =>
    rw [e] at h4
    cases d with
    | bl i =>
      have un_un : ∀ d : D, Rep T O4 H3 vy d.un → True := fun _ _ => trivial
      refine ⟨T, O4, F2, ρ2 ++ [some y.un], σ ++ [some vy], x.un, y.un, .bl i, f5, .inr rx4, .inr ry, e, fun v H5 O5 k5 f6 => ?_⟩
      have pv := f6.topPk.bl
      subst pv
      refine ⟨i, rfl, ?_⟩
      have f7 := f6.drop1
      have h5 := Fin.step k5 (fun _ z => z) h4
      cases i with
      | false => exact h5 _ H5 O5 (Keep.refl ..) (f7.drop1.add rfl (.bl _))
      | true =>
        have ry5 := Rep.keep k5.sh _ _ ry
        refine tE.bind (k := fun z ρ3 => R.of (cop q y.un z.un) ρ3) sx f7.drop1 h5 fun z ρ3 vz H6 O6 k6 f8 h6 => ?_
        obtain ⟨O7, k7, f9, rz⟩ := f8.unTop f8.top
        have h7 := Fin.step k7 (fun _ z => z) h6
        cases e2 : cop q y.un z.un with
        | none => rw [e2] at h7; exact h7.elim
        | some w =>
          rw [e2] at h7
          exact ⟨T, O7, F2, ρ3, σ, y.un, z.un, w, f9.drop1, .inr (Rep.keep k7.sh _ _ (Rep.keep k6.sh _ _ ry5)), .inr rz, e2, fun u H8 O8 k8 f10 => h7 u H8 O8 k8 f10⟩
    | _ => exact h4.elim
end
end Vm
/-! #### part Ve8 -/
namespace Vm
open PySem PySem.Spec PyProof.Rows L2
section
variable {T : Tab} {W : WX} {σ : L2.St} {H : Hp} {Q : VK} {Κ : Nat → Option Cls} {C : Cf} {a b c : E} {es : List E} {X : Cx}
/-- a slice's part -/
def tOo (T : Tab) : Option E → TO
  | none => tNoPart
  | some q => tPart (tQ T q)
theorem evO_tO {O F : AS} {ρ : Env} {lo : Option E} {l : Option Int} {K : Option Int → Hp → Prop} (sx : SX T σ) (f : FR T O F H ρ σ) (e : evO Κ C lo ρ = some l) (h : ∀ H', Grow H H' → K l H') : tOo T lo σ H K := by
  cases lo with
  | none =>
    have e : (some none : Option (Option Int)) = some l := e
    cases e
    exact h H (Grow.refl _)
  | some q =>
    refine ⟨sx, O, F, ρ, f, ?_⟩
    have e : (match qe q ρ with
      | some (.int i) => some (some i)
      | _ => none) = some l := e
    cases q1 : qe q ρ with
    | none => rw [q1] at e; cases e
    | some d =>
      rw [q1] at e
      intro v H' g n r
      cases r with
      | int i =>
        cases e
        exact ⟨i, rfl, h H' g⟩
      | _ => cases e
theorem tE.slc {lo hi : Option E} (h : tE T Κ C W (.slc a lo hi) σ H Q) : tSl (rSl sliceD) (tO T Κ C W a) (tOo T lo) (tOo T hi) σ H Q := by
  obtain ⟨sx, O, F, ρ, f, h⟩ := h
  refine operand sx f ?_
  have h : Fin T W O F H σ ((pkB a (ev Κ C a) ρ).bind fun x ρ1 => match evO Κ C lo ρ1 with
    | some l => match evO Κ C hi ρ1 with
      | some h => R.of (sliceD x l h) ρ1
      | none => .no
    | none => .no) Q := h
  cases q : pkB a (ev Κ C a) ρ with
  | no => rw [q] at h; exact h
  | ex x ρ1 => rw [q] at h; exact h
  | ok d ρ1 =>
    rw [q, R.bind_ok] at h
    intro v H1 O1 k1 f1 p1
    cases e1 : evO Κ C lo ρ1 with
    | none => rw [e1] at h; exact h.elim
    | some l =>
      cases e2 : evO Κ C hi ρ1 with
      | none => rw [e1, e2] at h; exact h.elim
      | some u =>
        rw [e1, e2] at h
        refine evO_tO sx f1 e1 fun H2 g2 => ?_
        obtain ⟨f2, k2⟩ := f1.growG g2
        refine evO_tO sx f2 e2 fun H3 g3 => ?_
        obtain ⟨f3, k3⟩ := f2.growG g3
        have h : Fin T W O F H σ (R.of (sliceD d l u) ρ1) Q := h
        cases e : sliceD d l u with
        | none => rw [e] at h; exact h.elim
        | some z =>
          rw [e] at h
          exact ⟨T, O1, F, ρ1, σ, d, z, f3, (p1.grow g2).grow g3, e, fun w H4 O4 k4 f4 => h w H4 O4 (((k1.trans k2 fun _ z => z).trans k3 fun _ z => z).trans k4 fun _ z => z) f4⟩
theorem tE.rev (h : tE T Κ C W (.rev a) σ H Q) : tRev (tO T Κ C W a) σ H Q := by
  obtain ⟨sx, O, F, ρ, f, h⟩ := h
  have q : tO T Κ C W a σ H (fun x H2 => r1 revD x H2 Q) := operand sx f (FinP.op h)
  exact q
theorem tE.bi {b' : Bi} (h : tE T Κ C W (.bi b' a) σ H Q) : tCB (rC1 (b1 b')) (tCons (tO T Κ C W a) tNil) σ H Q := by
  obtain ⟨sx, O, F, ρ, f, h⟩ := h
  have q : tO T Κ C W a σ H (fun x H2 => rC1 (b1 b') [x] H2 Q) := operand sx f (by
    have := FinP.op (sem := b1 b') h
    cases e : pkB a (ev Κ C a) ρ with
    | no => rw [e] at this; exact this
    | ex x ρ1 => rw [e] at this; exact this
    | ok d ρ1 => rw [e] at this; exact fun v H' O' k f p => ⟨v, rfl, this v H' O' k f p⟩)
  exact q
theorem tE.bi2 {b' : Bi} (h : tE T Κ C W (.bi2 b' a c) σ H Q) : tCB (rC2 (b2 b')) (tCons (tO T Κ C W a) (tCons (tO T Κ C W c) tNil)) σ H Q := by
  obtain ⟨sx, O, F, ρ, f, h⟩ := h
  have q : tO T Κ C W a σ H fun x H1 => tO T Κ C W c σ H1 fun y H2 => rC2 (b2 b') [x, y] H2 Q := operands sx f (by
    have := FinP2.op (sem := b2 b') h
    cases e : pkB2 a (ev Κ C a) c (ev Κ C c) ρ with
    | no => rw [e] at this; exact this
    | ex x ρ1 => rw [e] at this; exact this
    | ok d ρ1 => rw [e] at this; exact fun v w H' O' k f p1 p2 => ⟨v, w, rfl, this v w H' O' k f p1 p2⟩)
  exact q
theorem Pk.kd {O : AS} {x : V} {d : D} {k : Kd} (p : Pk T O H x d) (e : kdOf d = some k) : ∃ u, kdV T k = some u := by
  cases d with
  | ins c gs vs =>
    cases e
    obtain ⟨a, Ca, dx, fs, rfl, hc, _⟩ := PkA.ins (f := 0) p.pkA
    exact ⟨.ref Ca, by simp [kdV, hc]⟩
  | non | bl _ | int _ | str _ | tup _ | lst _ | dct _ _ => cases e; exact ⟨_, rfl⟩
  | _ => cases e
theorem tE.isi {G : Gt} {k : Nat} {Φ : Nat → List D → R D} {t : Ty} {cv : V} {w : Value} (g : Fct G T k Φ X) (ha : t ∈ G.asks) (ht : tyV T t = some w) (hc : ClsV cv w) (h : tE T Κ C W (.isi a [t]) σ H Q) : tCB (rIs X.K t) (tCons (tO T Κ C W a) (tCons (tC cv) tNil)) σ H Q := by
  obtain ⟨sx, O, F, ρ, f, h⟩ := h
  have q : tO T Κ C W a σ H (fun x H2 => rIs X.K t [x, cv] H2 Q) := operand sx f (by
    have h : Fin T W O F H σ ((pkB a (ev Κ C a) ρ).bind fun x ρ1 => R.of ((isAny Κ x [t]).map .bl) ρ1) Q := h
    cases e : pkB a (ev Κ C a) ρ with
    | no => rw [e] at h; exact h
    | ex x ρ1 => rw [e] at h; exact h
    | ok d ρ1 =>
      rw [e, R.bind_ok] at h
      intro v H1 O1 k1 f1 p1
      have ne : ∀ c vs, d ≠ .exc c vs := fun c vs z => by
        subst z
        rcases p1 with ⟨A, w⟩ | r
        · cases w
        · cases r
      have et : isTy Κ d t = (kdOf d).map fun k => isKd k t := by
        unfold isTy
        cases d <;> first | rfl | exact absurd rfl (ne _ _)
      have ea : isAny Κ d [t] = (kdOf d).map fun k => isKd k t := by
        unfold isAny
        rw [et]
        unfold isAny
        cases kdOf d <;> simp
      rw [ea] at h
      cases ek : kdOf d with
      | none => rw [ek] at h; exact h.elim
      | some kd =>
        rw [ek] at h
        obtain ⟨u, hu⟩ := p1.kd ek
        exact ⟨T, O1, d, v, kd, cv, u, w, p1, ek, fun c Ca dx fs a h1 _ => g.ins c Ca h1, rfl, hc, ht, hu, g.kit kd u t w hu ha ht, h _ H1 O1 k1 (f1.add rfl (.bl _))⟩)
  exact q
/-- f(..) -/
theorem tE.call {f n : Nat} (hn : es.length = n) (h : tE T Κ C W (.call f es) σ H Q) : tCallS (spF T C.Φ f n) (WE W) (tA T Κ C W es) σ H Q := by
  obtain ⟨sx, O, F, ρ, fr, h⟩ := h
  refine ⟨sx, O, F, ρ, fr, ?_⟩
  have h : Fin T W O F H σ ((evA Κ C es ρ).bind fun as ρ1 => calls C.Φ f as ρ1) Q := h
  have ln : ∀ (es : List E) (ρ ρ' : Env) (as : List Arg), evA Κ C es ρ = .ok as ρ' → as.length = es.length := by
    intro es
    induction es with
    | nil => intro ρ ρ' as e; have e : R.ok [] ρ = R.ok as ρ' := e; cases e; rfl
    | cons x xs ih =>
      intro ρ ρ' as e
      rw [evA_cons] at e
      cases hr : recvOf x with
      | some i =>
        rw [hr] at e
        dsimp only at e
        split at e
        · cases q : evA Κ C xs ρ with
          | no => rw [q] at e; cases e
          | ex y r => rw [q] at e; cases e
          | ok as2 ρ2 => rw [q] at e; cases e; simp [ih _ _ _ q]
        · cases e
      | none =>
        rw [hr] at e
        dsimp only at e
        cases q0 : ev Κ C x ρ with
        | no => rw [q0] at e; cases e
        | ex y r => rw [q0] at e; cases e
        | ok d ρ1 =>
          rw [q0, R.bind_ok] at e
          cases q : evA Κ C xs ρ1 with
          | no => rw [q] at e; cases e
          | ex y r => rw [q] at e; cases e
          | ok as2 ρ2 => rw [q] at e; cases e; simp [ih _ _ _ q]
  cases q : evA Κ C es ρ with
  | no => rw [q] at h; exact h
  | ex x ρ1 => rw [q] at h; exact h
  | ok as ρ1 =>
    rw [q, R.bind_ok] at h
    intro vs H1 O1 k1 f1 hd hs
    exact calls_sp (by rw [ln es ρ ρ1 as q, hn]) f1 hd hs (Fin.step k1 (fun _ z => z) h)
/-- C(..) -/
def tMakeS (Ca : Addr) (sp : Sp) (E : L2.St → XK) (t : TA) : TE := fun σ H Q => t σ H fun vs H1 => ∀ x dx, H1 x = none → H1 dx = none → dx ≠ x →
  sp (.ref x :: vs) (upd (upd H1 dx (.own x)) x (.ins Ca dx [])) (fun v H2 => v = .non ∧ Q (.ref x) H2) (E σ)
theorem tE.new {cl f n : Nat} {kc : Cls} {Ca : Addr} (hk : Κ cl = some kc) (hx : kc.exc = false) (hi : kc.init = some f) (hn : es.length + 1 = n) (hC : T.cls cl = some Ca) (h : tE T Κ C W (.new cl es) σ H Q) : tMakeS Ca (spF T C.Φ f n) (WE W) (tL T Κ C W es) σ H Q := by
  obtain ⟨sx, O, F, ρ, fr, h⟩ := h
  have h : Fin T W O F H σ (match Κ cl with
    | some k => (evL Κ C es ρ).bind fun ds ρ1 => if k.exc then .ok (.exc cl (ds.map D.un)) ρ1 else match k.init with
      | some f => match C.Φ f (.own (.ins cl [] []) :: ds) with
        | .ok .non (some d :: _) => .ok d ρ1
        | .ex e _ => .ex e ρ1
        | _ => .no
      | none => .no
    | none => .no) Q := h
  rw [hk] at h
  have h : Fin T W O F H σ ((evL Κ C es ρ).bind fun ds ρ1 => match C.Φ f (.own (.ins cl [] []) :: ds) with
        | .ok .non (some d :: _) => .ok d ρ1
        | .ex e _ => .ex e ρ1
        | _ => .no) Q := by
    simpa only [hx, hi, if_false, Bool.false_eq_true] using h
  refine tL.bind sx fr h fun ds ρ1 vs H1 O1 k1 f1 hl hd hn2 h1 => ?_
  intro x dx nx ndx ne
  obtain ⟨f2, k2⟩ := f1.grow (p := dx) (o := .own x) ndx
  have nx2 : upd H1 dx (.own x) x = none := by rw [upd_ne (Ne.symm ne)]; exact nx
  obtain ⟨f3, k3⟩ := f2.own1 (p := x) (o := .ins Ca dx []) (d := .ins cl [] []) (by intro _ e; cases e) nx2 (.ins (gs := []) hC upd_same rfl (.nil fun _ z => z) (fun z => z) fun b => (or_false _).symm ▸ Iff.rfl)
  have f4 := (f3.rot hl (by simpa using hd)).swap hl
  have f4 : FR T _ F _ ((D.own (.ins cl [] []) :: ds).map some ++ ρ1) ((V.ref x :: vs).map some ++ σ) := f4
  obtain ⟨F', f5, s5, bk⟩ := f4.frame (by simp; omega)
  have h2 := Fin.step (k2.trans k3 fun _ z => z) (fun _ z => z) h1
  refine ⟨by simp; omega, _, F', _, by simp; omega, f5, ?_⟩
  unfold FinC
  cases q : C.Φ f (.own (.ins cl [] []) :: ds) with
  | no => rw [q] at h2; exact h2.elim
  | ex e os =>
    rw [q] at h2
    intro cls dy H' O' k f6 xr
    have f7 := bk O' H' _ _ k f6
    exact h2 cls dy H' O' (k.less s5) ((f7.swap f6.length).front hl) xr
  | ok d os =>
    rw [q] at h2
    intro v H' O' k f6
    cases d with
    | non =>
      cases os with
      | nil => exact h2.elim
      | cons o os =>
        cases o with
        | none => exact h2.elim
        | some d =>
          have f7 := bk O' H' _ _ k f6
          have f8 := f7.swap f6.length
          have f9 : FR T O' F H' ((ρ1 ++ [some d]) ++ (os ++ [some .non])) ((σ ++ [some (.ref x)]) ++ (vs.map some ++ [some v])) := by simpa using f8
          exact ⟨f6.topPk.non, h2 _ H' O' (k.less s5) (f9.front (by simp [hl]))⟩
    | _ => exact h2.elim
end
end Vm
/-! #### part Ve9 -/
namespace Vm
open PySem PySem.Spec PyProof.Rows L2
section
variable {prog : Program} {w : World} {A : Around} {E : Value → Shared → Prop} {s : Shared} {K : PySem.W.Frag} {x C L f : Addr} {h₀ : Heap} {m : PySem.Str → Option Value} {ox : Obj} {od : Option Obj} {b tb : Value}
/-- what an own == must tell: a flag -/
def FlagBack (Q : Bool → Shared → Prop) (v : Value) (s' : Shared) : Prop := ∃ r, v = .bool r ∧ Q r s'
theorem obj_ne {Q : Bool → Shared → Prop} (hu : A.units + 1 < cLine) (X : K.In s.heap) (I : PySem.W.InstAt s.heap x ox C od) (hs : PySem.W.findIn K (.ref C) "__eq__" = some (some (.ref f))) (hf : PySem.W.isFn K (.ref f) = true)
    (ho : PySem.W.subIn K (.ref C) (.type "object") = some true) (h : wpAny (model prog w) A.in1 (call (.ref f) [.ref x, b]) (FlagBack Q) E s) :
    wpAny (model prog w) A (call (.builtin "object.__ne__") [.ref x, b]) (fun v s' => ∃ r, v = .bool (!r) ∧ Q r s') E s := by
  have sub : PySem.W.Looks (model prog w) s.heap (isInstance (.ref x) (.type "object")) true := (I.type (M := model prog w)).andThen (PySem.W.looks_subIn X ho)
  refine wpAny_call (codeAny_call_builtin PySem.F.cmp_object.ne.plain PySem.F.cmpEntry_ne ?_)
  refine PySem.W.check_slot PySem.F.cmpKind_ne PySem.F.cmpSplit_ne sub (PySem.F.cmpArgs_ne _ _) ?_
  unfold Builtin.«object.__ne__»
  refine wpAny_bind (wpAny_of_eq (a := ((Value.ref x : Value), [b])) (by first | rfl | (simp only [slotArgs]; rfl)) ?_)
  refine wpAny_bind (wpAny_cRoomFor (by show A.units + 1 < cLine; exact hu) (wpAny_bind (PySem.W.ifBound_K X I hs hf (wpAny_mono h (fun v s' hv => ?_) fun _ _ e => e))))
  obtain ⟨r, rfl, q⟩ := hv
  exact wpAny_bind (wpAny_truthy_bool (wpAny_pure ⟨r, rfl, q⟩))
theorem try_ne {Q : Bool → Shared → Prop} (hu : A.units + 1 < cLine) (X : K.In s.heap) (I : PySem.W.InstAt s.heap x ox C od) (hs : PySem.W.findIn K (.ref C) "__eq__" = some (some (.ref f))) (hf : PySem.W.isFn K (.ref f) = true)
    (ho : PySem.W.subIn K (.ref C) (.type "object") = some true) (hn : PySem.W.findIn K (.ref C) "__ne__" = some (some (.builtin "object.__ne__"))) (h : wpAny (model prog w) A.in1 (call (.ref f) [.ref x, b]) (FlagBack Q) E s) :
    wpAny (model prog w) A (tryCompare (.ref x) "__ne__" b) (fun r s' => ∃ v, r = some (.bool (!v)) ∧ Q v s') E s := by
  have fin : wpAny (model prog w) A (call (.builtin "object.__ne__") ([.ref x] ++ [b]) >>= fun v => pure (some v)) (fun r s' => ∃ v, r = some (.bool (!v)) ∧ Q v s') E s :=
    wpAny_bind (wpAny_mono (obj_ne hu X I hs hf ho h) (fun v s' ⟨r, e, q⟩ => wpAny_pure ⟨r, by rw [e], q⟩) fun _ _ e => e)
  unfold tryCompare
  refine wpAny_bind (wpAny_mono (Q := fun r s' => ∃ v, r = some (.bool (!v)) ∧ Q v s') ?_ (fun r s' ⟨v, e, q⟩ => by subst e; exact wpAny_pure ⟨v, rfl, q⟩) fun _ _ e => e)
  unfold callSpecialIfBound? bindSpecialIfBound?
  refine wpAny_holding (wpAny_bind (wpAny_bind (wpAny_bind (I.type.here ((PySem.W.looks_findIn X hn).here (wpAny_bind (wpAny_askSetting (wpAny_ite ?_))))))))
  split
  · exact wpAny_bind (wpAny_of_eq (PySem.F.cmp_object.ne.bind _) (wpAny_pure (by exact fin)))
  · exact wpAny_tryCatch (wpAny_bind (wpAny_of_eq (PySem.F.cmp_object.ne.bind _) (wpAny_pure (by exact fin))))
theorem rich_ne {Q : Value → Shared → Prop} (hu : A.units + 1 < cLine) (X : K.In s.heap) (I : PySem.W.InstAt s.heap x ox C od) (hb : PySem.W.Looks (model prog w) s.heap (typeOf b) tb) (nf : PySem.W.notFirst K C tb = true) (hs : PySem.W.findIn K (.ref C) "__eq__" = some (some (.ref f))) (hf : PySem.W.isFn K (.ref f) = true)
    (ho : PySem.W.subIn K (.ref C) (.type "object") = some true) (hn : PySem.W.findIn K (.ref C) "__ne__" = some (some (.builtin "object.__ne__"))) (h : wpAny (model prog w) A.in1 (call (.ref f) [.ref x, b]) (FlagBack fun r s' => Q (.bool (!r)) s') E s) :
    wpAny (model prog w) A (richCompare .NotEq (.ref x) b) Q E s := by
  have one : wpAny (model prog w) A (tryCompare (.ref x) (cmpInfo .NotEq).2.1 b) (fun r s' => ∃ v, r = some (.bool (!v)) ∧ Q (.bool (!v)) s') E s := try_ne hu X I hs hf ho hn h
  unfold richCompare; simp only [oneThing_ref]
  refine wpAny_holding (wpAny_bind (wpAny_cRoomFor (by omega) (wpAny_bind (I.type.here (wpAny_bind (hb.here ?_))))))
  have fin : ∀ {k : Option Value → Sem Value}, (∀ v, k (some (.bool v)) = pure (.bool v)) → wpAny (model prog w) A (tryCompare (.ref x) (cmpInfo .NotEq).2.1 b >>= k) Q E s := fun {k} hk =>
    wpAny_bind (wpAny_mono one (fun r s' ⟨v, e, q⟩ => by subst e; rw [hk]; exact wpAny_pure q) fun _ _ e => e)
  split
  · rename_i q
    have e : PySem.W.subIn K tb (.ref C) = some false := (Bool.or_eq_true_iff.mp nf).elim (fun e => by rw [beq_iff_eq.mp e] at q; simp at q) fun e => beq_iff_eq.mp e
    refine wpAny_bind ((PySem.W.looks_subIn X e).here ?_); simp only [Bool.false_eq_true, if_false]
    exact fin fun v => rfl
  · refine wpAny_bind (wpAny_pure ?_); simp only [Bool.false_eq_true, if_false]
    exact fin fun v => rfl
end
section
variable {X : Cx} {k : Nat} {T : Tab} {W : WX} {σ : L2.St} {H : Hp} {Q : VK} {Κ : Nat → Option Cls} {C : Cf} {a b : E}
/-- == of an instance: its own -/
def rEqI (X : Cx) (k : Nat) (neg : Bool) : R2 := fun x y H Q => ∃ a Ca dx fs f fd ps sp ty, x = .ref a ∧ H a = some (.ins Ca dx fs) ∧ EqC X.K Ca f ∧ FnG X.prog X.w X.K X.mg X.base k f fd ps sp ∧ Binds X.K fd ps [] ∧ TyX X.K H y ty ∧ PySem.W.notFirst X.K Ca ty = true ∧
  sp [x, y] H (fun v H' => ∃ r, v = .bl r ∧ Q (.bl (if neg then !r else r)) H') (fun _ _ _ => False)
theorem op_eqI (hr : Room (k + 1) X.A) (hg : X.A.guards = some []) (neg : Bool) : OpR X (compareOp (if neg then .NotEq else .Eq)) (rEqI X k neg) := by
  rintro pins s σ H x y v u Q I rx ry ⟨a, Ca, dx, fs, f, fd, ps, sp, ty, rfl, ha, ec, F, hb, hty, nf, hsp⟩
  cases rx
  obtain ⟨mA, J, _⟩ := ins_get I.hok ha
  obtain ⟨od, J, _⟩ := J.look
  obtain ⟨P, Z, hp, _⟩ := kit_of I ry hty
  have lt := Z.ty (model X.prog X.w) s.heap I.kIn hp
  have run : ∀ A : Around, Room k A → A.guards = some [] → A.frames = X.A.frames → wpAny (model X.prog X.w) A (call (.ref f) [.ref a, u]) (FlagBack fun r s' => EP X pins σ Q (.bool (if neg then !r else r)) s') X.xe s := fun A hr' hg' hfr => by
    have e0 : Env0 X.prog X.w X.K X.mg X.base A X.stack s H := let e := I.env0; ⟨by rw [hfr]; exact e.frames, e.mod, e.bs, e.bsz, e.funs, e.frf, e.hok, e.bare⟩
    have r2 : Vals [V.ref a, y] [Value.ref a, u] := .cons rfl (.cons ry .nil)
    have hl := F.len _ _ _ _ hsp
    have bd := hb s [.ref a, u] I.kIn (by simpa using hl)
    rw [List.append_nil] at bd
    refine wpAny_call (codeAny_mono (F.run A X.stack s H ⟨[.ref a, u], []⟩ [.ref a, u] [.ref a, y] _ _ hg' hr' e0 bd r2 hsp) fun res s' hq => ?_)
    match res, hq with
    | .error e, hq =>
      obtain ⟨_, _, _, _, _, _, _, _, _, _, _, _, hE⟩ := hq
      exact hE.elim
    | .ok (.ret z), hq =>
      obtain ⟨vz, H', I', rz, r, e, q⟩ := I.after hq
      subst e
      cases rz
      exact ⟨r, rfl, .bl _, H', I', rfl, q⟩
    | .ok .next, hq => exact False.elim hq
    | .ok .brk, hq => exact False.elim hq
    | .ok .cont, hq => exact False.elim hq
  cases neg with
  | false =>
    obtain ⟨m, hF⟩ := I.fr
    refine PySem.W.cmp_K (op := .Eq) hr.units0 hF I.ok.mod.kin J lt nf ec.at_ ec.fn (thn (run X.A (hr.mono (by omega)) hg rfl) fun z s' ⟨r, e, q⟩ => ?_)
    subst e
    exact q
  | true =>
    exact rich_ne (by have := hr.un; omega) I.kIn J lt nf ec.at_ ec.fn ec.ob ec.ne (run X.A.in1 hr.in1 hg rfl)
end
end Vm
/-! #### part Vea -/
namespace Vm
open PySem PySem.Spec PyProof.Rows L2
section
variable {X : Cx} {k : Nat} {G : Gt} {T : Tab} {W : WX} {σ : L2.St} {H : Hp} {Q : VK} {C : Cf} {a b e : E} {es : List E}
def rCmp (X : Cx) (k : Nat) (o : CO) : R2 := fun x y H Q => rOp (cop o) x y H Q ∨ (o = .eq ∧ rEqI X k false x y H Q) ∨ (o = .ne ∧ rEqI X k true x y H Q)
theorem op_cmp (hu : X.A.units + 200 < cLine) (o : CO) (hr : Room (k + 1) X.A) (hg : X.A.guards = some []) : OpR X (compareOp (coOf o)) (rCmp X k o) := by
  rintro pins s σ H x y v u Q I rx ry (h | ⟨rfl, h⟩ | ⟨rfl, h⟩)
  · exact cop_ok (by omega) o pins s σ H x y v u Q I rx ry h
  · exact op_eqI hr hg false pins s σ H x y v u Q I rx ry h
  · exact op_eqI hr hg true pins s σ H x y v u Q I rx ry h
theorem FR.views {O F : AS} {ρ : Env} {σ : LSt} (hx : T.ξ = none) {dx dy : D} {x y : V} (p : Pk T O H x dx) (q : Pk T O H y dy) (n1 : dx.isOwn = false) (n2 : dy.isOwn = false) : FR T emp emp H ([dx, dy].map some) ([x, y].map some) := by
  refine ⟨fun _ _ => False, rfl, fun i d e => ?_, fun _ _ z => z.elim, fun _ _ _ _ z => z.elim, fun _ z => z, fun _ z => z.elim, fun z e => by rw [hx] at e; cases e⟩
  match i, e with
  | 0, e => cases e; exact ⟨x, rfl, .inr ⟨n1, p.view⟩⟩
  | 1, e => cases e; exact ⟨y, rfl, .inr ⟨n2, q.view⟩⟩
  | i + 2, e => simp at e
theorem eqI_ok {O F : AS} {ρ : Env} {neg : Bool} {c : Nat} {gs : List Nat} {vs : List D} {dy : D} {x y : V} (g : Fct G T k C.Φ X) (hx : T.ξ = none) (f : FR T O F H ρ σ) (p : Pk T O H x (.ins c gs vs)) (q : Pk T O H y dy)
    (h : Fin T W O F H σ (eqI G.Κ C.Φ neg c (.ins c gs vs) dy ρ) Q) : rEqI X k neg x y H Q := by
  unfold eqI at h
  cases e : (G.Κ c).bind Cls.eq with
  | none => rw [e] at h; exact h.elim
  | some fq =>
    rw [e] at h
    obtain ⟨kc, hk, he⟩ := Option.bind_eq_some_iff.mp e
    dsimp only at h
    split at h
    · exact h.elim
    · rename_i hn
      simp only [Bool.or_eq_true, Option.isNone_iff_eq_none, not_or, Bool.not_eq_true] at hn
      obtain ⟨no, nk⟩ := hn
      cases ek : kdOf dy with
      | none => exact absurd ek nk
      | some kd =>
        obtain ⟨a, Ca, dx, fs, rfl, hc, ha, _⟩ := PkA.ins (f := 0) p.pkA
        obtain ⟨har, fa, hfa, ec⟩ := g.eqs c Ca kc fq hc hk he
        obtain ⟨fd, ps, F1, hl, bd⟩ := g.fns fq fa hfa
        obtain ⟨u, hu⟩ := q.kd ek
        refine ⟨a, Ca, dx, fs, fa, fd, ps, _, u, rfl, ha, ec, F1, bd, q.tyx (fun c C dx fs a h1 _ => g.ins c C h1) ek hu, g.nf c Ca kd u hc hu, ?_⟩
        refine ⟨by rw [har]; rfl, emp, emp, [.ins c gs vs, dy], by rw [har]; rfl, FR.views (O := O) (F := F) (ρ := ρ) (σ := σ) hx p q rfl no, ?_⟩
        unfold FinC
        cases r : C.Φ fq [.ins c gs vs, dy] with
        | no => rw [r] at h; exact h.elim
        | ex z os => rw [r] at h; exact h.elim
        | ok d os =>
          rw [r] at h
          cases d with
          | bl bb =>
            intro v H' O' k1 f1
            have e1 := f1.topPk.bl
            subst e1
            have gr : Grow H H' := fun a o e t => (k1.sh a o e t fun z => z).1
            obtain ⟨f2, k2⟩ := f.growG gr
            exact ⟨bb, rfl, h _ H' O k2 (f2.add rfl (.bl _))⟩
          | _ => exact h.elim
theorem tE.cmp {o : CO} (g : Fct G T k C.Φ X) (hx : T.ξ = none) (h : tE T G.Κ C W (.cmp o a b) σ H Q) : tOp (rCmp X k o) (tO T G.Κ C W a) (tO T G.Κ C W b) σ H Q := by
  obtain ⟨sx, O, F, ρ, f, h⟩ := h
  refine operands sx f ?_
  have h : Fin T W O F H σ ((pkB2 a (ev G.Κ C a) b (ev G.Κ C b) ρ).bind fun xy ρ1 => cmpV G.Κ C.Φ o xy.1 xy.2 ρ1) Q := h
  cases q : pkB2 a (ev G.Κ C a) b (ev G.Κ C b) ρ with
  | no => rw [q] at h; exact h
  | ex x ρ1 => rw [q] at h; exact h
  | ok d ρ1 =>
    rw [q, R.bind_ok] at h
    intro v w H' O' k1 f1 p1 p2
    have h := Fin.step (F' := F) k1 (fun _ z => z) h
    have data : Fin T W O' F H' σ (R.of (cop o d.1 d.2) ρ1) Q → rCmp X k o v w H' Q := fun h => by
      cases e : cop o d.1 d.2 with
      | none => rw [e] at h; exact h.elim
      | some z =>
        rw [e] at h
        exact .inl ⟨T, O', F, ρ1, σ, _, _, z, f1, p1, p2, e, fun u H2 O2 k2 f2 => h u H2 O2 k2 f2⟩
    obtain ⟨d1, d2⟩ := d
    dsimp only at h p1 p2 data
    unfold cmpV at h
    split at h
    · exact .inr (.inl ⟨rfl, eqI_ok g hx f1 p1 p2 h⟩)
    · exact .inr (.inr ⟨rfl, eqI_ok g hx f1 p1 p2 h⟩)
    · exact data h
/-! ### lists' own methods -/
theorem olOf_some {o : Option D} {xs : List D} (h : olOf o = some xs) : o = some (.own (.lst xs)) := by
  unfold olOf at h
  split at h
  · cases h; rfl
  · cases h
theorem isOL_slot {O F : AS} {ρ : Env} {i : Nat} (f : FR T O F H ρ σ) (h : isOL (slot ρ i) = true) : ∃ a xs, σ[i]? = some (some (.ref a)) ∧ H a = some (.lst xs) := by
  obtain ⟨ds, hd⟩ := Option.isSome_iff_exists.mp h
  obtain ⟨a, xs, e1, e2, _⟩ := f.mut (es := []) (olOf_some hd)
  exact ⟨a, xs, (join_lt e1).2, e2⟩
theorem slot_app_fst {ρ τ : Env} {i : Nat} {d : D} (h : slot ρ i = some d) : slot (ρ ++ τ) i = some d := by
  rw [slot_app_lt (slot_lt h)]
  exact h
theorem tE.app {i : Nat} (h : tE T G.Κ C W (.app (.loc i) e) σ H Q) : tBM X.K "list" rAppend (tVar i) (tCons (tE T G.Κ C W e) tNil) σ H Q := by
  obtain ⟨sx, O, F, ρ, f, h⟩ := h
  have h : Fin T W O F H σ (if isOL (slot ρ i) then (ev G.Κ C e ρ).bind fun d ρ1 => match olOf (slot ρ1 i) with
        | some xs => if xs.length < line then .ok .non (ρ1.set i (some (.own (.lst (xs ++ [d.un]))))) else .no
        | none => .no
      else .no) Q := h
  split at h
  rotate_left
  · exact h.elim
  rename_i ho
  obtain ⟨a, xs, e1, e2⟩ := isOL_slot f ho
  refine ⟨.ref a, e1, .inl ⟨rfl, xs, SqL.of e2⟩, ?_⟩
  refine tE.bind (k := fun d ρ1 => match olOf (slot ρ1 i) with
        | some xs => if xs.length < line then .ok .non (ρ1.set i (some (.own (.lst (xs ++ [d.un]))))) else .no
        | none => .no) sx f h fun d ρ1 v H1 O1 k1 f1 h1 => ?_
  cases q : olOf (slot ρ1 i) with
  | none => rw [q] at h1; exact h1.elim
  | some ds =>
    rw [q] at h1
    dsimp only at h1
    split at h1
    rotate_left
    · exact h1.elim
    rename_i hz
    obtain ⟨O2, k2, f2, r2⟩ := f1.unTop f1.top
    have f3 := f2.drop1
    obtain ⟨a', ys, e3, e4, r4, wr⟩ := f3.mut (es := ds ++ [d.un]) (olOf_some q)
    have := (join_lt e3).2
    rw [e1] at this
    cases this
    obtain ⟨k5, f5⟩ := wr (ys ++ [v]) (r4.append (.cons r2 .nil))
    exact ⟨a, ys, v, rfl, rfl, e4, by rw [r4.length, ← line_eq]; exact hz, h1 _ _ _ (k2.trans k5 fun _ z => z) (f5.add rfl .non)⟩
theorem tE.ext {i : Nat} (h : tE T G.Κ C W (.ext (.loc i) e) σ H Q) : tBM X.K "list" rExtend (tVar i) (tCons (tE T G.Κ C W e) tNil) σ H Q := by
  obtain ⟨sx, O, F, ρ, f, h⟩ := h
  have h : Fin T W O F H σ (if isOL (slot ρ i) then (ev G.Κ C e ρ).bind fun d ρ1 => match olOf (slot ρ1 i), d.un with
        | some xs, .lst ys => if xs.length + ys.length ≤ line then .ok .non (ρ1.set i (some (.own (.lst (xs ++ ys))))) else .no
        | _, _ => .no
      else .no) Q := h
  split at h
  rotate_left
  · exact h.elim
  rename_i ho
  obtain ⟨a, xs, e1, e2⟩ := isOL_slot f ho
  refine ⟨.ref a, e1, .inl ⟨rfl, xs, SqL.of e2⟩, ?_⟩
  refine tE.bind (k := fun d ρ1 => match olOf (slot ρ1 i), d.un with
        | some xs, .lst ys => if xs.length + ys.length ≤ line then .ok .non (ρ1.set i (some (.own (.lst (xs ++ ys))))) else .no
        | _, _ => .no) sx f h fun d ρ1 v H1 O1 k1 f1 h1 => ?_
  split at h1
  rotate_left
  · exact h1.elim
  rename_i ds zs q hd
  split at h1
  rotate_left
  · exact h1.elim
  rename_i hz
  obtain ⟨O2, k2, f2, r2⟩ := f1.unTop f1.top
  have p2 : Pk T O2 H1 v d.un := .inr r2
  rw [hd] at p2 r2
  have f3 := f2.drop1
  obtain ⟨a', ys, e3, e4, r4, wr⟩ := f3.mut (es := ds ++ zs) (olOf_some q)
  have := (join_lt e3).2
  rw [e1] at this
  cases this
  obtain ⟨b, ws, rfl, e5, r5⟩ := p2.lst
  obtain ⟨k5, f5⟩ := wr (ys ++ ws) (r4.append r5)
  exact ⟨a, b, ys, ws, rfl, rfl, e4, e5, by rw [r4.length, r5.length, ← line_eq]; exact hz, h1 _ _ _ (k2.trans k5 fun _ z => z) (f5.add rfl .non)⟩
theorem RepL.erase {O : AS} {xs : List V} {ds : List D} (r : RepL T O H xs ds) : ∀ j, RepL T O H (xs.eraseIdx j) (ds.eraseIdx j) := by
  induction ds generalizing xs with
  | nil => intro j; cases r; exact .nil
  | cons d ds ih =>
    intro j
    cases r with
    | cons r t =>
      cases j with
      | zero => exact t
      | succ j => exact .cons r (ih t j)
theorem tE.popA {i : Nat} (h : tE T G.Κ C W (.popA (.loc i) e) σ H Q) : tBM X.K "list" rPopAt (tVar i) (tCons (tE T G.Κ C W e) tNil) σ H Q := by
  obtain ⟨sx, O, F, ρ, f, h⟩ := h
  have h : Fin T W O F H σ (if isOL (slot ρ i) then (ev G.Κ C e ρ).bind fun d ρ1 => match olOf (slot ρ1 i), d with
        | some xs, .int k => match Vm.ixN xs.length k with
          | some j => match xs[j]? with
            | some y => if y.isOwn || decide (line < xs.length) then .no else .ok y (ρ1.set i (some (.own (.lst (xs.eraseIdx j)))))
            | none => .no
          | none => .no
        | _, _ => .no
      else .no) Q := h
  split at h
  rotate_left
  · exact h.elim
  rename_i ho
  obtain ⟨a, xs, e1, e2⟩ := isOL_slot f ho
  refine ⟨.ref a, e1, .inl ⟨rfl, xs, SqL.of e2⟩, ?_⟩
  refine tE.bind (k := fun d ρ1 => match olOf (slot ρ1 i), d with
        | some xs, .int k => match Vm.ixN xs.length k with
          | some j => match xs[j]? with
            | some y => if y.isOwn || decide (line < xs.length) then .no else .ok y (ρ1.set i (some (.own (.lst (xs.eraseIdx j)))))
            | none => .no
          | none => .no
        | _, _ => .no) sx f h fun d ρ1 v H1 O1 k1 f1 h1 => ?_
  split at h1
  rotate_left
  · exact h1.elim
  rename_i ds kk q
  cases ej : Vm.ixN ds.length kk with
  | none => rw [ej] at h1; exact h1.elim
  | some j =>
    rw [ej] at h1
    dsimp only at h1
    cases ey : ds[j]? with
    | none => rw [ey] at h1; exact h1.elim
    | some y =>
      rw [ey] at h1
      dsimp only at h1
      split at h1
      · exact h1.elim
      rename_i hn
      simp only [Bool.or_eq_true, decide_eq_true_eq, not_or, Bool.not_eq_true, Nat.not_lt] at hn
      have pv := f1.topPk.int
      subst pv
      have f3 := f1.drop1
      obtain ⟨a', ys, e3, e4, r4, wr⟩ := f3.mut (es := ds.eraseIdx j) (olOf_some q)
      have := (join_lt e3).2
      rw [e1] at this
      cases this
      obtain ⟨w, hw, rw'⟩ := r4.get ey
      obtain ⟨k5, f5⟩ := wr (ys.eraseIdx j) (r4.erase j)
      have hl := r4.length
      obtain ⟨s1, s2, s3, s4⟩ := ixN_seq (ixN_eq .. ▸ ej : L2.ixN ds.length kk = some j)
      have hz : ds.length ≤ 16777216 := hn.2
      exact ⟨a, ys, kk, j, w, rfl, rfl, e4, by omega, by omega, by rw [hl]; exact s1, hw, h1 _ _ _ k5 (f5.add hn.1 (Rep.keep k5.sh _ _ rw'))⟩
end
end Vm
/-! #### part Veb -/
namespace Vm
open PySem PySem.Spec PyProof.Rows L2
/-- o.m(..) -/
def tMethG (X : Cx) (k : Nat) (m : PySem.Str) (E : L2.St → XK) (ta : TE) (t : TA) : TE := fun σ H Q => ta σ H fun x H1 => ∃ a Ca dx fs g fd ps sp, x = .ref a ∧ H1 a = some (.ins Ca dx fs) ∧ L2.Cls X.K Ca ∧ L2.Meth X.K Ca m g ∧
  FnG X.prog X.w X.K X.mg X.base k g fd ps sp ∧ Binds X.K fd ps [] ∧ fs.lookup m = none ∧ t σ H1 fun vs H2 => sp (x :: vs) H2 Q (E σ)
section
variable {X : Cx} {k : Nat} {E : L2.St → XK} {m : PySem.Str} {pos apos : Pos} {o : Expr} {es : List Expr} {ta : TE} {t : TA}
theorem peG_meth {e : Expr} (he : PE X o ta) (hG : X.A.guards = some []) (hr : Room k X.A) (hx : ∀ σ, PassesAt (L2.CX X.prog X.w) X σ (E σ)) (ha : PA X (e :: es) t) (hc : isCall o = false) (hs : (e :: es).any isStar = false) (hn : (e :: es).length < 30) (hl : (apos.endLine == pos.line) = true) :
    PE X (.Call (.Attribute o m apos) (e :: es) [] pos) (tMethG X k m E ta t) := by
  have hs' := hs
  rw [List.any_cons, Bool.or_eq_false_iff] at hs'
  refine ⟨fun pins s σ H Q I h => PySem.W.methodCall_KW (thn (he.run pins s σ H _ I h) fun u s1 ⟨x, H1, I1, rx, a, Ca, dx, fs, g, fd, ps, sp, ex, ea, cl, mt, F, bd, l, q⟩ => ?_) (meth_tree hc hs hn hl)⟩
  subst ex
  obtain rfl : u = Value.ref a := rx
  refine getmeth_ok I1 ea cl mt l (PySem.W.callWith_K (first := [.ref a]) (h₀ := X.base) I.ok.mod.kin mt.kp (thn (ha.run pos pins s1 σ H1 _ I1 q) fun us s2 ⟨vs, H2, I2, r, q2⟩ => ⟨I2.kIn, ?_⟩) (star_cons hs'.1 ..) (star_any hs'.2 ..))
  exact run_fnG (us := .ref a :: us) (vs := .ref a :: vs) F hG hr bd (hx σ) I2 (.cons rfl r) q2
theorem peG_meth0 (he : PE X o ta) (hG : X.A.guards = some []) (hr : Room k X.A) (hx : ∀ σ, PassesAt (L2.CX X.prog X.w) X σ (E σ)) (hc : isCall o = false) (hl : (apos.endLine == pos.line) = true) :
    PE X (.Call (.Attribute o m apos) [] [] pos) (tMethG X k m E ta tNil) := by
  refine ⟨fun pins s σ H Q I h => PySem.W.methodCall_KW (thn (he.run pins s σ H _ I h) fun u s1 ⟨x, H1, I1, rx, a, Ca, dx, fs, g, fd, ps, sp, ex, ea, cl, mt, F, bd, l, q⟩ => ?_) (meth_tree hc rfl (by simp) hl)⟩
  subst ex
  obtain rfl : u = Value.ref a := rx
  exact getmeth_ok I1 ea cl mt l (PySem.W.callWith_K0 (first := [.ref a]) I1.kIn mt.kp (run_fnG (us := [.ref a]) (vs := [.ref a]) F hG hr bd (hx σ) I1 (.cons rfl .nil) q))
/-- C(..) -/
theorem peG_make {x : PySem.Str} {p : Pos} {Ca f : Addr} {fd : FuncData} {ps : List PySem.Str} {sp : Sp} {e : Expr} (M : Mk X.K Ca f) (F : FnG X.prog X.w X.K X.mg X.base k f fd ps sp) (hG : X.A.guards = some []) (hr : Room (k + 1) X.A) (hg : Gl X x) (hm : X.mg x = some (.ref Ca)) (hb : Binds X.K fd ps []) (hx : ∀ σ, PassesAt (L2.CX X.prog X.w) X σ (E σ))
    (ha : PA X (e :: es) t) (hs : (e :: es).any isStar = false) (hdb : (x == ("__debug__" : PySem.Str)) = false) : PE X (.Call (.Name x p) (e :: es) [] pos) (tMakeS Ca sp E t) := by
  rw [List.any_cons, Bool.or_eq_false_iff] at hs
  refine ⟨fun pins s σ H Q I h => wpAny_Call_Name_kw (ld_glob I hg hm (PySem.W.callWith_K (h₀ := X.base) I.ok.mod.kin M.kp (thn (ha.run pos pins s σ H _ I h) fun us s1 ⟨vs, H1, I1, r, q⟩ => ⟨I1.kIn, ?_⟩) (star_cons hs.1 ..) (star_any hs.2 ..)) hdb)⟩
  have hq := q (s1.heap.objs.size + 1) s1.heap.objs.size (I1.hok.fresh (Nat.le_succ _)) (I1.hok.fresh (Nat.le_refl _)) (Nat.ne_of_lt (Nat.lt_succ_self _))
  have I2 := Inv.made (C := Ca) I1
  have r2 : Vals (V.ref (s1.heap.objs.size + 1) :: vs) (Value.ref (s1.heap.objs.size + 1) :: us) := .cons rfl r
  have hl : (Value.ref (s1.heap.objs.size + 1) :: us).length = ps.length := r2.length.symm.trans (F.len _ _ _ _ hq)
  have gm : (X.A.under (.builtin "type.__call__" ⟨.ref Ca :: us, []⟩)).guards = some [] := by
    rw [← hG]
    first | rfl | simp [Around.under, Code.guards, Code.isGuard, guardIds, pushGuards] | (simp [Around.under, Code.guards, Code.isGuard, guardIds, pushGuards]; cases X.A.guards <;> rfl)
  have bd := hb _ (Value.ref (s1.heap.objs.size + 1) :: us) I2.kIn (by rw [List.append_nil]; exact hl)
  rw [List.append_nil] at bd
  refine wpAny_call (make_map (f := f) I1.kIn M.makes M.init (beq_iff_eq.mp M.fn) (codeAny_mono (F.run _ X.stack _ _ ⟨Value.ref (s1.heap.objs.size + 1) :: us, []⟩ _ _ _ _ gm (hr.make Ca us []) (I2.env0.make Ca us []) bd r2 hq) fun res s' hq' => ?_))
  match res, hq' with
  | .error e, hq' => exact hx σ pins _ _ e s' I2 hq'
  | .ok (.ret u), hq' =>
    obtain ⟨v, H', I3, rv, ev, q3⟩ := I2.after hq'
    subst ev
    exact ⟨rv, ⟨V.ref (s1.heap.objs.size + 1), H', I3, rfl, q3⟩⟩
  | .ok .next, hq' => exact False.elim hq'
  | .ok .brk, hq' => exact False.elim hq'
  | .ok .cont, hq' => exact False.elim hq'
end
theorem noFld_ne {m : PySem.Str} (h : noFld m = true) (f : Nat) : fname f ≠ m := fun e => by
  unfold noFld at h
  simp only [Bool.and_eq_true, List.all_eq_true, Bool.not_eq_true', decide_eq_false_iff_not] at h
  by_cases hf : f < 15
  · exact h.1 f (List.mem_range.mpr hf) e
  · apply h.2
    rw [← e]
    unfold fname
    rw [if_neg hf]
    rfl
theorem noFld_lookup {m : PySem.Str} (h : noFld m = true) : ∀ {fs : List (PySem.Str × V)} {gs : List Nat}, fs.map (·.1) = gs.map fname → fs.lookup m = none
  | [], _, _ => rfl
  | (n, v) :: fs, [], e => by simp at e
  | (n, v) :: fs, g :: gs, e => by
    simp only [List.map_cons, List.cons.injEq] at e
    rw [List.lookup_cons, e.1, beq_eq_false_iff_ne.mpr (fun z => noFld_ne h g z.symm)]
    exact noFld_lookup h e.2
section
variable {X : Cx} {k : Nat} {G : Gt} {T : Tab} {W : WX} {σ : L2.St} {H : Hp} {Q : VK} {C : Cf} {a b e : E} {es : List E}
theorem insOf_un {d : D} {c : Nat} (h : insOf (some d) = some c) : ∃ gs vs, d.un = .ins c gs vs := by
  unfold insOf at h
  split at h
  · rename_i e; cases e; cases h; exact ⟨_, _, rfl⟩
  · rename_i e; cases e; cases h; exact ⟨_, _, rfl⟩
  · cases h
theorem evA_length : ∀ (es : List E) (ρ ρ' : Env) (as : List Arg), evA G.Κ C es ρ = .ok as ρ' → as.length = es.length := by
  intro es
  induction es with
  | nil => intro ρ ρ' as e; have e : R.ok [] ρ = R.ok as ρ' := e; cases e; rfl
  | cons x xs ih =>
    intro ρ ρ' as e
    rw [evA_cons] at e
    cases hr : recvOf x with
    | some i =>
      rw [hr] at e
      dsimp only at e
      split at e
      · cases q : evA G.Κ C xs ρ with
        | no => rw [q] at e; cases e
        | ex y r => rw [q] at e; cases e
        | ok as2 ρ2 => rw [q] at e; cases e; simp [ih _ _ _ q]
      · cases e
    | none =>
      rw [hr] at e
      dsimp only at e
      cases q0 : ev G.Κ C x ρ with
      | no => rw [q0] at e; cases e
      | ex y r => rw [q0] at e; cases e
      | ok d ρ1 =>
        rw [q0, R.bind_ok] at e
        cases q : evA G.Κ C xs ρ1 with
        | no => rw [q] at e; cases e
        | ex y r => rw [q] at e; cases e
        | ok as2 ρ2 => rw [q] at e; cases e; simp [ih _ _ _ q]
/-- the first argument stands; the others, then the call -/
theorem rest_call {O F : AS} {ρ : Env} {f n : Nat} {A0 : Arg} {v : V} (sx : SX T σ) (hl : ρ.length = σ.length) (fr : FR T O F H (ρ ++ [argD A0]) (σ ++ [some v])) (hs0 : ∀ i, A0 = .s i → σ[i]? = some (some v)) (hn : es.length + 1 = n)
    (h : Fin T W O F H σ ((evA G.Κ C es ρ).bind fun as ρ1 => calls C.Φ f (A0 :: as) ρ1) Q) : tA T G.Κ C W es σ H fun vs H2 => spF T C.Φ f n (v :: vs) H2 Q (WE W σ) := by
  obtain ⟨F', f2, s2, back⟩ := fr.frame hl
  have h2 := Fin.step (Keep.refl ..) s2 h
  refine ⟨sx, O, F', ρ, f2, ?_⟩
  cases q : evA G.Κ C es ρ with
  | no => rw [q] at h2; exact h2
  | ex x ρ1 => rw [q] at h2; exact h2
  | ok as ρ1 =>
    rw [q, R.bind_ok] at h
    intro vs H2 O2 k2 f3 hd hs
    have hl2 : ρ1.length = σ.length := by
      have := f3.length
      simp at this
      omega
    have f4 := back O2 H2 _ _ k2 f3
    have f5 : FR T O2 F H2 (ρ1 ++ (A0 :: as).map argD) (σ ++ (v :: vs).map some) := f4.rot hl2 (by simpa using hd)
    refine calls_sp (by simp [evA_length es ρ ρ1 as q, hn]) f5 (by simp [hd]) (fun j i e' => ?_) (Fin.step (k2.less s2) (fun _ z => z) h)
    cases j with
    | zero => exact ⟨v, rfl, hs0 i (by simpa using e')⟩
    | succ j => exact hs j i (by simpa using e')
theorem tE.meth {mi : Nat} {m : PySem.Str} (g : Fct G T k C.Φ X) (hm : G.mts[mi]? = some m) (hnf : noFld m = true) (har : ∀ c kc f, G.Κ c = some kc → kc.meths.lookup mi = some f → G.ar f = es.length + 1) (h : tE T G.Κ C W (.meth mi (e :: es)) σ H Q) :
    tMethG X k m (WE W) (tG T G.Κ C W e) (tA T G.Κ C W es) σ H Q := by
  obtain ⟨sx, O, F, ρ, f, h⟩ := h
  have h : Fin T W O F H σ (match recvOf e with
    | some i => match insOf (slot ρ i) with
      | some c => match methOf G.Κ c mi with
        | some f => (evA G.Κ C es ρ).bind fun as ρ1 => calls C.Φ f (.s i :: as) ρ1
        | none => .no
      | none => .no
    | none => (ev G.Κ C e ρ).bind fun d ρ0 => match insOf (some d) with
      | some c => match methOf G.Κ c mi with
        | some f => (evA G.Κ C es ρ0).bind fun as ρ1 => calls C.Φ f (.v d :: as) ρ1
        | none => .no
      | none => .no) Q := by
    have e0 : ev G.Κ C (.meth mi (e :: es)) ρ = (match recvOf e with
      | some i => match insOf (slot ρ i) with
        | some c => match methOf G.Κ c mi with
          | some f => (evA G.Κ C es ρ).bind fun as ρ1 => calls C.Φ f (.s i :: as) ρ1
          | none => .no
        | none => .no
      | none => (ev G.Κ C e ρ).bind fun d ρ0 => match insOf (some d) with
        | some c => match methOf G.Κ c mi with
          | some f => (evA G.Κ C es ρ0).bind fun as ρ1 => calls C.Φ f (.v d :: as) ρ1
          | none => .no
        | none => .no) := by
      rewrite [ev]
      cases recvOf e <;> rfl
    rw [e0] at h
    exact h
  -- what is known of the receiver
  have go : ∀ {O : AS} {H : Hp} {c : Nat} {gs : List Nat} {vs : List D} {x : V} {ρ : Env} {A0 : Arg} {O0 : AS}, Pk T O0 H x (.ins c gs vs) → ρ.length = σ.length → FR T O F H (ρ ++ [argD A0]) (σ ++ [some x]) → (∀ i, A0 = .s i → σ[i]? = some (some x)) →
      Fin T W O F H σ (match methOf G.Κ c mi with
        | some f => (evA G.Κ C es ρ).bind fun as ρ1 => calls C.Φ f (A0 :: as) ρ1
        | none => .no) Q → ∃ a Ca dx fs g fd ps sp, x = .ref a ∧ H a = some (.ins Ca dx fs) ∧ L2.Cls X.K Ca ∧ L2.Meth X.K Ca m g ∧
  FnG X.prog X.w X.K X.mg X.base k g fd ps sp ∧ Binds X.K fd ps [] ∧ fs.lookup m = none ∧ tA T G.Κ C W es σ H fun vs H2 => sp (x :: vs) H2 Q (WE W σ) := fun {O H c gs vs x ρ A0 O0} p hl fr hs0 h => by
    cases ef : methOf G.Κ c mi with
    | none => rw [ef] at h; exact h.elim
    | some fm =>
      rw [ef] at h
      obtain ⟨kc, hk, hf⟩ := Option.bind_eq_some_iff.mp ef
      obtain ⟨a, Ca, dx, fs, rfl, hc, ha, hn, _⟩ := PkA.ins (f := 0) p.pkA
      obtain ⟨_, ga, hga, mt⟩ := g.mts c Ca kc mi fm m hc hk hf hm
      obtain ⟨fd, ps, F1, hlp, bd⟩ := g.fns fm ga hga
      exact ⟨a, Ca, dx, fs, ga, fd, ps, _, rfl, ha, (g.ins c Ca hc).c, mt, F1, bd, noFld_lookup hnf hn, rest_call sx hl fr hs0 (har c kc fm hk hf).symm h⟩
  show tG T G.Κ C W e σ H _
  unfold tG
  cases hr : recvOf e with
  | some i =>
    rw [hr] at h
    dsimp only at h
    cases hi : slot ρ i with
    | none => rw [hi] at h; exact h.elim
    | some d =>
      rw [hi] at h
      obtain ⟨v, e1, p⟩ := f.pk hi
      have e1 := (join_lt e1).2
      cases hc : insOf (some d) with
      | none => rw [hc] at h; exact h.elim
      | some c =>
        rw [hc] at h
        obtain ⟨gs, vs, hd⟩ := insOf_un hc
        rw [hd] at p
        refine ⟨v, e1, ?_⟩
        refine go (A0 := .s i) p f.length ?_ (fun j z => by cases z; exact e1) h
        exact f.fill (by simp [f.length]) fun j d' e' => .inl (by
          by_cases hj : j < ρ.length
          · rw [slot_app_lt hj] at e'
            exact ⟨e', by rw [List.getElem?_append_left (by have := f.length; omega)]⟩
          · rw [slot_app_ge (by omega)] at e'
            have hj2 := slot_lt e'
            simp at hj2
            rw [show j - ρ.length = 0 by omega] at e'
            cases e')
  | none =>
    rw [hr] at h
    refine tE.bind (k := fun d ρ0 => match insOf (some d) with
      | some c => match methOf G.Κ c mi with
        | some f => (evA G.Κ C es ρ0).bind fun as ρ1 => calls C.Φ f (.v d :: as) ρ1
        | none => .no
      | none => .no) sx f h fun d ρ1 v H1 O1 k1 f1 h1 => ?_
    cases hc : insOf (some d) with
    | none => rw [hc] at h1; exact h1.elim
    | some c =>
      rw [hc] at h1
      obtain ⟨gs, vs, hd⟩ := insOf_un hc
      have p := f1.topPk
      rw [hd] at p
      exact go (A0 := .v d) p f1.top f1 (fun i z => by cases z) h1
end
end Vm
/-! #### part Vec -/
namespace Vm
open PySem PySem.Spec PyProof.Rows L2
/-! ### targets -/
mutual
def gT (K : PySem.W.Frag) : Tg → TG
  | .nm i => gName i
  | .tp ts => gTup K ts.length (gTs K ts)
def gTs (K : PySem.W.Frag) : List Tg → TGs
  | [] => gNil
  | t :: ts => gCons (gT K t) (gTs K ts)
end
theorem asg_cons {e : Expr} (h : isStar e = false) (es : List Expr) (env : PySem.Env) : assignEach (e :: es) env = (false, assign e env) :: assignEach es env := by
  cases e <;> first | rfl | cases h
theorem asg_len : ∀ {es : List Expr}, es.any isStar = false → ∀ (env : PySem.Env), (assignEach es env).length = es.length ∧ (assignEach es env).findIdx? (·.1) = none
  | [], _, _ => ⟨rfl, rfl⟩
  | e :: es, h, env => by
    rw [List.any_cons, Bool.or_eq_false_iff] at h
    obtain ⟨h1, h2⟩ := asg_len h.2 env
    rw [asg_cons h.1]
    refine ⟨by simp [h1], ?_⟩
    rw [List.findIdx?_cons]
    simp only [Bool.false_eq_true, if_false, h2, Option.map_none]
section
variable {G : Gt} {T : Tab} {k : Nat} {C : Cf} {S : Sc} {W : WX} {X : Cx}
theorem Good.loc (g : Good G T k C S W X) {i : Nat} {x : PySem.Str} (h : locB S i x = true) : X.N[i]? = some x ∧ L2.Loc X.env.scope x ∧ (X.fn x = true ∨ X.env.scope.names.lookup x = some .local) := by
  unfold locB at h
  simp only [Bool.and_eq_true, Bool.or_eq_true, decide_eq_true_eq] at h
  obtain ⟨⟨h1, h2⟩, h3⟩ := h
  refine ⟨by rw [g.N]; exact h1, ?_, ?_⟩
  · unfold L2.Loc; rw [g.sc]; exact h2
  · rw [g.fn, g.sc]; exact h3
mutual
theorem sG (g : Good G T k C S W X) (hc : X.calm = true) : ∀ (t : Tg) (e : Expr), chkT S t e = true → PG X e (gT X.K t)
  | .nm i, e, h => by
    unfold chkT at h
    split at h
    · obtain ⟨h1, h2, h3⟩ := g.loc h
      exact pg_name g.nd h1 h2 h3
    · cases h
  | .tp ts, e, h => by
    unfold chkT at h
    split at h
    · rename_i es n p
      simp only [Bool.and_eq_true, Bool.not_eq_true'] at h
      have hl : ts.length = es.length := chkTs_len h.2
      obtain ⟨h1, h2⟩ := asg_len h.1 X.env
      show PG X _ (gTup X.K ts.length (gTs X.K ts))
      exact pg_tup hc (sGs g hc ts es h.2 h.1) (by rw [h1, hl]) h2
    · cases h
theorem sGs (g : Good G T k C S W X) (hc : X.calm = true) : ∀ (ts : List Tg) (es : List Expr), chkTs S ts es = true → es.any isStar = false → PGs X es (gTs X.K ts)
  | [], [], _, _ => pgs_nil
  | t :: ts, e :: es, h, hs => by
    unfold chkTs at h
    rw [Bool.and_eq_true] at h
    rw [List.any_cons, Bool.or_eq_false_iff] at hs
    exact pgs_cons (sG g hc t e h.1) (sGs g hc ts es h.2 hs.2) (by rw [asg_cons hs.1]; rfl)
  | [], _ :: _, h, _ => by simp [chkTs] at h
  | _ :: _, [], h, _ => by simp [chkTs] at h
theorem chkTs_len {S : Sc} : ∀ {ts : List Tg} {es : List Expr}, chkTs S ts es = true → ts.length = es.length
  | [], [], _ => rfl
  | t :: ts, e :: es, h => by
    unfold chkTs at h
    rw [Bool.and_eq_true] at h
    simp [chkTs_len h.2]
  | [], _ :: _, h => by simp [chkTs] at h
  | _ :: _, [], h => by simp [chkTs] at h
end
end
section
variable {T : Tab} {O F : AS} {H : Hp} {K : PySem.W.Frag}
mutual
theorem bindT_ok : ∀ (t : Tg) (d : D) (ρ ρ1 : Env) (σ : L2.St) (v : V) (Q : L2.St → Hp → Prop), bindT t d ρ = some ρ1 → FR T O F H (ρ ++ [some d]) (σ ++ [some v]) →
    (∀ σ', FR T O F H ρ1 σ' → σ'.length = σ.length → (∀ j, j ∉ tgS t → σ'[j]? = σ[j]?) → Q σ' H) → gT K t v σ H Q
  | .nm i, d, ρ, ρ1, σ, v, Q, e, f, q => by
    have e : (if i < ρ.length then some (ρ.set i (some d)) else none) = some ρ1 := e
    split at e
    · cases e
      exact q _ (f.store f.top i) (by simp) fun j hj => List.getElem?_set_ne (fun z => hj (by rw [z]; simp [tgS]))
    · cases e
  | .tp ts, d, ρ, ρ1, σ, v, Q, e, f, q => by
    cases d with
    | tup xs =>
      have e : bindTs ts xs ρ = some ρ1 := e
      obtain ⟨a, vs, rfl, ha, na, r⟩ := f.topPk.tup
      have hl : ts.length = xs.length := bindTs_len e
      exact ⟨a, vs, rfl, SqT.of ha, by rw [r.length, hl], bindTs_ok ts xs ρ ρ1 σ vs Q e f.drop1 r q⟩
    | _ => cases e
theorem bindTs_ok : ∀ (ts : List Tg) (xs : List D) (ρ ρ1 : Env) (σ : L2.St) (vs : List V) (Q : L2.St → Hp → Prop), bindTs ts xs ρ = some ρ1 → FR T O F H ρ σ → RepL T O H vs xs →
    (∀ σ', FR T O F H ρ1 σ' → σ'.length = σ.length → (∀ j, j ∉ tgS.tgSs ts → σ'[j]? = σ[j]?) → Q σ' H) → gTs K ts vs σ H Q
  | [], [], ρ, ρ1, σ, _, Q, e, f, .nil, q => by
    cases e
    exact ⟨rfl, q σ f rfl fun _ _ => rfl⟩
  | t :: ts, x :: xs, ρ, ρ1, σ, v :: vs, Q, e, f, .cons r rs, q => by
    have e : (match bindT t x.un ρ with
      | some ρ1 => bindTs ts xs ρ1
      | none => none) = some ρ1 := e
    cases e1 : bindT t x.un ρ with
    | none => rw [e1] at e; cases e
    | some ρ2 =>
      rw [e1] at e
      refine ⟨v, vs, rfl, bindT_ok t x.un ρ ρ2 σ v _ e1 (f.add r.unOwn r.un) fun σ2 f2 l2 a2 => bindTs_ok ts xs ρ2 ρ1 σ2 vs Q e f2 rs fun σ3 f3 l3 a3 => q σ3 f3 (l3.trans l2) fun j hj => ?_⟩
      have hj : j ∉ tgS t ++ tgS.tgSs ts := hj
      rw [List.mem_append, not_or] at hj
      rw [a3 j hj.2, a2 j hj.1]
  | [], _ :: _, _, _, _, _, _, e, _, _, _ => by cases e
  | _ :: _, [], _, _, _, _, _, e, _, _, _ => by cases e
theorem bindTs_len : ∀ {ts : List Tg} {xs : List D} {ρ ρ1 : Env}, bindTs ts xs ρ = some ρ1 → ts.length = xs.length
  | [], [], _, _, _ => rfl
  | t :: ts, x :: xs, ρ, ρ1, e => by
    have e : (match bindT t x.un ρ with
      | some ρ1 => bindTs ts xs ρ1
      | none => none) = some ρ1 := e
    split at e
    · simp [bindTs_len e]
    · cases e
  | [], _ :: _, _, _, e => by cases e
  | _ :: _, [], _, _, e => by cases e
end
end
/-! ### what is walked -/
/-- at any later state the iterator J yields xs -/
def Wk (T : Tab) (O : AS) (H : Hp) (J : L2.It) (xs : List D) : Prop := ∀ O' H', (∀ a o, H a = some o → (∀ ps, o ≠ .tbl ps) → ¬ O a → H' a = some o ∧ ¬ O' a) → (∀ b, O' b → ∃ o, H' b = some o) →
  (∀ i d, xs[i]? = some d → J.go i H' ∧ ∀ x H2, J.yld i H' x H2 → Grow H' H2 ∧ d.isOwn = false ∧ Rep T O' H2 x d) ∧ ∀ i, xs.length ≤ i → J.stop i H'
def FinI (T : Tab) (W : WX) (O F : AS) (H : Hp) (σ : LSt) (r : R (List D)) (Q : L2.It → Hp → Prop) : Prop := match r with
  | .ok xs ρ' => ∀ J H' O', Keep F O H O' H' → FR T O' F H' ρ' σ → Wk T O' H' J xs → Q J H'
  | .ex x ρ' => ∀ cls dx H' O', Keep F O H O' H' → FR T O' F H' ρ' σ → ExR T O' H' cls dx x → W cls dx σ H'
  | .no => False
def tI (T : Tab) (Κ : Nat → Option Cls) (C : Cf) (W : WX) (it : It) : TI := fun σ H Q => SX T σ ∧ ∃ O F ρ, FR T O F H ρ σ ∧ FinI T W O F H σ (evI Κ C it ρ) Q
section
variable {X : Cx} {T : Tab} {W : WX} {O F : AS} {H : Hp} {σ : L2.St} {Κ : Nat → Option Cls} {C : Cf} {ρ : Env} {e : E} {es : List E} {tg x : Expr}
theorem pi_or {w1 w2 : TI} (h1 : PI X tg x w1) (h2 : PI X tg x w2) : PI X tg x (fun σ H R => w1 σ H R ∨ w2 σ H R) := ⟨fun pins s σ H R I h => h.elim (h1.run pins s σ H R I) (h2.run pins s σ H R I)⟩
theorem _root_.L2.PI.imp {t t' : TI} (h : PI X tg x t) (w : ∀ σ H Q, t' σ H Q → t σ H Q) : PI X tg x t' := ⟨fun pins s σ H Q I q => h.run pins s σ H Q I (w σ H Q q)⟩
theorem RepL.un_get {vs : List V} {ds : List D} (r : RepL T O H vs ds) {i : Nat} {d : D} (h : (ds.map D.un)[i]? = some d) : ∃ v, vs[i]? = some v ∧ d.isOwn = false ∧ Rep T O H v d := by
  rw [List.getElem?_map, Option.map_eq_some_iff] at h
  obtain ⟨d0, h1, rfl⟩ := h
  obtain ⟨v, h2, r2⟩ := r.get h1
  exact ⟨v, h2, r2.unOwn, r2.un⟩
theorem wk_list {K : PySem.W.Frag} {a : Addr} {vs : List V} {ds : List D} (h : Rd H a (.lst vs)) (n : ¬ O a) (r : RepL T O H vs ds) : Wk T O H (Itl K a) (ds.map D.un) := fun O' H' k _ => by
  obtain ⟨h', n'⟩ := Rd.kept h n k
  have r' := RepL.keep k _ _ r
  refine ⟨fun i d e => ?_, fun i hi => ⟨vs, .inl h', by rw [r.length]; simpa using hi⟩⟩
  obtain ⟨v, e1, no, rr⟩ := r'.un_get e
  exact ⟨⟨vs, v, .inl h', e1⟩, fun x H2 ⟨e2, q⟩ => by
    subst e2
    have := q vs (.inl h')
    rw [e1] at this
    cases this
    exact ⟨Grow.refl _, no, rr⟩⟩
theorem wk_tup {K : PySem.W.Frag} {a : Addr} {vs : List V} {ds : List D} (h : H a = some (.tup vs)) (n : ¬ O a) (r : RepL T O H vs ds) : Wk T O H (Itt K a) (ds.map D.un) := fun O' H' k _ => by
  obtain ⟨h', n'⟩ := k _ _ h (fun _ => by intro z; cases z) n
  have r' := RepL.keep k _ _ r
  refine ⟨fun i d e => ?_, fun i hi => ⟨vs, SqT.of h', by rw [r.length]; simpa using hi⟩⟩
  obtain ⟨v, e1, no, rr⟩ := r'.un_get e
  exact ⟨⟨vs, v, SqT.of h', e1⟩, fun x H2 ⟨e2, q⟩ => by
    subst e2
    have := q vs (SqT.of h')
    rw [e1] at this
    cases this
    exact ⟨Grow.refl _, no, rr⟩⟩
theorem rangeD_get (lo : Int) : ∀ (n i : Nat), (rangeD lo n)[i]? = if i < n then some (.int (lo + i)) else none := by
  intro n
  induction n generalizing lo with
  | zero => intro i; simp [rangeD]
  | succ n ih =>
    intro i
    cases i with
    | zero => simp [rangeD]
    | succ i =>
      simp only [rangeD, List.getElem?_cons_succ, ih, Nat.add_lt_add_iff_right]
      split
      · congr 2
        omega
      · rfl
theorem rangeD_len (lo : Int) : ∀ n : Nat, (rangeD lo n).length = n := by
  intro n
  induction n generalizing lo with
  | zero => rfl
  | succ n ih => simp [rangeD, ih]
theorem wk_rng (lo : Int) (n : Nat) : Wk T O H (Itr lo n) (rangeD lo n) := fun O' H' k _ => by
  refine ⟨fun i d e => ?_, fun i hi => by rw [rangeD_len] at hi; exact hi⟩
  rw [rangeD_get] at e
  split at e
  · cases e
    exact ⟨‹_›, fun x H2 ⟨e2, q⟩ => by subst e2 q; exact ⟨Grow.refl _, rfl, .int _⟩⟩
  · cases e
theorem tI.seq {Q : L2.It → Hp → Prop} {K : PySem.W.Frag} (h : tI T Κ C W (.seq e) σ H Q) : iList K (tE T Κ C W e) σ H Q ∨ iTup K (tE T Κ C W e) σ H Q := by
  obtain ⟨sx, O, F, ρ, f, h⟩ := h
  have h : FinI T W O F H σ ((ev Κ C e ρ).bind fun d ρ1 => R.of ((itemsI d).map fun xs => xs.map D.un) ρ1) Q := h
  by_cases ht : ∃ d ρ1 xs, ev Κ C e ρ = .ok d ρ1 ∧ d.un = .tup xs
  · obtain ⟨d, ρ1, xs, q, hd⟩ := ht
    refine .inr ⟨sx, O, F, ρ, f, ?_⟩
    rw [q, R.bind_ok] at h
    rw [q]
    intro v H1 O1 k1 f1
    obtain ⟨O2, k2, f2, r2⟩ := f1.unTop f1.top
    rw [hd] at r2
    have hi : itemsI d = some xs := by unfold itemsI; rw [hd]
    rw [hi] at h
    cases r2 with
    | tup ha na rr => exact ⟨_, rfl, ⟨_, SqT.of ha⟩, h _ H1 O2 (k1.trans k2 fun _ z => z) f2.drop1 (wk_tup ha na rr)⟩
  · refine .inl ⟨sx, O, F, ρ, f, ?_⟩
    cases q : ev Κ C e ρ with
    | no => rw [q] at h; exact h
    | ex x ρ1 => rw [q] at h; exact h
    | ok d ρ1 =>
      rw [q, R.bind_ok] at h
      intro v H1 O1 k1 f1
      obtain ⟨O2, k2, f2, r2⟩ := f1.unTop f1.top
      cases hi : itemsI d with
      | none => rw [hi] at h; exact h.elim
      | some xs =>
        rw [hi] at h
        have fin : ∀ J, Wk T O2 H1 J (xs.map D.un) → Q J H1 := fun J wk => h J H1 O2 (k1.trans k2 fun _ z => z) f2.drop1 wk
        unfold itemsI at hi
        split at hi
        · rename_i hd; cases hi; rw [hd] at r2
          cases r2 with
          | lst ha na rr => exact ⟨_, rfl, ⟨_, SqL.of ha⟩, fin _ (wk_list (.inl ha) na rr)⟩
        · rename_i hd; cases hi; rw [hd] at r2
          cases r2 with
          | lsto ha na rr => exact ⟨_, rfl, ⟨_, SqL.of ha⟩, fin _ (wk_list (.inl ha) na rr)⟩
        · rename_i hd; cases hi; rw [hd] at r2
          cases r2 with
          | scr ha na rr => exact ⟨_, rfl, ⟨_, .inl (.inr ⟨_, ha⟩)⟩, fin _ (wk_list (.inr ⟨_, ha⟩) na rr)⟩
        · rename_i hd; exact absurd ⟨d, ρ1, _, q, hd⟩ ht
        · cases hi
theorem small62_ok {i : Int} (h : small62 i = true) : -(2 ^ 62) ≤ i ∧ i < 2 ^ 62 := by
  unfold small62 at h
  simpa using h
theorem tI.rng1 {Q : L2.It → Hp → Prop} (hn : es.length = 1) (h : tI T Κ C W (.rng es) σ H Q) : iRng1 (tL T Κ C W es) σ H Q := by
  obtain ⟨sx, O, F, ρ, f, h⟩ := h
  have h : FinI T W O F H σ ((evL Κ C es ρ).bind fun ds ρ1 => R.of (rngOf ds) ρ1) Q := h
  refine ⟨sx, O, F, ρ, f, ?_⟩
  cases q : evL Κ C es ρ with
  | no => rw [q] at h; exact h
  | ex x ρ1 => rw [q] at h; exact h
  | ok ds ρ1 =>
    rw [q, R.bind_ok] at h
    intro vs H1 O1 k1 f1 hd
    have hl := evL_length q
    match ds, vs, hd, hl with
    | [d], [v], _, _ =>
      have f1 : FR T O1 F H1 (ρ1 ++ [some d]) (σ ++ [some v]) := f1
      cases d with
      | int j =>
        cases hs : small62 j with
        | false => simp [rngOf, hs] at h; exact h.elim
        | true =>
          have e1 := f1.topPk.int
          subst e1
          obtain ⟨b1, b2⟩ := small62_ok hs
          refine ⟨j, rfl, b1, b2, ?_⟩
          simp only [rngOf, hs, if_true, R.of_some] at h
          exact h _ H1 O1 k1 f1.drop1 (wk_rng 0 _)
      | _ => exact h.elim
    | [], _, _, hl => simp at hl; omega
    | _ :: _ :: _, _, _, hl => simp at hl; omega
    | [_], [], hd, _ => simp at hd
    | [_], _ :: _ :: _, hd, _ => simp at hd
theorem tI.rng2 {Q : L2.It → Hp → Prop} (hn : es.length = 2) (h : tI T Κ C W (.rng es) σ H Q) : iRng2 (tL T Κ C W es) σ H Q := by
  obtain ⟨sx, O, F, ρ, f, h⟩ := h
  have h : FinI T W O F H σ ((evL Κ C es ρ).bind fun ds ρ1 => R.of (rngOf ds) ρ1) Q := h
  refine ⟨sx, O, F, ρ, f, ?_⟩
  cases q : evL Κ C es ρ with
  | no => rw [q] at h; exact h
  | ex x ρ1 => rw [q] at h; exact h
  | ok ds ρ1 =>
    rw [q, R.bind_ok] at h
    intro vs H1 O1 k1 f1 hd
    have hl := evL_length q
    match ds, vs, hd, hl with
    | [d, d'], [v, v'], _, _ =>
      have f1 : FR T O1 F H1 ((ρ1 ++ [some d]) ++ [some d']) ((σ ++ [some v]) ++ [some v']) := by simpa using f1
      have hlen : ρ1.length = σ.length := by
        have := f1.length
        simp at this
        omega
      have f0 := f1.front (by simp [hlen])
      cases d with
      | int i =>
        cases d' with
        | int j =>
          by_cases hs : (small62 i && small62 j) = true
          · have e1 := f0.topPk.int
            have e2 := f1.topPk.int
            subst e1 e2
            rw [Bool.and_eq_true] at hs
            obtain ⟨b1, b2⟩ := small62_ok hs.1
            obtain ⟨b3, b4⟩ := small62_ok hs.2
            refine ⟨i, j, rfl, ⟨b1, b2, b3, b4⟩, ?_⟩
            simp only [rngOf, hs.1, hs.2, Bool.and_true, if_true, R.of_some] at h
            exact h _ H1 O1 k1 f0.drop1 (wk_rng i _)
          · simp only [rngOf, hs, if_false, R.of_none] at h
            exact h.elim
        | _ => exact h.elim
      | _ => cases d' <;> exact h.elim
    | [], _, _, hl => simp at hl; omega
    | [_], _, _, hl => simp at hl; omega
    | _ :: _ :: _ :: _, _, _, hl => simp at hl; omega
    | [_, _], [], hd, _ => simp at hd
    | [_, _], [_], hd, _ => simp at hd
    | [_, _], _ :: _ :: _ :: _, hd, _ => simp at hd
end
end Vm
/-! #### part Ved -/
namespace Vm
open PySem PySem.Spec PyProof.Rows L2
/-- nothing leaves a comprehension's block -/
def W0 : WX := fun _ _ _ _ => False
def tF (T : Tab) (Κ : Nat → Option Cls) (C : Cf) (W : WX) : Option E → TT
  | none => tYes
  | some e => tTs T Κ C W e
theorem vwipe_len (ρ : Env) : ∀ vs, (Vm.wipe ρ vs).length = ρ.length
  | [] => rfl
  | v :: vs => by unfold Vm.wipe; rw [List.length_set, vwipe_len ρ vs]
theorem vwipe_slot (ρ : Env) (i : Nat) : ∀ vs, slot (Vm.wipe ρ vs) i = if i ∈ vs then none else slot ρ i
  | [] => by simp [Vm.wipe]
  | v :: vs => by
    unfold Vm.wipe
    rw [slot_none, vwipe_slot ρ i vs]
    by_cases h : v = i
    · subst h; simp
    · rw [if_neg h]
      have : i ≠ v := fun e => h e.symm
      simp [this]
theorem lwipe_get (σ : L2.St) (i : Nat) : ∀ vs, i ∉ vs → (L2.wipe σ vs)[i]? = σ[i]?
  | [], _ => rfl
  | v :: vs, h => by
    rw [List.mem_cons, not_or] at h
    unfold L2.wipe
    rw [List.getElem?_set_ne (Ne.symm h.1), lwipe_get σ i vs h.2]
theorem lwipe_in (σ : L2.St) (i : Nat) : ∀ vs, i ∈ vs → i < σ.length → (L2.wipe σ vs)[i]? = some none
  | v :: vs, h, hl => by
    unfold L2.wipe
    by_cases e : v = i
    · subst e
      rw [List.getElem?_set_self (by rw [wipe_length]; exact hl)]
    · rw [List.getElem?_set_ne e]
      exact lwipe_in σ i vs (by simpa [Ne.symm e] using h) hl
theorem lwipe_eq {σ σ2 : L2.St} {vs : List Nat} (hl : σ2.length = σ.length) (h : ∀ j, j ∉ vs → σ2[j]? = (L2.wipe σ vs)[j]?) : L2.wipe σ2 vs = L2.wipe σ vs := by
  refine List.ext_getElem? fun j => ?_
  by_cases hj : j ∈ vs
  · by_cases hz : j < σ.length
    · rw [lwipe_in σ2 j vs hj (by omega), lwipe_in σ j vs hj hz]
    · rw [List.getElem?_eq_none (by rw [wipe_length]; omega), List.getElem?_eq_none (by rw [wipe_length]; omega)]
  · rw [lwipe_get σ2 j vs hj, h j hj]
theorem rest_slot (ρ0 ρ : Env) (i : Nat) : ∀ vs, i < ρ.length → slot (rest ρ0 ρ vs) i = if i ∈ vs then slot ρ0 i else slot ρ i
  | [], _ => by simp [rest]
  | v :: vs, hi => by
    have len : ∀ vs, (rest ρ0 ρ vs).length = ρ.length := fun vs => by
      induction vs with
      | nil => rfl
      | cons a r ih => unfold rest; rw [List.length_set, ih]
    unfold rest
    by_cases h : v = i
    · subst h
      rw [slot_set_self (by rw [len]; exact hi)]
      simp
    · rw [slot_set_ne h, rest_slot ρ0 ρ i vs hi]
      have : i ≠ v := fun e => h e.symm
      simp [this]
theorem rest_len (ρ0 ρ : Env) : ∀ vs, (rest ρ0 ρ vs).length = ρ.length
  | [] => rfl
  | v :: vs => by unfold rest; rw [List.length_set, rest_len ρ0 ρ vs]
section
variable {T : Tab} {W : WX} {σ : L2.St} {H : Hp} {Q : VK} {Κ : Nat → Option Cls} {C : Cf} {elt : E} {ifs : Option E} {tg : Tg} {it : It} {vs : List Nat} {O F : AS} {ρ : Env}
/-- the block's own names forgotten, with something on top -/
theorem FR.wiped {ρ2 : Env} {σ2 : L2.St} {o : D} {v : V} (f : FR T O F H (ρ2 ++ [some o]) (σ2 ++ [some v])) (hl : σ2.length = σ.length) (h : ∀ j, j ∉ vs → σ2[j]? = (L2.wipe σ vs)[j]?) : FR T O F H (Vm.wipe ρ2 vs ++ [some o]) (L2.wipe σ vs ++ [some v]) := by
  have ht := f.top
  refine f.fill (by simp [vwipe_len, wipe_length, ht, hl]) fun i d e => .inl ?_
  by_cases hi : i < ρ2.length
  · rw [slot_app_lt (by rw [vwipe_len]; exact hi), vwipe_slot] at e
    split at e
    · cases e
    · rename_i hn
      rw [slot_app_lt hi, get_app, get_app, if_pos (by rw [wipe_length]; omega), if_pos (by omega), h i hn]
      exact ⟨e, rfl⟩
  · rw [slot_app_ge (by rw [vwipe_len]; omega), vwipe_len] at e
    rw [slot_app_ge (by omega), get_app, get_app, if_neg (by rw [wipe_length]; omega), if_neg (by omega), wipe_length, hl]
    exact ⟨e, rfl⟩
theorem tE.comp {K : PySem.W.Frag} (hx : T.ξ = none) (ht : ∀ i ∈ tgS tg, i ∈ vs) (h : tE T Κ C W (.comp false elt tg it ifs vs) σ H Q) : tLc (tI T Κ C W it) (gT K tg) (tF T Κ C W0 ifs) (tE T Κ C W0 elt) vs σ H Q := by
  obtain ⟨sx, O, F, ρ, f, h⟩ := h
  have sx0 : ∀ σ', SX T σ' := fun σ' z e => by rw [hx] at e; cases e
  generalize hst : (fun (x : D) (ρ2 : Env) => match bindT tg x (Vm.wipe ρ2 vs) with
        | none => R.no
        | some ρ3 => (evT Κ C ifs ρ3).bind fun b ρ4 => if b then (ev Κ C elt ρ4).bind fun y ρ5 => .ok (some y.un) ρ5 else .ok none ρ4) = step at *
  have h : Fin T W O F H σ ((evI Κ C it ρ).bind fun xs ρ1 => if plainAt ρ1 vs then
      (compGo step xs ρ1 []).bind fun ys ρ2 => .ok (.own (.lst ys)) (rest ρ1 ρ2 vs) else .no) Q := by
    rw [← hst]
    exact h
  refine ⟨sx, O, F, ρ, f, ?_⟩
  cases q : evI Κ C it ρ with
  | no => rw [q] at h; exact h
  | ex x ρ1 => rw [q] at h; exact h
  | ok xs ρ1 =>
    rw [q, R.bind_ok] at h
    intro J H1 O1 k1 f1 wk D hD
    cases hp : plainAt ρ1 vs with
    | false => rw [hp] at h; exact h.elim
    | true =>
      rw [hp] at h
      have h1 := Fin.step (F' := F) k1 (fun _ z => z) h
      have hl1 := f1.length
      -- the block's names as they were
      have sav : ∀ i ∈ vs, ∀ d, slot ρ1 i = some d → d.isOwn = false ∧ ∃ v, σ[i]?.join = some v ∧ Rep T O1 H1 v d := fun i hi d e => by
        have z := List.all_eq_true.mp hp i hi
        rw [e] at z
        have z : d.isOwn = false := by simpa using z
        obtain ⟨v, e1, p⟩ := f1.get e
        refine ⟨z, v, e1, ?_⟩
        rcases p with ⟨x, A, rfl, _⟩ | ⟨_, r⟩
        · cases z
        · exact r
      have fw : FR T O1 F H1 (Vm.wipe ρ1 vs) (L2.wipe σ vs) := f1.fill (by rw [vwipe_len, wipe_length]; exact hl1) fun i d e => .inl (by
        rw [vwipe_slot] at e
        split at e
        · cases e
        · rename_i hn
          rw [lwipe_get σ i vs hn]
          exact ⟨e, rfl⟩)
      obtain ⟨f2, k2⟩ := fw.own1 (p := D) (o := .lst []) (d := .lst []) (by intro _ e; cases e) hD (.lst upd_same .nil fun _ => Iff.rfl)
      refine ⟨fun i m H' => m = xs.length - i ∧ i ≤ xs.length ∧ ∃ O' ρi acc, FR T O' F H' (Vm.wipe ρi vs ++ [some (.own (.lst acc))]) (L2.wipe σ vs ++ [some (.ref D)]) ∧ Keep F O1 H1 O' H' ∧
        Fin T W O1 F H1 σ ((compGo step (xs.drop i) ρi acc).bind fun ys ρ2 => .ok (.own (.lst ys)) (rest ρ1 ρ2 vs)) Q, ⟨xs.length, by simp, by simp, _, ρ1, [], f2, k2, h1⟩, ?_⟩
      rintro i m H' ⟨rfl, hi, O', ρi, acc, fi, ki, hh⟩
      obtain ⟨wk1, wk2⟩ := wk O' H' ki.sh (fun b hb => let ⟨o, e, _⟩ := fi.trk b hb; ⟨o, e⟩)
      have hlw : (Vm.wipe ρi vs).length = (L2.wipe σ vs).length := fi.top
      have hli : ρi.length = σ.length := by rw [vwipe_len, wipe_length] at hlw; exact hlw
      by_cases hlt : i < xs.length
      · -- a turn
        refine .inr ⟨(wk1 i xs[i] (by simp [hlt])).1, fun H'' => i + 1 ≤ xs.length ∧ ∃ O' ρi acc, FR T O' F H'' (Vm.wipe ρi vs ++ [some (.own (.lst acc))]) (L2.wipe σ vs ++ [some (.ref D)]) ∧ Keep F O1 H1 O' H'' ∧
          Fin T W O1 F H1 σ ((compGo step (xs.drop (i + 1)) ρi acc).bind fun ys ρ2 => .ok (.own (.lst ys)) (rest ρ1 ρ2 vs)) Q, fun H'' n => ⟨xs.length - (i + 1), by omega, rfl, n⟩, fun x H2 y => ?_⟩
        obtain ⟨gr, no, rx⟩ := (wk1 i xs[i] (by simp [hlt])).2 x H2 y
        obtain ⟨f3, k3⟩ := fi.growG gr
        obtain ⟨F', f4, s4, bk⟩ := f3.frame hlw
        have kA := ki.trans k3 fun _ z => z
        rw [List.drop_eq_getElem_cons hlt] at hh
        have hh : Fin T W O1 F H1 σ ((match step xs[i] ρi with
          | .ok (some y) ρ1 => if acc.length < line then compGo step (xs.drop (i + 1)) ρ1 (acc ++ [y]) else .no
          | .ok none ρ1 => compGo step (xs.drop (i + 1)) ρ1 acc
          | .ex e ρ1 => .no
          | .no => .no).bind fun ys ρ2 => .ok (.own (.lst ys)) (rest ρ1 ρ2 vs)) Q := by
          unfold compGo at hh
          exact hh
        cases eb : bindT tg xs[i] (Vm.wipe ρi vs) with
        | none =>
          have : step xs[i] ρi = .no := by rw [← hst]; simp only [eb]
          rw [this] at hh
          exact hh.elim
        | some ρ3 =>
          have es : step xs[i] ρi = (evT Κ C ifs ρ3).bind fun b ρ4 => if b then (ev Κ C elt ρ4).bind fun y ρ5 => .ok (some y.un) ρ5 else .ok none ρ4 := by rw [← hst]; simp only [eb]
          rw [es] at hh
          refine bindT_ok tg xs[i] _ ρ3 _ x _ eb (f4.add no rx) fun σ2 f6 l2 a2 => ⟨lwipe_eq (by rw [l2, wipe_length]) fun j hj => a2 j fun z => hj (ht j z), ?_⟩
          have l2' : σ2.length = σ.length := by rw [l2, wipe_length]
          have off : ∀ j, j ∉ vs → σ2[j]? = (L2.wipe σ vs)[j]? := fun j hj => a2 j fun z => hj (ht j z)
          -- behind the test
          have aft : ∀ (b : Bool) (ρ4 : Env) (H3 : Hp) (O3 : AS), evT Κ C ifs ρ3 = .ok b ρ4 → Keep F' O' H2 O3 H3 → FR T O3 F' H3 ρ4 σ2 →
              (if b = true then tE T Κ C W0 elt σ2 H3 fun y H4 => ∃ acc, H4 D = some (.lst acc) ∧ acc.length < sizeLine ∧ (i + 1 ≤ xs.length ∧ ∃ O' ρi acc', FR T O' F (upd H4 D (.lst (acc ++ [y]))) (Vm.wipe ρi vs ++ [some (.own (.lst acc'))]) (L2.wipe σ vs ++ [some (.ref D)]) ∧ Keep F O1 H1 O' (upd H4 D (.lst (acc ++ [y]))) ∧
                Fin T W O1 F H1 σ ((compGo step (xs.drop (i + 1)) ρi acc').bind fun ys ρ2 => .ok (.own (.lst ys)) (rest ρ1 ρ2 vs)) Q)
              else i + 1 ≤ xs.length ∧ ∃ O' ρi acc, FR T O' F H3 (Vm.wipe ρi vs ++ [some (.own (.lst acc))]) (L2.wipe σ vs ++ [some (.ref D)]) ∧ Keep F O1 H1 O' H3 ∧
                Fin T W O1 F H1 σ ((compGo step (xs.drop (i + 1)) ρi acc).bind fun ys ρ2 => .ok (.own (.lst ys)) (rest ρ1 ρ2 vs)) Q) := fun b ρ4 H3 O3 ev4 k4 f7 => by
            rw [ev4, R.bind_ok] at hh
            cases b with
            | false =>
              have f8 := bk O3 H3 ρ4 σ2 k4 f7
              exact ⟨hlt, O3, ρ4, acc, f8.wiped l2' off, kA.trans (k4.less s4) fun _ z => z, hh⟩
            | true =>
              rw [if_pos rfl]
              rw [if_pos rfl] at hh
              refine ⟨sx0 σ2, O3, F', ρ4, f7, ?_⟩
              cases ey : ev Κ C elt ρ4 with
              | no => rw [ey] at hh; exact hh.elim
              | ex z ρ5 => rw [ey] at hh; exact hh.elim
              | ok y ρ5 =>
                rw [ey, R.bind_ok] at hh
                dsimp only at hh
                intro yv H4 O4 k5 f8
                split at hh
                rotate_left
                · exact hh.elim
                rename_i hz
                have hl5 := f8.top
                have f9 := (bk O4 H4 _ _ (k4.trans k5 fun _ z => z) f8).rot hl5 rfl
                have f9 : FR T O4 F H4 ((ρ5 ++ [some (.own (.lst acc))]) ++ [some y]) ((σ2 ++ [some (.ref D)]) ++ [some yv]) := by simpa using f9
                obtain ⟨O5, k6, f10, ry⟩ := f9.unTop (by simp [hl5])
                have f11 := f10.drop1
                have es5 : slot (ρ5 ++ [some (.own (.lst acc))]) ρ5.length = some (.own (.lst acc)) := by rw [slot_app_ge (Nat.le_refl _), Nat.sub_self]; rfl
                obtain ⟨a, accV, e1, e2, ra, wr⟩ := f11.mut (es := acc ++ [y.un]) es5
                rw [hl5, List.getElem?_append_right (Nat.le_refl _), Nat.sub_self] at e1
                cases e1
                obtain ⟨k7, f12⟩ := wr (accV ++ [yv]) (ra.append (.cons ry .nil))
                rw [List.set_append_right _ _ (Nat.le_refl _), Nat.sub_self] at f12
                have f12 : FR T O5 F (upd H4 D (.lst (accV ++ [yv]))) (ρ5 ++ [some (.own (.lst (acc ++ [y.un])))]) (σ2 ++ [some (.ref D)]) := f12
                exact ⟨accV, e2, by rw [ra.length, ← line_eq]; exact hz, hlt, O5, ρ5, acc ++ [y.un], f12.wiped l2' off, ((kA.trans (k4.less s4) fun _ z => z).trans (k5.less s4) fun _ z => z).trans (k6.trans k7 fun _ z => z) fun _ z => z, hh⟩
          cases ifs with
          | none => exact aft true ρ3 H2 O' rfl (Keep.refl ..) f6
          | some e =>
            refine ⟨sx0 σ2, O', F', ρ3, f6, ?_⟩
            have et : evT Κ C (some e) ρ3 = (ev Κ C e ρ3).bind fun d ρ1 => match d with
              | .bl b => .ok b ρ1
              | _ => .no := by
                rewrite [evT]
                cases ev Κ C e ρ3 with
                | ok d r => cases d <;> rfl
                | ex z r => rfl
                | no => rfl
            cases ee : ev Κ C e ρ3 with
            | no => rw [et, ee] at hh; exact hh.elim
            | ex z ρ4 => rw [et, ee] at hh; exact hh.elim
            | ok d ρ4 =>
              cases d with
              | bl b => exact fun H3 O3 k4 f7 => aft b ρ4 H3 O3 (by rw [et, ee]; rfl) k4 f7
              | _ => rw [et, ee] at hh; exact hh.elim
      · -- the end
        have he : i = xs.length := by omega
        subst he
        refine .inl ⟨wk2 _ (Nat.le_refl _), ?_⟩
        rw [List.drop_length] at hh
        have hh : Fin T W O1 F H1 σ (.ok (.own (.lst acc)) (rest ρ1 ρi vs)) Q := hh
        refine hh _ H' O' ki (fi.fill (by simp [rest_len, hli]) fun j d e => ?_)
        by_cases hj : j < ρi.length
        · rw [slot_app_lt (by rw [rest_len]; exact hj), rest_slot _ _ _ _ hj] at e
          split at e
          · rename_i hm
            obtain ⟨n1, v, e1, r1⟩ := sav j hm d e
            exact .inr ⟨n1, v, by rw [get_app, if_pos (by omega)]; exact e1, Rep.keep ki.sh _ _ r1⟩
          · rename_i hm
            refine .inl ⟨?_, by rw [get_app, get_app, if_pos (by omega), if_pos (by rw [wipe_length]; omega), lwipe_get σ j vs hm]⟩
            rw [slot_app_lt (by rw [vwipe_len]; exact hj), vwipe_slot, if_neg hm]
            exact e
        · rw [slot_app_ge (by rw [rest_len]; omega), rest_len] at e
          refine .inl ⟨by rw [slot_app_ge (by rw [vwipe_len]; omega), vwipe_len]; exact e, by rw [get_app, get_app, if_neg (by omega), if_neg (by rw [wipe_length]; omega), wipe_length]⟩
end
end Vm
/-! #### part Vee -/
namespace Vm
open PySem PySem.Spec PyProof.Rows L2
def isTst : Expr → Bool
  | .UnaryOp .Not _ _ | .BoolOp .. | .IfExp .. | .Compare .. => true
  | _ => false
theorem pt_plain {X : Cx} {e : Expr} {t : TE} (h : PE X e t) (n : isTst e = false) : PT X e (L2.tB t) := by
  refine pt_val h fun w => ?_
  cases e with
  | UnaryOp o x p => cases o <;> first | rfl | cases n
  | BoolOp _ _ _ => cases n
  | IfExp _ _ _ _ => cases n
  | Compare _ _ _ _ => cases n
  | _ => rfl
theorem _root_.L2.PT.imp {X : Cx} {x : Expr} {t t' : TT} (h : PT X x t) (w : ∀ σ H Q, t' σ H Q → t σ H Q) : PT X x t' := ⟨fun pins s σ H Q I q => h.run pins s σ H Q I (w σ H Q q)⟩
theorem _root_.L2.PW.imp {X : Cx} {x : Expr} {t t' : TT} (h : PW X x t) (w : ∀ σ H Q, t' σ H Q → t σ H Q) : PW X x t' := ⟨fun wh pins s σ H Q I q => h.run wh pins s σ H Q I (w σ H Q q)⟩
theorem _root_.L2.PO.imp {X : Cx} {x : Option Expr} {t t' : TO} (h : PO X x t) (w : ∀ σ H Q, t' σ H Q → t σ H Q) : PO X x t' := ⟨fun pins s σ H Q I q => h.run pins s σ H Q I (w σ H Q q)⟩
theorem noSet_marks {op : CmpOp} {z : Expr} (h : isSet z = false) : behindInMarks op z = false := by
  cases z <;> first | rfl | cases h
theorem noSet_fold {z : Expr} (h : isSet z = false) (env : PySem.Env) : ∀ x, foldedSetIterable z env x = pure x := fun x => by
  cases z <;> first | rfl | cases h
section
variable {G : Gt} {T : Tab} {k : Nat} {C : Cf} {S : Sc} {W : WX} {X : Cx}
/-- a class as a value -/
theorem Good.cl (g : Good G T k C S W X) {t : Ty} {x : PySem.Str} {pos : Pos} (h : clB G S t x = true) : ∃ cv w, PE X (.Name x pos) (tC cv) ∧ ClsV cv w ∧ tyV T t = some w := by
  unfold clB at h
  simp only [Bool.and_eq_true, Bool.not_eq_true'] at h
  obtain ⟨⟨h1, h2⟩, h3⟩ := h
  obtain ⟨gl, db⟩ := g.gl h1
  have nn : x ≠ "__name__" := by simpa using h3
  have bt : ∀ (n : String) (xs : PySem.Str), x = xs → xs ∈ bnames → bootBuiltins xs = some (.type n) → PE X (.Name x pos) (tC (.ty n)) := fun n xs e m b => by
    subst e
    exact pe_bltn gl (g.fct.mgB _ m) b rfl nn db
  have tyB : ∀ (n : String) (xs : PySem.Str), (decide (some xs = some x) && bnames.contains x) = true → bootBuiltins xs = some (.type n) → PE X (.Name x pos) (tC (.ty n)) := fun n xs h b => by
    simp only [Bool.and_eq_true, decide_eq_true_eq, Option.some.injEq, List.contains_iff_mem] at h
    exact bt n xs h.1.symm (h.1 ▸ h.2) b
  cases t with
  | int => exact ⟨_, _, tyB "int" "int" h2 (by first | decide +kernel | kernel_rfl), .ty _, rfl⟩
  | bool => exact ⟨_, _, tyB "bool" "bool" h2 (by first | decide +kernel | kernel_rfl), .ty _, rfl⟩
  | str => exact ⟨_, _, tyB "str" "str" h2 (by first | decide +kernel | kernel_rfl), .ty _, rfl⟩
  | tuple => exact ⟨_, _, tyB "tuple" "tuple" h2 (by first | decide +kernel | kernel_rfl), .ty _, rfl⟩
  | list => exact ⟨_, _, tyB "list" "list" h2 (by first | decide +kernel | kernel_rfl), .ty _, rfl⟩
  | dict => exact ⟨_, _, tyB "dict" "dict" h2 (by first | decide +kernel | kernel_rfl), .ty _, rfl⟩
  | cls c =>
    have h2 : (if c = 19 then decide (x = "ValueError") else decide (G.clm.lookup x = some c)) = true := h2
    by_cases hc : c = 19
    · rw [if_pos hc] at h2
      exact ⟨_, _, bt "ValueError" "ValueError" (of_decide_eq_true h2) (by decide +kernel) (by first | decide +kernel | kernel_rfl), .ty _, by simp [tyV, hc]⟩
    · rw [if_neg hc] at h2
      obtain ⟨a, h4, h5⟩ := g.fct.mgC x c (of_decide_eq_true h2)
      exact ⟨.ref a, .ref a, pe_glob gl h5 rfl db, .own a, by simp [tyV, hc, h4]⟩
theorem star1 {e : Expr} (h : isStar e = false) (env : PySem.Env) : starEach [e] env = (false, eval e env) :: starEach [] env := star_cons h [] env
/-- a built-in function by name -/
theorem Good.bi (g : Good G T k C S W X) (hc : X.calm = true) {b : Bi} {n : PySem.Str} {p pos : Pos} {y : Expr} {ty : TE} (hb : biN b = some n) (hn : b ≠ .min2 ∧ b ≠ .max2) (h1 : glB S n = true) (hs : isStar y = false) (hy : PE X y ty) :
    PE X (.Call (.Name n p) [y] [] pos) (tCB (rC1 (b1 b)) (tCons ty tNil)) := by
  obtain ⟨gl, db⟩ := g.gl h1
  have ha : PA X [y] (tCons ty tNil) := pa_cons hy pa_nil (star1 hs _)
  have he := star1 hs X.env
  have fn : ∀ (id : String) (xs : PySem.Str), xs = n → CallR X (.builtin id) (rC1 (b1 b)) → xs ∈ bnames → bootBuiltins xs = some (.builtin id) → xs ≠ "__name__" → PE X (.Call (.Name n p) [y] [] pos) (tCB (rC1 (b1 b)) (tCons ty tNil)) := fun id xs e cr m bb nn => by
    subst e
    exact pe_callB cr gl (g.fct.mgB _ m) bb ha nn db he rfl
  have ty' : ∀ (id : String) (xs : PySem.Str), xs = n → CallR X (.type id) (rC1 (b1 b)) → xs ∈ bnames → bootBuiltins xs = some (.type id) → xs ≠ "__name__" → PE X (.Call (.Name n p) [y] [] pos) (tCB (rC1 (b1 b)) (tCons ty tNil)) := fun id xs e cr m bb nn => by
    subst e
    exact pe_callTy cr gl (g.fct.mgB _ m) bb ha nn db he rfl
  cases b with
  | len => exact fn "len" "len" (Option.some.inj hb) b1_len (by decide +kernel) (by first | decide +kernel | kernel_rfl) (by decide +kernel)
  | abs => exact fn "abs" "abs" (Option.some.inj hb) b1_abs (by decide +kernel) (by first | decide +kernel | kernel_rfl) (by decide +kernel)
  | int => exact ty' "int" "int" (Option.some.inj hb) b1_int (by decide +kernel) (by first | decide +kernel | kernel_rfl) (by decide +kernel)
  | list => exact ty' "list" "list" (Option.some.inj hb) b1_list (by decide +kernel) (by first | decide +kernel | kernel_rfl) (by decide +kernel)
  | tuple => exact ty' "tuple" "tuple" (Option.some.inj hb) b1_tuple (by decide +kernel) (by first | decide +kernel | kernel_rfl) (by decide +kernel)
  | all => exact fn "all" "all" (Option.some.inj hb) (b1_all hc) (by decide +kernel) (by first | decide +kernel | kernel_rfl) (by decide +kernel)
  | any => exact fn "any" "any" (Option.some.inj hb) (b1_any hc) (by decide +kernel) (by first | decide +kernel | kernel_rfl) (by decide +kernel)
  | repr => exact fn "repr" "repr" (Option.some.inj hb) (b1_repr g.gd (by have := g.un; omega)) (by decide +kernel) (by first | decide +kernel | kernel_rfl) (by decide +kernel)
  | str => exact ty' "str" "str" (Option.some.inj hb) b1_str (by decide +kernel) (by first | decide +kernel | kernel_rfl) (by decide +kernel)
  | sum => exact fn "sum" "sum" (Option.some.inj hb) (b1_sum hc) (by decide +kernel) (by first | decide +kernel | kernel_rfl) (by decide +kernel)
  | min2 => exact absurd rfl hn.1
  | max2 => exact absurd rfl hn.2
  | _ => cases hb
theorem Good.bi2 (g : Good G T k C S W X) (hc : X.calm = true) {b : Bi} {n : PySem.Str} {p pos : Pos} {y z : Expr} {ty tz : TE} (hb : biN b = some n) (hn : b = .min2 ∨ b = .max2) (h1 : glB S n = true) (hs : isStar y = false) (hs2 : isStar z = false) (hy : PE X y ty) (hz : PE X z tz) :
    PE X (.Call (.Name n p) [y, z] [] pos) (tCB (rC2 (b2 b)) (tCons ty (tCons tz tNil))) := by
  obtain ⟨gl, db⟩ := g.gl h1
  have ha : PA X [y, z] (tCons ty (tCons tz tNil)) := pa_cons hy (pa_cons hz pa_nil (star1 hs2 _)) (star_cons hs _ _)
  have he := star_cons hs [z] X.env
  have hp : (backTo pos (starEach [z] X.env)).any (·.1) = false := star_any (by simp [hs2]) _ _
  rcases hn with rfl | rfl
  · have e : n = "min" := (Option.some.inj hb).symm
    subst e
    exact pe_callB (b2_min hc) gl (g.fct.mgB _ (by decide +kernel)) (by first | decide +kernel | kernel_rfl) ha (by decide +kernel) db he hp
  · have e : n = "max" := (Option.some.inj hb).symm
    subst e
    exact pe_callB (b2_max hc) gl (g.fct.mgB _ (by decide +kernel)) (by first | decide +kernel | kernel_rfl) ha (by decide +kernel) db he hp
theorem Good.isi (g : Good G T k C S W X) {n : PySem.Str} {p pos p2 : Pos} {y : Expr} {x : PySem.Str} {r : List V → Hp → VK → Prop} {ty : TE} {cv : V} (hr : CallR X (.builtin "isinstance") r) (hn : n = "isinstance") (h1 : glB S n = true) (hs : isStar y = false) (hy : PE X y ty) (hx : PE X (.Name x p2) (tC cv)) :
    PE X (.Call (.Name n p) [y, .Name x p2] [] pos) (tCB r (tCons ty (tCons (tC cv) tNil))) := by
  obtain ⟨gl, db⟩ := g.gl h1
  subst hn
  exact pe_callB hr gl (g.fct.mgB _ (by decide +kernel)) (by first | decide +kernel | kernel_rfl) (pa_cons hy (pa_cons hx pa_nil rfl) (star_cons hs _ _)) (by decide +kernel) db (star_cons hs _ _) rfl
theorem tE.xis {σ : L2.St} {H : Hp} {Q : VK} {c i : Nat} {cv : V} {w : Value} (g : Fct G T k C.Φ X) {z : XI} {D : Addr} (hz : T.ξ = some z) (hi : z.i = i) (hx : C.ξ = some z.d) (hD : z.cls = .ref D) (ha : Ty.cls c ∈ G.asks) (ht : tyV T (.cls c) = some w) (hc : ClsV cv w) (h : tE T G.Κ C W (.xis c) σ H Q) :
    tCB (rIsX X.K D z.a z.dx) (tCons (tVar i) (tCons (tC cv) tNil)) σ H Q := by
  obtain ⟨sx, O, F, ρ, f, h⟩ := h
  have h : Fin T W O F H σ (match C.ξ with
    | some x => R.of ((isTy G.Κ x (.cls c)).map .bl) ρ
    | none => .no) Q := h
  rw [hx] at h
  obtain ⟨A, f'⟩ := id f
  obtain ⟨c0, vs, D', e1, e2, e3, e4⟩ := (f'.xc z hz).ex
  rw [hD] at e3
  cases e3
  have h : Fin T W O F H σ (R.of ((isTy G.Κ z.d (.cls c)).map .bl) ρ) Q := h
  rw [e1] at h
  have et : isTy G.Κ (.exc c0 vs) (.cls c) = isTy G.Κ (.exc c0 []) (.cls c) := rfl
  rw [et] at h
  cases eb : isTy G.Κ (.exc c0 []) (.cls c) with
  | none => rw [eb] at h; exact h.elim
  | some b =>
    rw [eb] at h
    refine ⟨.ref z.a, by rw [← hi]; exact sx z hz, ⟨e4.elim (fun z => .inl z.2) fun ⟨_, _, d, _, e5, e6, _⟩ => .inr ⟨d, _, e5, e6⟩, cv, w, b, rfl, fun u r => hc.eq r, g.xkit c0 D c w b e2 ha ht eb, h _ H O (Keep.refl ..) (f.add rfl (.bl _))⟩⟩
theorem tE.xfld {σ : L2.St} {H : Hp} {Q : VK} {m i : Nat} {z : XI} {D : Addr} (hz : T.ξ = some z) (hi : z.i = i) (hx : C.ξ = some z.d) (hD : z.cls = .ref D) (h : tE T G.Κ C W (.xfld m) σ H Q) :
    tXf z.a z.cls z.dx D (fname m) (tVar i) σ H Q := by
  obtain ⟨sx, O, F, ρ, f, h⟩ := h
  have h : Fin T W O F H σ (match C.ξ with
    | some x => R.of (plain (fldD x m)) ρ
    | none => .no) Q := h
  rw [hx] at h
  obtain ⟨A, f'⟩ := id f
  obtain ⟨c0, vs, D', e1, e2, e3, e4⟩ := (f'.xc z hz).ex
  have h : Fin T W O F H σ (R.of (plain (fldD z.d m)) ρ) Q := h
  rw [e1] at h
  refine ⟨.ref z.a, by rw [← hi]; exact sx z hz, rfl, hD, ?_⟩
  rcases e4 with ⟨rfl, _⟩ | ⟨y, v, d, rfl, e5, e6, e7, r⟩
  · exact h.elim
  · have h : Fin T W O F H σ (R.of (plain (if m = xfOf c0 then some y else none)) ρ) Q := h
    by_cases hm : m = xfOf c0
    · rw [if_pos hm] at h
      cases ho : y.isOwn with
      | true => simp [plain, ho] at h; exact h.elim
      | false =>
        simp only [plain, ho, Bool.false_eq_true, if_false] at h
        exact ⟨d, _, v, e5, e6, by rw [hm]; simp, h _ H O (Keep.refl ..) (f.add ho r)⟩
    · rw [if_neg hm] at h
      exact h.elim
end
end Vm
/-! #### part Vef2 -/
namespace Vm
open PySem PySem.Spec PyProof.Rows L2
section
variable {G : Gt} {T : Tab} {k : Nat} {C : Cf}
theorem Fct.same {Φ : Nat → List D → R D} {X Y : Cx} (h : Fct G T k Φ X) (e1 : Y.K = X.K) (e2 : Y.mg = X.mg) (e3 : Y.prog = X.prog) (e4 : Y.w = X.w) (e5 : Y.base = X.base) : Fct G T k Φ Y := by
  obtain ⟨a1, a2, a3, a4, a5, a6, a7, a8, a9, a10, a11, a12, a13, a14, a15, a16, a17, a18, a20, a19⟩ := h
  have a17' : ∀ c D, T.xcl c = some D → XfC Y.K D ∧ ExcC Y.K D ∧ Raises Y (.ref D) ∧ PySem.W.keepIn Y.K (.ref D) = true := fun c D h => by
    obtain ⟨b1, b2, b3, b4⟩ := a17 c D h
    rw [← e1] at b1 b2 b4
    exact ⟨b1, b2, fun M h k => b3 M h (by rw [← e1]; exact k), b4⟩
  rw [← e1] at a1 a2 a6 a7 a8 a9 a10 a11 a14 a15 a16 a18 a19
  rw [← e2] at a2 a3 a4 a5 a6 a18
  rw [← e3, ← e4, ← e5] at a6 a18
  exact ⟨a1, a2, a3, a4, a5, a6, a7, a8, a9, a10, a11, a12, a13, a14, a15, a16, a17', a18, a20, a19⟩
theorem Good.blk {S : Sc} {W : WX} {X : Cx} (g : Good G T k C S W X) (hn : S.xi = none) (s : Shared) (H : Hp) (scope : Scope) (c : Addr) (cl : List (PySem.Str × Addr)) (fp : List Addr) : Good G T k C (blkSc S scope) W0 (X.blk s H scope (compEnvC scope cl c X.env) fp) where
  fct := g.fct.same rfl rfl rfl rfl rfl
  N := g.N
  sc := by show relS scope X.env.scope = relS scope S.sc; rw [g.sc]
  nd := g.nd
  fn := fun x => rfl
  calm := g.calm
  un := g.un
  gd := g.gd
  tk := fun u s' x => by
    obtain ⟨_, _, _, _, _, _, _, _, _, _, _, _, _, _, _, _, _, w⟩ := x
  xis := fun i e => by
    have e : S.xi = some i := e
    cases hn.symm.trans e
  no := g.no
theorem sLit {S : Sc} {W : WX} {X : Cx} (g : Good G T k C S W X) {d : D} {x : Expr} (h : chkQ G S (.lit d) x = true) : PE X x (tE T G.Κ C W (.lit d)) := by
  unfold chkQ at h
  split at h
  · exact (litB_pe h).imp fun _ _ _ z => z.lit fun _ _ => litB_rep h
  · rename_i n _
    rw [Bool.and_eq_true] at h
    split at h
    · rename_i i
      have e := of_decide_eq_true h.2
      exact (glob_lit g h.1 e).imp fun _ _ _ z => z.lit fun _ _ => ⟨rfl, .int _⟩
    · simp at h
  · cases h
theorem chkL_len {S : Sc} : ∀ {es : List E} {xs : List Expr}, chkL G S es xs = true → es.length = xs.length
  | [], [], _ => rfl
  | e :: es, x :: xs, h => by
    unfold chkL at h
    rw [Bool.and_eq_true] at h
    simp [chkL_len h.2]
  | [], _ :: _, h => by simp [chkL] at h
  | _ :: _, [], h => by simp [chkL] at h
theorem tO_E {X : Cx} {W : WX} {e : E} {x : Expr} (h : PE X x (tO T G.Κ C W e)) : PE X x (tE T G.Κ C W e) := h.imp fun _ _ _ z => tE.of z
theorem tO_G {X : Cx} {W : WX} {e : E} {x : Expr} (h : PE X x (tO T G.Κ C W e)) : PE X x (tG T G.Κ C W e) := by
  unfold tG
  cases hr : recvOf e with
  | some i =>
    have := recv_some hr
    subst this
    exact h
  | none => exact tO_E h
/-- a list's own method with one argument -/
theorem Good.lm {S : Sc} {W : WX} {X : Cx} (g : Good G T k C S W X) {i : Nat} {n a : PySem.Str} {id : String} {p ap cp : Pos} {y : Expr} {ty : TE} {r : V → List V → Hp → VK → Prop} (slot : Slot "list" a id) (hty : typeOf (.builtin id) = pure (.type "method_descriptor")) (hm : MtR X id r)
    (hv : visB S i n = true) (hl : (ap.endLine == cp.line) = true) (hs : isStar y = false) (hy : PE X y ty) : PE X (.Call (.Attribute (.Name n p) a ap) [y] [] cp) (tBM X.K "list" r (tVar i) (tCons ty tNil)) := by
  have hs1 : ([y] : List Expr).any isStar = false := by simp [hs]
  exact pe_bm PySem.F.plainAttrs_list slot hty hm (g.vis hv) (pa_cons hy pa_nil (star1 hs _)) (attrB rfl ..) (by
    rw [star_all hs1]
    rfl) hl (star1 hs _) rfl
variable (G T k C) in
def SO (e : E) : Prop := ∀ (S : Sc) (W : WX) (X : Cx), Good G T k C S W X → ∀ x : Expr, chkE G S e x = true → PE X x (tO T G.Κ C W e)
variable (G T k C) in
def ST (e : E) : Prop := ∀ (S : Sc) (W : WX) (X : Cx), Good G T k C S W X → ∀ x : Expr, chkE G S e x = true → PT X x (tTs T G.Κ C W e)
variable (G T k C) in
def SL (es : List E) : Prop := ∀ (S : Sc) (W : WX) (X : Cx), Good G T k C S W X → ∀ xs : List Expr, chkL G S es xs = true → xs.any isStar = false → PA X xs (tL T G.Κ C W es)
variable (G T k C) in
def SA (es : List E) : Prop := ∀ (S : Sc) (W : WX) (X : Cx), Good G T k C S W X → ∀ xs : List Expr, chkL G S es xs = true → xs.any isStar = false → PA X xs (tA T G.Κ C W es)
variable (G T k C) in
def SI (it : It) : Prop := ∀ (S : Sc) (W : WX) (X : Cx), Good G T k C S W X → ∀ tg x : Expr, chkI G S it x = true → PI X tg x (tI T G.Κ C W it)
variable (G T k C) in
def SF (e : Option E) : Prop := ∀ (S : Sc) (W : WX) (X : Cx), Good G T k C S W X → ∀ x : List Expr, chkF G S e x = true → PTs X x (tF T G.Κ C W e)
theorem sOo (e : Option E) (S : Sc) (W : WX) (X : Cx) (g : Good G T k C S W X) (x : Option Expr) (h : chkO G S e x = true) : PO X x (tOo T e) := by
  cases e with
  | none => cases x with
    | none => exact po_none
    | some y => simp [chkO] at h
  | some q => cases x with
    | none => simp [chkO] at h
    | some y =>
      unfold chkO at h
      exact po_some (sQ g q y h)
theorem tE.cmpH {W : WX} {σ : L2.St} {H : Hp} {Q : VK} {a b : E} {o : CO} (hn : ∀ f as, C.Φ f as = .no) (h : tE T G.Κ C W (.cmp o a b) σ H Q) : tOp (rOp (cop o)) (tO T G.Κ C W a) (tO T G.Κ C W b) σ H Q := by
  obtain ⟨sx, O, F, ρ, f, h⟩ := h
  refine operands sx f ?_
  have h : Fin T W O F H σ ((pkB2 a (ev G.Κ C a) b (ev G.Κ C b) ρ).bind fun xy ρ1 => cmpV G.Κ C.Φ o xy.1 xy.2 ρ1) Q := h
  cases q : pkB2 a (ev G.Κ C a) b (ev G.Κ C b) ρ with
  | no => rw [q] at h; exact h
  | ex x ρ1 => rw [q] at h; exact h
  | ok d ρ1 =>
    rw [q, R.bind_ok] at h
    intro v w H' O' k1 f1 p1 p2
    have h := Fin.step (F' := F) k1 (fun _ z => z) h
    have data : Fin T W O' F H' σ (R.of (cop o d.1 d.2) ρ1) Q → rOp (cop o) v w H' Q := fun h => by
      cases e : cop o d.1 d.2 with
      | none => rw [e] at h; exact h.elim
      | some z =>
        rw [e] at h
        exact ⟨T, O', F, ρ1, σ, _, _, z, f1, p1, p2, e, fun u H2 O2 k2 f2 => h u H2 O2 k2 f2⟩
    obtain ⟨d1, d2⟩ := d
    have ni : ∀ neg c x y, eqI G.Κ C.Φ neg c x y ρ1 = .no := fun neg c x y => by
      unfold eqI
      cases (G.Κ c).bind Cls.eq with
      | none => rfl
      | some f =>
        dsimp only
        split
        · rfl
        · rw [hn]
    dsimp only at h data
    unfold cmpV at h
    split at h
    · rw [ni] at h; exact h.elim
    · rw [ni] at h; exact h.elim
    · exact data h
theorem SO_lit {d : D}  : SO G T k C (.lit d) := fun S W X g x h => by
    unfold chkE at h
    exact sLit g h
theorem SO_rd {p : P}  : SO G T k C (.rd p) := fun S W X g x h => by
    unfold chkE at h
    cases p with
    | loc i =>
      unfold chkP at h
      split at h
      · exact g.vis h
      · cases h
    | fld p f => exact sP g _ x h
    | at_ p q => exact sP g _ x h
theorem SO_tup {es : List E} (iL_es : SL G T k C es) : SO G T k C (.tup es) := fun S W X g x h => by
    unfold chkE at h
    split at h
    · simp only [Bool.and_eq_true, Bool.not_eq_true', decide_eq_true_eq] at h
      obtain ⟨⟨h1, h2⟩, h3⟩ := h
      exact (pe_tup (iL_es S W X g _ h3 h1)).imp fun _ _ _ z => tE.tup (by rw [chkL_len h3]; exact h2) z
    · cases h
theorem SO_lst {keep : Bool} {es : List E} (iL_es : SL G T k C es) : SO G T k C (.lst keep es) := fun S W X g x h => by
    unfold chkE at h
    split at h
    · simp only [Bool.and_eq_true, Bool.not_eq_true', decide_eq_true_eq] at h
      obtain ⟨⟨⟨h0, h1⟩, h2⟩, h3⟩ := h
      subst h0
      exact (pe_lst (iL_es S W X g _ h3 h1)).imp fun _ _ _ z => tE.lst (by rw [chkL_len h3]; exact h2) z
    · cases h
theorem SO_dct {ks : List E} {vs : List E}  : SO G T k C (.dct ks vs) := fun S W X g x h => by
    unfold chkE at h
    split at h
    · simp only [Bool.and_eq_true, List.isEmpty_iff] at h
      obtain ⟨rfl, rfl⟩ := h
      exact pe_dnewK.imp fun _ _ _ z => tE.dct z
    · cases h
theorem SO_bin {o : BO} {a : E} {b : E} (iO_a : SO G T k C a) (iO_b : SO G T k C b) : SO G T k C (.bin o a b) := fun S W X g x h => by
    unfold chkE at h
    split at h
    · simp only [Bool.and_eq_true] at h
      obtain ⟨⟨h1, h2⟩, h3⟩ := h
      rw [boB_eq h1]
      exact (pe_op (bop_ok o) (iO_a S W X g _ h2) (iO_b S W X g _ h3)).imp fun _ _ _ z => tE.bin z
    · cases h
theorem SO_neg {a : E} (iO_a : SO G T k C a) : SO G T k C (.neg a) := fun S W X g x h => by
    unfold chkE at h
    split at h
    · exact (pe_un un_neg (tO_E (iO_a S W X g _ h))).imp fun _ _ _ z => tE.neg z
    · cases h
theorem SO_not {a : E} (iO_a : SO G T k C a) : SO G T k C (.not a) := fun S W X g x h => by
    unfold chkE at h
    split at h
    · exact (pe_not (tO_E (iO_a S W X g _ h))).imp fun _ _ _ z => tE.not z
    · cases h
theorem SO_cmp {o : CO} {a : E} {b : E} (iO_a : SO G T k C a) (iO_b : SO G T k C b) : SO G T k C (.cmp o a b) := fun S W X g x h => by
    unfold chkE at h
    split at h
    · simp only [Bool.and_eq_true, Bool.not_eq_true'] at h
      obtain ⟨⟨⟨h1, h2⟩, h3⟩, h4⟩ := h
      rw [coB_eq h1]
      cases hh : S.hot with
      | false =>
        obtain ⟨_, rm, hx⟩ := g.calm hh
        exact (pe_cmpR (op_cmp g.un o rm g.gd) (iO_a S W X g _ h3) (iO_b S W X g _ h4) (noSet_marks h2)).imp fun _ _ _ z => tE.cmp g.fct hx z
      | true =>
        have hu : X.A.units + 65 < cLine := by have := g.un; omega
        exact (pe_cmpR (cop_ok hu o) (iO_a S W X g _ h3) (iO_b S W X g _ h4) (noSet_marks h2)).imp fun _ _ _ z => tE.cmpH (g.no hh) z
    · cases h
theorem SO_cmp2 {o : CO} {o' : CO} {a : E} {b : E} {c : E} (iO_a : SO G T k C a) (iO_b : SO G T k C b) (iO_c : SO G T k C c) : SO G T k C (.cmp2 o o' a b c) := fun S W X g x h => by
    unfold chkE at h
    split at h
    · simp only [Bool.and_eq_true, Bool.not_eq_true'] at h
      obtain ⟨⟨⟨⟨⟨⟨h1, h2⟩, h3⟩, h4⟩, h5⟩, h6⟩, h7⟩ := h
      rw [coB_eq h1, coB_eq h2]
      have hu : X.A.units + 65 < cLine := by have := g.un; omega
      exact (pe_chain (cop_ok hu o) (cop_ok hu o') (tO_E (iO_a S W X g _ h5)) (tO_E (iO_b S W X g _ h6)) (tO_E (iO_c S W X g _ h7)) (noSet_marks h4)).imp fun _ _ _ z => tE.cmp2 z
    · cases h
theorem SO_and {a : E} {b : E} (iO_a : SO G T k C a) (iO_b : SO G T k C b) : SO G T k C (.and a b) := fun S W X g x h => by
    unfold chkE at h
    split at h
    · rw [Bool.and_eq_true] at h
      exact (pe_and (tO_E (iO_a S W X g _ h.1)) (pe_one (tO_E (iO_b S W X g _ h.2)))).imp fun _ _ _ z => tE.and z
    · rw [Bool.and_eq_true] at h
      exact (pe_and (tO_E (iO_a S W X g _ h.1)) (tO_E (iO_b S W X g _ h.2))).imp fun _ _ _ z => tE.and z
    · cases h
theorem SO_or {a : E} {b : E} (iO_a : SO G T k C a) (iO_b : SO G T k C b) : SO G T k C (.or a b) := fun S W X g x h => by
    unfold chkE at h
    split at h
    · rw [Bool.and_eq_true] at h
      exact (pe_or (tO_E (iO_a S W X g _ h.1)) (pe_one (tO_E (iO_b S W X g _ h.2)))).imp fun _ _ _ z => tE.or z
    · rw [Bool.and_eq_true] at h
      exact (pe_or (tO_E (iO_a S W X g _ h.1)) (tO_E (iO_b S W X g _ h.2))).imp fun _ _ _ z => tE.or z
    · cases h
theorem SO_ite {c : E} {a : E} {b : E} (iT_c : ST G T k C c) (iO_a : SO G T k C a) (iO_b : SO G T k C b) : SO G T k C (.ite c a b) := fun S W X g x h => by
    unfold chkE at h
    split at h
    · simp only [Bool.and_eq_true] at h
      obtain ⟨⟨h1, h2⟩, h3⟩ := h
      exact (pe_ifExp (iT_c S W X g _ h1) (tO_E (iO_a S W X g _ h2)) (tO_E (iO_b S W X g _ h3))).imp fun _ _ _ z => tE.ite z
    · cases h
theorem SO_sub {a : E} {i : E} (iO_a : SO G T k C a) (iO_i : SO G T k C i) : SO G T k C (.sub a i) := fun S W X g x h => by
    unfold chkE at h
    split at h
    · simp only [Bool.and_eq_true, Bool.not_eq_true'] at h
      obtain ⟨⟨h1, h2⟩, h3⟩ := h
      exact (pe_ix ix_item (iO_a S W X g _ h2) (iO_i S W X g _ h3) (plainIx_of h1)).imp fun _ _ _ z => tE.sub z
    · cases h
theorem SO_slc {a : E} {lo : Option E} {hi : Option E} (iO_a : SO G T k C a) : SO G T k C (.slc a lo hi) := fun S W X g x h => by
    unfold chkE at h
    split at h
    · simp only [Bool.and_eq_true] at h
      obtain ⟨⟨h1, h2⟩, h3⟩ := h
      exact (pe_slice sl_ok (iO_a S W X g _ h1) (sOo lo S W X g _ h2) (sOo hi S W X g _ h3)).imp fun _ _ _ z => tE.slc z
    · cases h
theorem SO_rev {a : E} (iO_a : SO G T k C a) : SO G T k C (.rev a) := fun S W X g x h => by
    unfold chkE at h
    split at h
    · exact (pe_rev (iO_a S W X g _ h)).imp fun _ _ _ z => tE.rev z
    · cases h
theorem SO_bi {b : Bi} {a : E} (iO_a : SO G T k C a) : SO G T k C (.bi b a) := fun S W X g x h => by
    unfold chkE at h
    split at h
    · simp only [Bool.and_eq_true, Bool.not_eq_true', decide_eq_true_eq] at h
      obtain ⟨⟨⟨⟨⟨⟨h1, m1⟩, m2⟩, h2⟩, h3⟩, h4⟩, h5⟩ := h
      exact (g.bi (g.calm h1).1 h2 ⟨by simpa using m1, by simpa using m2⟩ h3 h4 (iO_a S W X g _ h5)).imp fun _ _ _ z => tE.bi z
    · cases h
theorem SO_bi2 {b : Bi} {a : E} {c : E} (iO_a : SO G T k C a) (iO_c : SO G T k C c) : SO G T k C (.bi2 b a c) := fun S W X g x h => by
    unfold chkE at h
    split at h
    · simp only [Bool.and_eq_true, Bool.not_eq_true', decide_eq_true_eq, Bool.or_eq_true, beq_iff_eq] at h
      obtain ⟨⟨⟨⟨⟨⟨⟨h1, h2⟩, h3⟩, h4⟩, h5⟩, h6⟩, h7⟩, h8⟩ := h
      exact (g.bi2 (g.calm h1).1 h3 h2 h4 h5 h6 (iO_a S W X g _ h7) (iO_c S W X g _ h8)).imp fun _ _ _ z => tE.bi2 z
    · cases h
theorem SO_isi {a : E} {ts : List Ty} (iO_a : SO G T k C a) : SO G T k C (.isi a ts) := fun S W X g x h => by
    unfold chkE at h
    split at h
    · simp only [Bool.and_eq_true, Bool.not_eq_true', decide_eq_true_eq] at h
      obtain ⟨⟨⟨⟨h1, h2⟩, h3⟩, h4⟩, h5⟩ := h
      split at h4
      · rename_i ty
        rw [Bool.and_eq_true, List.contains_iff_mem] at h4
        obtain ⟨cv, w, hcv, hcl, hty⟩ := g.cl h4.2
        exact (g.isi is_ok h1 h2 h3 (iO_a S W X g _ h5) hcv).imp fun _ _ _ z => tE.isi g.fct h4.1 hty hcl z
      · cases h4
    · cases h
theorem SO_call {f : Nat} {args : List E} (iA_args : SA G T k C args) : SO G T k C (.call f args) := fun S W X g x h => by
    unfold chkE at h
    split at h
    · simp only [Bool.and_eq_true, Bool.not_eq_true', decide_eq_true_eq] at h
      obtain ⟨⟨⟨⟨⟨h1, h2⟩, h3⟩, h4⟩, h5⟩, h6⟩ := h
      obtain ⟨gl, db⟩ := g.gl h2
      obtain ⟨a, ha, hm, hk⟩ := g.fct.mgF _ f h3
      obtain ⟨fd, ps, F1, hlp, bd⟩ := g.fct.fns f a ha
      have rm := (g.calm h1).2.1.mono (Nat.le_succ k)
      have pa := iA_args S W X g _ h6 h5
      rename_i n p xs pos
      cases xs with
      | nil =>
        have e : args = [] := List.length_eq_zero_iff.mp (chkL_len h6)
        subst e
        exact (peG_call0 F1 g.gd rm gl hm hk bd (fun σ => passAt g.tk σ) db).imp fun _ _ _ z => tA.nil (tE.call h4.symm z)
      | cons y ys => exact (peG_call F1 g.gd rm gl hm hk bd (fun σ => passAt g.tk σ) pa h5 db).imp fun _ _ _ z => tE.call h4.symm z
    · cases h
theorem SO_new {c : Nat} {args : List E} (iL_args : SL G T k C args) : SO G T k C (.new c args) := fun S W X g x h => by
    unfold chkE at h
    split at h
    · simp only [Bool.and_eq_true, Bool.not_eq_true', decide_eq_true_eq] at h
      obtain ⟨⟨⟨⟨⟨⟨h1, h2⟩, h3⟩, h4⟩, h5⟩, h6⟩, h7⟩ := h
      obtain ⟨gl, db⟩ := g.gl h2
      unfold isExc at h4
      cases ek : G.Κ c with
      | none => rw [ek] at h4; cases h4
      | some kc =>
        rw [ek] at h4 h5
        have h4 : kc.exc = false := h4
        cases ei : kc.init with
        | none => simp [ei] at h5
        | some f =>
          have h5 : G.ar f = args.length + 1 := by simpa [ei] using h5
          obtain ⟨Ca, hC, hm⟩ := g.fct.mgC _ c h3
          have hC : T.cls c = some Ca := by
            cases e1 : T.cls c with
            | some z => rw [e1] at hC; exact hC
            | none =>
              rw [e1] at hC
              have e2 : T.xcl c = some Ca := by simpa using hC
              have := g.fct.xex c Ca e2
              unfold isExc at this
              rw [ek] at this
              have this : kc.exc = true := this
              rw [h4] at this
              cases this
          obtain ⟨a, ha, mk⟩ := g.fct.mks c Ca kc f hC ek ei
          obtain ⟨fd, ps, F1, hlp, bd⟩ := g.fct.fns f a ha
          exact (peG_make mk F1 g.gd (g.calm h1).2.1 gl hm bd (fun σ => passAt g.tk σ) (iL_args S W X g _ h7 h6) h6 db).imp fun _ _ _ z => tE.new ek h4 ei h5.symm hC z
    · cases h
theorem SO_meth {m : Nat} {e : E} {es : List E} (iO_e : SO G T k C e) (iA_es : SA G T k C es) : SO G T k C (.meth m (e :: es)) := fun S W X g x h => by
    unfold chkE at h
    split at h
    · simp only [Bool.and_eq_true, Bool.not_eq_true', decide_eq_true_eq] at h
      obtain ⟨⟨⟨⟨⟨⟨⟨⟨⟨h1, h2⟩, h3⟩, h4⟩, h5⟩, h6⟩, h7⟩, h8⟩, h9⟩, h10⟩ := h
      have rm := (g.calm h1).2.1.mono (Nat.le_succ k)
      have pe := tO_G (iO_e S W X g _ h9)
      have pa := iA_es S W X g _ h10 h6
      rename_i o n ap ys cp
      have imp : ∀ σ H Q, tE T G.Κ C W (.meth m (e :: es)) σ H Q → tMethG X k n (WE W) (tG T G.Κ C W e) (tA T G.Κ C W es) σ H Q := fun _ _ _ z => tE.meth g.fct h2 h4 (fun c kc f a b => by rw [g.fct.mar c kc m f a b, h3]) z
      cases ys with
      | nil =>
        have e0 : es = [] := List.length_eq_zero_iff.mp (chkL_len h10)
        subst e0
        refine (peG_meth0 pe g.gd rm (fun σ => passAt g.tk σ) h5 h8).imp fun σ H Q z => ?_
        have q : tG T G.Κ C W e σ H _ := imp σ H Q z
        have mono : ∀ {K1 K2 : VK}, (∀ x H1, K1 x H1 → K2 x H1) → tG T G.Κ C W e σ H K1 → tG T G.Κ C W e σ H K2 := fun {K1 K2} hk z => by
          unfold tG at z ⊢
          cases hr : recvOf e with
          | some i =>
            rw [hr] at z
            obtain ⟨v, e1, z⟩ := z
            exact ⟨v, e1, hk _ _ z⟩
          | none =>
            rw [hr] at z
            obtain ⟨sx, O, F, ρ, f, z⟩ := z
            refine ⟨sx, O, F, ρ, f, ?_⟩
            cases q : ev G.Κ C e ρ with
            | no => rw [q] at z; exact z
            | ex x ρ1 => rw [q] at z; exact z
            | ok d ρ1 => rw [q] at z; exact fun v H' O' k f => hk _ _ (z v H' O' k f)
        exact mono (fun x H1 ⟨a, Ca, dx, fs, ga, fd, ps, sp, r1, r2, r3, r4, r5, r6, r7, r8⟩ => ⟨a, Ca, dx, fs, ga, fd, ps, sp, r1, r2, r3, r4, r5, r6, r7, tA.nil r8⟩) q
      | cons y ys => exact (peG_meth pe g.gd rm (fun σ => passAt g.tk σ) pa h5 h6 h7 h8).imp imp
    · cases h
theorem SO_app {p : P} {e : E} (iO_e : SO G T k C e) : SO G T k C (.app p e) := fun S W X g x h => by
    unfold chkE at h
    split at h
    · simp only [Bool.and_eq_true, Bool.not_eq_true', decide_eq_true_eq] at h
      obtain ⟨⟨⟨⟨h1, h2⟩, h3⟩, h4⟩, h5⟩ := h
      split at h4
      · subst h1
        exact (g.lm PySem.F.slot_list_append PySem.F.type_list_append mt_append h4 h2 h3 (tO_E (iO_e S W X g _ h5))).imp fun _ _ _ z => tE.app z
      · cases h4
    · cases h
theorem SO_ext {p : P} {e : E} (iO_e : SO G T k C e) : SO G T k C (.ext p e) := fun S W X g x h => by
    unfold chkE at h
    split at h
    · simp only [Bool.and_eq_true, Bool.not_eq_true', decide_eq_true_eq] at h
      obtain ⟨⟨⟨⟨h1, h2⟩, h3⟩, h4⟩, h5⟩ := h
      split at h4
      · subst h1
        exact (g.lm PySem.F.slot_list_extend PySem.F.type_list_extend mt_extend h4 h2 h3 (tO_E (iO_e S W X g _ h5))).imp fun _ _ _ z => tE.ext z
      · cases h4
    · cases h
theorem SO_popA {p : P} {e : E} (iO_e : SO G T k C e) : SO G T k C (.popA p e) := fun S W X g x h => by
    unfold chkE at h
    split at h
    · simp only [Bool.and_eq_true, Bool.not_eq_true', decide_eq_true_eq] at h
      obtain ⟨⟨⟨⟨h1, h2⟩, h3⟩, h4⟩, h5⟩ := h
      split at h4
      · subst h1
        exact (g.lm PySem.F.slot_list_pop PySem.F.type_list_pop mt_popAt h4 h2 h3 (tO_E (iO_e S W X g _ h5))).imp fun _ _ _ z => tE.popA z
      · cases h4
    · cases h
theorem SO_comp {keep : Bool} {elt : E} {tg : Tg} {it : It} {ifs : Option E} {vs : List Nat} (iI_it : SI G T k C it) (iO_elt : SO G T k C elt) (iF_ifs : SF G T k C ifs) : SO G T k C (.comp keep elt tg it ifs vs) := fun S W X g x h => by
    unfold chkE at h
    split at h
    · simp only [Bool.and_eq_true, Bool.not_eq_true'] at h
      obtain ⟨⟨⟨⟨⟨⟨⟨⟨⟨h0, h1⟩, h2⟩, h3⟩, h4⟩, h5⟩, h6⟩, h7⟩, h8⟩, h9⟩ := h
      subst h0
      rename_i ee te ie fs scope pos
      have hxi : S.xi = none := by simpa using h2
      obtain ⟨hc, _, hx⟩ := g.calm h1
      have bk : BlkOk X.N X.env.scope scope (ownN S vs) := by rw [g.N, g.sc]; exact blkOk_by h4
      have gb := fun s H c cl fp => g.blk hxi s H scope c cl fp
      have own : (ownN S vs).map (·.2) = vs := by unfold ownN; rw [List.map_map]; exact List.map_id' vs
      have := pe_lc (g := gT X.K tg) (pos := pos) hc g.nd (iI_it S W X g te ie h7) bk (fun s H c cl fp => sG (gb s H c cl fp) hc tg te h5) (fun s H c cl fp => iF_ifs (blkSc S scope) W0 _ (gb s H c cl fp) fs h8) (fun s H c cl fp => tO_E (iO_elt (blkSc S scope) W0 _ (gb s H c cl fp) ee h9)) (noSet_fold h3 _)
      rw [own] at this
      refine this.imp fun _ _ _ z => tE.comp hx (fun i hi => ?_) z
      have := List.all_eq_true.mp h6 i hi
      simpa using this
    · cases h
theorem SO_xis {c : Nat}  : SO G T k C (.xis c) := fun S W X g x h => by
    unfold chkE at h
    split at h
    · simp only [Bool.and_eq_true, decide_eq_true_eq] at h
      obtain ⟨⟨⟨⟨h1, h2⟩, h3⟩, h4⟩, h5⟩ := h
      split at h3
      · rename_i i hi
        obtain ⟨z, D, c0, e0, e1, e2, e3, e4, cr, _⟩ := (g.xis i hi).at_
        obtain ⟨cv, w, hcv, hcl, hty⟩ := g.cl h5
        exact (g.isi cr h1 h2 rfl (g.vis h3) hcv).imp fun _ _ _ q => tE.xis g.fct e1 e2 e3 e4 (by simpa using h4) hty hcl q
      · cases h3
    · cases h
theorem SO_xfld {f : Nat}  : SO G T k C (.xfld f) := fun S W X g x h => by
    unfold chkE at h
    split at h
    · simp only [Bool.and_eq_true, fldB, decide_eq_true_eq] at h
      obtain ⟨⟨h1, h2⟩, h3⟩ := h
      split at h3
      · rename_i i hi
        obtain ⟨z, D, c0, e0, e1, e2, e3, e4, _, fr⟩ := (g.xis i hi).at_
        rw [← h2]
        exact (fr _ _ (fname f) _ rfl (g.fct.xnf c0 D e0 f h1) (g.vis h3)).imp fun _ _ _ q => tE.xfld e1 e2 e3 e4 q
      · cases h3
    · cases h
end
end Vm
/-! #### part Veg -/
namespace Vm
open PySem PySem.Spec PyProof.Rows L2
section
variable {G : Gt} {T : Tab} {k : Nat} {C : Cf}
def tstE : E → Bool
  | .not _ | .and _ _ | .or _ _ | .ite _ _ _ | .cmp _ _ _ | .cmp2 _ _ _ _ _ => true
  | _ => false
theorem noP {S : Sc} {p : P} {x : Expr} (h : chkP G S p x = true) : isTst x = false := by
  cases p with
  | loc i =>
    unfold chkP at h
    split at h
    · rfl
    · cases h
  | fld p f =>
    unfold chkP at h
    split at h
    · rfl
    · cases h
  | at_ p q =>
    unfold chkP at h
    split at h
    · rfl
    · cases h
theorem noTst {S : Sc} {e : E} {x : Expr} (h : chkE G S e x = true) (hn : tstE e = false) : isTst x = false := by
  cases e with
  | lit d =>
    unfold chkE at h
    unfold chkQ at h
    split at h
    · rfl
    · rfl
    · cases h
  | rd p =>
    unfold chkE at h
    exact noP h
  | not _ | and _ _ | or _ _ | ite _ _ _ | cmp _ _ _ | cmp2 _ _ _ _ _ => cases hn
  | neg a =>
    unfold chkE at h
    split at h
    · rfl
    · cases h
  | meth m es =>
    cases es with
    | nil => simp [chkE] at h
    | cons e es =>
      unfold chkE at h
      split at h
      · rfl
      · cases h
  | mv _ | fnv _ | attr _ _ | pop _ | lrng _ => simp [chkE] at h
  | _ =>
    unfold chkE at h
    split at h
    · rfl
    · cases h
variable (G T k C) in
def SW (e : E) : Prop := ∀ (S : Sc) (W : WX) (X : Cx), Good G T k C S W X → ∀ op l p, chkE G S e (.BoolOp op l p) = true → PW X (.BoolOp op l p) (tTs T G.Κ C W e)
variable (G T k C) in
def Sall (e : E) : Prop := SO G T k C e ∧ ST G T k C e ∧ SW G T k C e
theorem SW_no {e : E} (hn : tstE e = false) : SW G T k C e := fun S W X g op l p h => by
  have := noTst h hn
  cases this
theorem ST_of {e : E} (hn : tstE e = false) (h : SO G T k C e) : ST G T k C e := fun S W X g x hx => (pt_plain (tO_E (h S W X g x hx)) (noTst hx hn)).imp fun _ _ _ z => tTs.val z
theorem Sall_of {e : E} (hn : tstE e = false) (h : SO G T k C e) : Sall G T k C e := ⟨h, ST_of hn h, SW_no hn⟩
theorem Sall_not {a : E} (ia : Sall G T k C a) : Sall G T k C (.not a) := by
  refine ⟨SO_not ia.1, fun S W X g x h => ?_, fun S W X g op l p h => ?_⟩
  · unfold chkE at h
    split at h
    · exact (pt_not (ia.2.1 S W X g _ h)).imp fun _ _ _ z => tTs.not z
    · cases h
  · unfold chkE at h
    cases h
theorem SW_and {a b : E} (ia : Sall G T k C a) (ib : Sall G T k C b) : SW G T k C (.and a b) := fun S W X g op l p h => by
  unfold chkE at h
  split at h
  · rename_i e
    cases e
    rw [Bool.and_eq_true] at h
    exact (pw_and (ia.2.1 S W X g _ h.1) (pw_and1 (ib.2.1 S W X g _ h.2))).imp fun _ _ _ z => tTs.and z
  · rename_i e
    cases e
    rw [Bool.and_eq_true] at h
    exact (pw_and (ia.2.1 S W X g _ h.1) (ib.2.2 S W X g _ _ _ h.2)).imp fun _ _ _ z => tTs.and z
  · cases h
theorem SW_or {a b : E} (ia : Sall G T k C a) (ib : Sall G T k C b) : SW G T k C (.or a b) := fun S W X g op l p h => by
  unfold chkE at h
  split at h
  · rename_i e
    cases e
    rw [Bool.and_eq_true] at h
    exact (pw_or (ia.2.1 S W X g _ h.1) (pw_or1 (ib.2.1 S W X g _ h.2))).imp fun _ _ _ z => tTs.or z
  · rename_i e
    cases e
    rw [Bool.and_eq_true] at h
    exact (pw_or (ia.2.1 S W X g _ h.1) (ib.2.2 S W X g _ _ _ h.2)).imp fun _ _ _ z => tTs.or z
  · cases h
theorem chk_and {S : Sc} {a b : E} {x : Expr} (h : chkE G S (.and a b) x = true) : ∃ l p, x = .BoolOp .And l p := by
  unfold chkE at h
  split at h
  · exact ⟨_, _, rfl⟩
  · exact ⟨_, _, rfl⟩
  · cases h
theorem chk_or {S : Sc} {a b : E} {x : Expr} (h : chkE G S (.or a b) x = true) : ∃ l p, x = .BoolOp .Or l p := by
  unfold chkE at h
  split at h
  · exact ⟨_, _, rfl⟩
  · exact ⟨_, _, rfl⟩
  · cases h
theorem Sall_and {a b : E} (ia : Sall G T k C a) (ib : Sall G T k C b) : Sall G T k C (.and a b) := by
  refine ⟨SO_and ia.1 ib.1, fun S W X g x h => ?_, SW_and ia ib⟩
  obtain ⟨l, p, rfl⟩ := chk_and h
  exact (SW_and ia ib S W X g _ _ _ h).pt
theorem Sall_or {a b : E} (ia : Sall G T k C a) (ib : Sall G T k C b) : Sall G T k C (.or a b) := by
  refine ⟨SO_or ia.1 ib.1, fun S W X g x h => ?_, SW_or ia ib⟩
  obtain ⟨l, p, rfl⟩ := chk_or h
  exact (SW_or ia ib S W X g _ _ _ h).pt
theorem Sall_ite {c a b : E} (ic : Sall G T k C c) (ia : Sall G T k C a) (ib : Sall G T k C b) : Sall G T k C (.ite c a b) := by
  refine ⟨SO_ite ic.2.1 ia.1 ib.1, fun S W X g x h => ?_, fun S W X g op l p h => ?_⟩
  · unfold chkE at h
    split at h
    · simp only [Bool.and_eq_true] at h
      obtain ⟨⟨h1, h2⟩, h3⟩ := h
      exact (pt_ifExp (ic.2.1 S W X g _ h1) (ia.2.1 S W X g _ h2) (ib.2.1 S W X g _ h3)).imp fun _ _ _ z => tTs.ite z
    · cases h
  · unfold chkE at h
    cases h
theorem Sall_cmp {o : CO} {a b : E} (ia : Sall G T k C a) (ib : Sall G T k C b) : Sall G T k C (.cmp o a b) := by
  refine ⟨SO_cmp ia.1 ib.1, fun S W X g x h => ?_, fun S W X g op l p h => ?_⟩
  · unfold chkE at h
    split at h
    · simp only [Bool.and_eq_true, Bool.not_eq_true'] at h
      obtain ⟨⟨⟨h1, h2⟩, h3⟩, h4⟩ := h
      rw [coB_eq h1]
      cases hh : S.hot with
      | false =>
        obtain ⟨_, rm, hx⟩ := g.calm hh
        exact (pt_cmpR (op_cmp g.un o rm g.gd) (ia.1 S W X g _ h3) (ib.1 S W X g _ h4) (noSet_marks h2)).imp fun _ _ _ z => tE.cmp g.fct hx (tTs.val z)
      | true =>
        have hu : X.A.units + 65 < cLine := by have := g.un; omega
        exact (pt_cmpR (cop_ok hu o) (ia.1 S W X g _ h3) (ib.1 S W X g _ h4) (noSet_marks h2)).imp fun _ _ _ z => tE.cmpH (g.no hh) (tTs.val z)
    · cases h
  · unfold chkE at h
    cases h
theorem Sall_cmp2 {o o' : CO} {a b c : E} (ia : Sall G T k C a) (ib : Sall G T k C b) (ic : Sall G T k C c) : Sall G T k C (.cmp2 o o' a b c) := by
  refine ⟨SO_cmp2 ia.1 ib.1 ic.1, fun S W X g x h => ?_, fun S W X g op l p h => ?_⟩
  · unfold chkE at h
    split at h
    · simp only [Bool.and_eq_true, Bool.not_eq_true'] at h
      obtain ⟨⟨⟨⟨⟨⟨h1, h2⟩, h3⟩, h4⟩, h5⟩, h6⟩, h7⟩ := h
      rw [coB_eq h1, coB_eq h2]
      have hu : X.A.units + 65 < cLine := by have := g.un; omega
      exact (pt_chain (cop_ok hu o) (cop_ok hu o') (tO_E (ia.1 S W X g _ h5)) (tO_E (ib.1 S W X g _ h6)) (tO_E (ic.1 S W X g _ h7)) (noSet_marks h4)).imp fun _ _ _ z => tE.cmp2 (tTs.val z)
    · cases h
  · unfold chkE at h
    cases h
theorem SF_none : SF G T k C none := fun S W X g x h => by
  cases x with
  | nil => exact pts_nil
  | cons a r => simp [chkF] at h
theorem SF_some {e : E} (ie : Sall G T k C e) : SF G T k C (some e) := fun S W X g x h => by
  match x, h with
  | [x], h =>
    unfold chkF at h
    exact pts_one (ie.2.1 S W X g x h)
  | [], h => simp [chkF] at h
  | _ :: _ :: _, h => simp [chkF] at h
variable (G T k C) in
def SLA (es : List E) : Prop := SL G T k C es ∧ SA G T k C es
theorem SLA_nil : SLA G T k C [] := by
  refine ⟨fun S W X g xs h hs => ?_, fun S W X g xs h hs => ?_⟩
  · cases xs with
    | nil => exact pa_nil.imp fun _ _ _ z => tL.nil z
    | cons a r => simp [chkL] at h
  · cases xs with
    | nil => exact pa_nil.imp fun _ _ _ z => tA.nil z
    | cons a r => simp [chkL] at h
theorem SLA_cons {e : E} {es : List E} (ie : Sall G T k C e) (ies : SLA G T k C es) : SLA G T k C (e :: es) := by
  refine ⟨fun S W X g xs h hs => ?_, fun S W X g xs h hs => ?_⟩
  · cases xs with
    | nil => simp [chkL] at h
    | cons x xs =>
      unfold chkL at h
      rw [Bool.and_eq_true] at h
      rw [List.any_cons, Bool.or_eq_false_iff] at hs
      exact (pa_cons (tO_E (ie.1 S W X g x h.1)) (ies.1 S W X g xs h.2 hs.2) (star_cons hs.1 ..)).imp fun _ _ _ z => tL.cons z
  · cases xs with
    | nil => simp [chkL] at h
    | cons x xs =>
      unfold chkL at h
      rw [Bool.and_eq_true] at h
      rw [List.any_cons, Bool.or_eq_false_iff] at hs
      exact (pa_cons (tO_G (ie.1 S W X g x h.1)) (ies.2 S W X g xs h.2 hs.2) (star_cons hs.1 ..)).imp fun _ _ _ z => tA.cons z
theorem SI_seq {e : E} (ie : Sall G T k C e) : SI G T k C (.seq e) := fun S W X g tg x h => by
  unfold chkI at h
  have pe := tO_E (ie.1 S W X g x h)
  exact (pi_or (pi_list pe) (pi_tup pe)).imp fun _ _ _ z => tI.seq z
theorem SI_rng {es : List E} (ies : SLA G T k C es) : SI G T k C (.rng es) := fun S W X g tg x h => by
  unfold chkI at h
  split at h
  · simp only [Bool.and_eq_true, Bool.not_eq_true', decide_eq_true_eq, Bool.or_eq_true, beq_iff_eq] at h
    obtain ⟨⟨⟨⟨h1, h2⟩, h3⟩, h4⟩, h5⟩ := h
    obtain ⟨gl, db⟩ := g.gl h2
    have pa := ies.1 S W X g _ h5 h3
    have hl := chkL_len h5
    subst h1
    have mg := g.fct.mgB "range" (by decide +kernel)
    rename_i p xs pos
    match xs, h4, pa, h3, hl with
    | [a], _, pa, h3, hl => exact (pi_range1 gl mg pa (star1 (by simpa using h3) _)).imp fun _ _ _ z => tI.rng1 hl z
    | [a, b], _, pa, h3, hl =>
      have h3 : isStar a = false ∧ isStar b = false := by simpa using h3
      exact (pi_range2 gl mg pa (by rw [star_cons h3.1, star_cons h3.2]; rfl) (star1 h3.2 _)).imp fun _ _ _ z => tI.rng2 hl z
    | [], h4, _, _, _ => simp at h4
    | _ :: _ :: _ :: _, h4, _, _, _ => simp at h4
  · cases h
theorem SI_no {it : It} (h : ∀ S x, chkI G S it x = false) : SI G T k C it := fun S W X g tg x e => by rw [h] at e; cases e
theorem SO_no {e : E} (h : ∀ S x, chkE G S e x = false) : SO G T k C e := fun S W X g x q => by rw [h] at q; cases q
variable (G T k C) in
mutual
theorem sE : ∀ e : E, Sall G T k C e
  | .lit d => Sall_of rfl SO_lit
  | .rd p => Sall_of rfl SO_rd
  | .mv _ => Sall_of rfl (SO_no fun _ _ => by simp [chkE])
  | .fnv _ => Sall_of rfl (SO_no fun _ _ => by simp [chkE])
  | .tup es => Sall_of rfl (SO_tup (sEs es).1)
  | .lst keep es => Sall_of rfl (SO_lst (sEs es).1)
  | .dct ks vs => Sall_of rfl SO_dct
  | .bin o a b => Sall_of rfl (SO_bin (sE a).1 (sE b).1)
  | .neg a => Sall_of rfl (SO_neg (sE a).1)
  | .not a => Sall_not (sE a)
  | .cmp o a b => Sall_cmp (sE a) (sE b)
  | .cmp2 o o' a b c => Sall_cmp2 (sE a) (sE b) (sE c)
  | .and a b => Sall_and (sE a) (sE b)
  | .or a b => Sall_or (sE a) (sE b)
  | .ite c a b => Sall_ite (sE c) (sE a) (sE b)
  | .sub a i => Sall_of rfl (SO_sub (sE a).1 (sE i).1)
  | .slc a lo hi => Sall_of rfl (SO_slc (sE a).1)
  | .rev a => Sall_of rfl (SO_rev (sE a).1)
  | .bi b a => Sall_of rfl (SO_bi (sE a).1)
  | .bi2 b a c => Sall_of rfl (SO_bi2 (sE a).1 (sE c).1)
  | .isi a ts => Sall_of rfl (SO_isi (sE a).1)
  | .call f args => Sall_of rfl (SO_call (sEs args).2)
  | .new c args => Sall_of rfl (SO_new (sEs args).1)
  | .meth m [] => Sall_of rfl (SO_no fun _ _ => by simp [chkE])
  | .meth m (e :: es) => Sall_of rfl (SO_meth (sE e).1 (sEs es).2)
  | .attr _ _ => Sall_of rfl (SO_no fun _ _ => by simp [chkE])
  | .app p e => Sall_of rfl (SO_app (sE e).1)
  | .ext p e => Sall_of rfl (SO_ext (sE e).1)
  | .pop _ => Sall_of rfl (SO_no fun _ _ => by simp [chkE])
  | .popA p e => Sall_of rfl (SO_popA (sE e).1)
  | .comp keep elt tg it ifs vs => Sall_of rfl (SO_comp (sI it) (sE elt).1 (sFs ifs))
  | .lrng _ => Sall_of rfl (SO_no fun _ _ => by simp [chkE])
  | .xis c => Sall_of rfl SO_xis
  | .xfld f => Sall_of rfl SO_xfld
theorem sEs : ∀ es : List E, SLA G T k C es
  | [] => SLA_nil
  | e :: es => SLA_cons (sE e) (sEs es)
theorem sFs : ∀ e : Option E, SF G T k C e
  | none => SF_none
  | some e => SF_some (sE e)
theorem sI : ∀ it : It, SI G T k C it
  | .seq e => SI_seq (sE e)
  | .rng es => SI_rng (sEs es)
  | .enm _ => SI_no fun _ _ => by simp [chkI]
  | .zip _ _ => SI_no fun _ _ => by simp [chkI]
end
end
end Vm
/-! #### part Vh1 -/
namespace Vm
open PySem PySem.Spec PyProof.Rows L2
/-- the slots off M stand as before -/
def Unch (M : Nat → Bool) (σ σ' : LSt) : Prop := σ'.length = σ.length ∧ ∀ i, M i = false → σ'[i]? = σ[i]?
theorem Unch.refl (M : Nat → Bool) (σ : LSt) : Unch M σ σ := ⟨rfl, fun _ _ => rfl⟩
theorem Unch.trans {M : Nat → Bool} {σ σ1 σ2 : LSt} (a : Unch M σ σ1) (b : Unch M σ1 σ2) : Unch M σ σ2 := ⟨b.1.trans a.1, fun i h => (b.2 i h).trans (a.2 i h)⟩
def FinS (T : Tab) (W : WX) (M : Nat → Bool) (O F : AS) (H : Hp) (σ : LSt) (r : R Fl) (D : Ends) : Prop := match r with
  | .ok .nx ρ' => ∀ σ' H' O', Unch M σ σ' → Keep F O H O' H' → FR T O' F H' ρ' σ' → D.nx σ' H'
  | .ok .cont ρ' => ∀ σ' H' O', Unch M σ σ' → Keep F O H O' H' → FR T O' F H' ρ' σ' → D.ct σ' H'
  | .ok (.ret d) ρ' => ∀ v σ' H' O', Unch M σ σ' → Keep F O H O' H' → FR T O' F H' (ρ' ++ [some d]) (σ' ++ [some v]) → D.rt v H'
  | .ex x ρ' => ∀ cls dx σ' H' O', Unch M σ σ' → Keep F O H O' H' → FR T O' F H' ρ' σ' → ExR T O' H' cls dx x → W cls dx σ' H'
  | .no => False
section
variable {T : Tab} {W : WX} {M : Nat → Bool} {O O1 F F' : AS} {H H1 : Hp} {σ σ1 : LSt} {D : Ends}
theorem FinS.step {r : R Fl} (u : Unch M σ σ1) (k : Keep F O H O1 H1) (h : FinS T W M O F H σ r D) : FinS T W M O1 F H1 σ1 r D := by
  cases r with
  | ok f ρ' =>
    cases f with
    | nx => exact fun σ' H' O' u' k' f => h σ' H' O' (u.trans u') (k.trans k' fun _ z => z) f
    | cont => exact fun σ' H' O' u' k' f => h σ' H' O' (u.trans u') (k.trans k' fun _ z => z) f
    | ret d => exact fun v σ' H' O' u' k' f => h v σ' H' O' (u.trans u') (k.trans k' fun _ z => z) f
  | ex x ρ' => exact fun c d σ' H' O' u' k' f e => h c d σ' H' O' (u.trans u') (k.trans k' fun _ z => z) f e
  | no => exact h
end
def tS (T : Tab) (Κ : Nat → Option Cls) (C : Cf) (W : WX) (M : Nat → Bool) (s : Vm.S) : TS := fun D σ H => SX T σ ∧ ∃ O F ρ, FR T O F H ρ σ ∧ FinS T W M O F H σ (exec Κ s C ρ) D
def tSs (T : Tab) (Κ : Nat → Option Cls) (C : Cf) (W : WX) (M : Nat → Bool) (s : List Vm.S) : TS := fun D σ H => SX T σ ∧ ∃ O F ρ, FR T O F H ρ σ ∧ FinS T W M O F H σ (execs Κ s C ρ) D
theorem _root_.L2.PS.imp {X : Cx} {x : Stmt} {t t' : TS} (h : PS X x t) (w : ∀ D σ H, t' D σ H → t D σ H) : PS X x t' := ⟨fun pins s σ H D I q => h.run pins s σ H D I (w D σ H q)⟩
theorem _root_.L2.PSs.imp {X : Cx} {x : List Stmt} {t t' : TS} (h : PSs X x t) (w : ∀ D σ H, t' D σ H → t D σ H) : PSs X x t' := ⟨fun pins s σ H D I q => h.run pins s σ H D I (w D σ H q)⟩
section
variable {T : Tab} {Κ : Nat → Option Cls} {C : Cf} {W : WX} {M : Nat → Bool} {σ : L2.St} {H : Hp} {D : Ends} {O F : AS} {ρ : Env} {e : E}
/-- an expression, then what k makes of it -/
theorem tE.thenS {k : Vm.D → Env → R Fl} {G : VK} (sx : SX T σ) (f : FR T O F H ρ σ) (h : FinS T W M O F H σ ((ev Κ C e ρ).bind k) D)
    (g : ∀ d ρ1 v H1 O1, Keep F O H O1 H1 → FR T O1 F H1 (ρ1 ++ [some d]) (σ ++ [some v]) → FinS T W M O1 F H1 σ (k d ρ1) D → G v H1) : tE T Κ C W e σ H G := by
  refine ⟨sx, O, F, ρ, f, ?_⟩
  cases q : ev Κ C e ρ with
  | no => rw [q] at h; exact h
  | ex x ρ1 => rw [q] at h; exact fun cls dx H' O' k f e => h cls dx σ H' O' (Unch.refl ..) k f e
  | ok d ρ1 =>
    rw [q] at h
    exact fun v H1 O1 k1 f1 => g d ρ1 v H1 O1 k1 f1 (FinS.step (Unch.refl ..) k1 h)
/-- a test, then what k makes of it -/
theorem tTs.thenS {k : Vm.D → Env → R Fl} {G : Bool → Hp → Prop} (sx : SX T σ) (f : FR T O F H ρ σ) (h : FinS T W M O F H σ ((ev Κ C e ρ).bind k) D) (nb : ∀ d ρ1, (∀ b, d ≠ .bl b) → k d ρ1 = .no)
    (g : ∀ b ρ1 H1 O1, Keep F O H O1 H1 → FR T O1 F H1 ρ1 σ → FinS T W M O1 F H1 σ (k (.bl b) ρ1) D → G b H1) : tTs T Κ C W e σ H G := by
  refine ⟨sx, O, F, ρ, f, ?_⟩
  cases q : ev Κ C e ρ with
  | no => rw [q] at h; exact h
  | ex x ρ1 => rw [q] at h; exact fun cls dx H' O' k f e => h cls dx σ H' O' (Unch.refl ..) k f e
  | ok d ρ1 =>
    rw [q] at h
    by_cases hb : ∃ b, d = .bl b
    · obtain ⟨b, rfl⟩ := hb
      exact fun H1 O1 k1 f1 => g b ρ1 H1 O1 k1 f1 (FinS.step (Unch.refl ..) k1 h)
    · have h : FinS T W M O F H σ (k d ρ1) D := h
      rw [nb d ρ1 fun b z => hb ⟨b, z⟩] at h
      exact h.elim
theorem tS.ex (h : tS T Κ C W M (.ex e) D σ H) : tDrop (tE T Κ C W e) D σ H := by
  obtain ⟨sx, O, F, ρ, f, h⟩ := h
  exact tE.thenS (k := fun _ ρ1 => .ok .nx ρ1) sx f h fun d ρ1 v H1 O1 k1 f1 h1 => h1 σ H1 O1 (Unch.refl ..) (Keep.refl ..) f1.drop1
theorem tS.if_ {a b : List Vm.S} (h : tS T Κ C W M (.if_ e a b) D σ H) : tIfS (tTs T Κ C W e) (tSs T Κ C W M a) (tSs T Κ C W M b) D σ H := by
  obtain ⟨sx, O, F, ρ, f, h⟩ := h
  have h : FinS T W M O F H σ ((ev Κ C e ρ).bind fun d ρ1 => match d with
    | .bl true => execs Κ a C ρ1
    | .bl false => execs Κ b C ρ1
    | _ => .no) D := by
    have e0 : exec Κ (.if_ e a b) C ρ = (ev Κ C e ρ).bind fun d ρ1 => match d with
      | .bl true => execs Κ a C ρ1
      | .bl false => execs Κ b C ρ1
      | _ => .no := by
      rewrite [exec]
      first
        | rfl
        | (congr 1; funext d ρ1; cases d <;> first | rfl | (rename_i b; cases b <;> rfl))
    rw [e0] at h
    exact h
  refine tTs.thenS sx f h (fun d ρ1 n => by cases d <;> first | rfl | exact absurd rfl (n _)) fun b ρ1 H1 O1 k1 f1 h1 => ?_
  cases b with
  | true => exact ⟨sx, O1, F, ρ1, f1, h1⟩
  | false => exact ⟨sx, O1, F, ρ1, f1, h1⟩
theorem tSs.nil (h : tSs T Κ C W M [] D σ H) : tNext D σ H := by
  obtain ⟨sx, O, F, ρ, f, h⟩ := h
  have e0 : execs Κ [] C ρ = .ok .nx ρ := by rw [execs]
  rw [e0] at h
  exact h σ H O (Unch.refl ..) (Keep.refl ..) f
/-- the caught exception's slot is none that is written -/
def XM (T : Tab) (M : Nat → Bool) : Prop := ∀ z, T.ξ = some z → M z.i = false
theorem SX.unch {σ' : LSt} (sx : SX T σ) (xm : XM T M) (u : Unch M σ σ') : SX T σ' := fun z e => by rw [u.2 _ (xm z e)]; exact sx z e
theorem tSs.cons {s : Vm.S} {ss : List Vm.S} (xm : XM T M) (h : tSs T Κ C W M (s :: ss) D σ H) : tSeq (tS T Κ C W M s) (tSs T Κ C W M ss) D σ H := by
  obtain ⟨sx, O, F, ρ, f, h⟩ := h
  have e0 : execs Κ (s :: ss) C ρ = match exec Κ s C ρ with
    | .ok .nx ρ1 => execs Κ ss C ρ1
    | r => r := by
    rewrite [execs]
    cases exec Κ s C ρ with
    | ok f r => cases f <;> rfl
    | ex x r => rfl
    | no => rfl
  rw [e0] at h
  refine ⟨sx, O, F, ρ, f, ?_⟩
  cases q : exec Κ s C ρ with
  | no => rw [q] at h; exact h
  | ex x ρ1 => rw [q] at h; exact h
  | ok fl ρ1 =>
    rw [q] at h
    cases fl with
    | nx => exact fun σ' H' O' u k f' => ⟨sx.unch xm u, O', F, ρ1, f', FinS.step u k h⟩
    | cont => exact h
    | ret d => exact h
theorem tS.pass (h : tS T Κ C W M .pass D σ H) : tNext D σ H := by
  obtain ⟨sx, O, F, ρ, f, h⟩ := h
  have e0 : exec Κ .pass C ρ = .ok .nx ρ := by rw [exec]
  rw [e0] at h
  exact h σ H O (Unch.refl ..) (Keep.refl ..) f
theorem tS.cont (h : tS T Κ C W M .cont D σ H) : tCont D σ H := by
  obtain ⟨sx, O, F, ρ, f, h⟩ := h
  have e0 : exec Κ .cont C ρ = .ok .cont ρ := by rw [exec]
  rw [e0] at h
  exact h σ H O (Unch.refl ..) (Keep.refl ..) f
theorem tS.ret (h : tS T Κ C W M (.ret e) D σ H) : tRet (tG T Κ C W e) D σ H := by
  obtain ⟨sx, O, F, ρ, f, h⟩ := h
  show tG T Κ C W e σ H D.rt
  unfold tG
  cases hr : recvOf e with
  | some i =>
    have := recv_some hr
    subst this
    have e0 : exec Κ (.ret (.rd (.loc i))) C ρ = match slot ρ i with
      | some d => .ok (.ret d) (ρ.set i none)
      | none => .no := by
      rewrite [exec]
      cases slot ρ i <;> rfl
    rw [e0] at h
    cases q : slot ρ i with
    | none => rw [q] at h; exact h.elim
    | some d =>
      rw [q] at h
      obtain ⟨v, e1, _⟩ := f.get q
      have e1 := (join_lt e1).2
      refine ⟨v, e1, h v σ H O (Unch.refl ..) (Keep.refl ..) ?_⟩
      have f0 : FR T O F H (ρ ++ ([] ++ none :: [])) (σ ++ ([] ++ some v :: [])) := f.fill (by simp [f.length]) fun j d' e' => .inl (by
        by_cases hj : j < ρ.length
        · rw [slot_app_lt hj] at e'
          exact ⟨e', by rw [List.getElem?_append_left (by have := f.length; omega)]⟩
        · rw [slot_app_ge (by omega)] at e'
          have hj2 := slot_lt e'
          simp at hj2
          rw [show j - ρ.length = 0 by omega] at e'
          cases e')
      have f1 := f0.lend f.length rfl e1 q
      cases ho : d.isOwn with
      | true => rw [ho] at f1; exact f1
      | false =>
        rw [ho] at f1
        refine FR.fill f1 (by simp [f.length]) fun j d' e' => .inl ⟨?_, rfl⟩
        by_cases hj : j < ρ.length
        · rw [slot_app_lt (by simpa using hj), slot_none] at e'
          split at e'
          · cases e'
          · show slot (ρ ++ [some d]) j = some d'
            rw [slot_app_lt hj]
            exact e'
        · rw [slot_app_ge (by simp; omega), List.length_set] at e'
          show slot (ρ ++ [some d]) j = some d'
          rw [slot_app_ge (by omega)]
          exact e'
  | none =>
    have e0 : exec Κ (.ret e) C ρ = (ev Κ C e ρ).bind fun d ρ1 => .ok (.ret d) ρ1 := by
      unfold recvOf at hr
      split at hr
      · cases hr
      · rename_i hne
        rw [exec]
        · exact fun i z => hne i z
    rw [e0] at h
    exact tE.thenS (k := fun d ρ1 => .ok (.ret d) ρ1) sx f h fun d ρ1 v H1 O1 k1 f1 h1 => h1 v σ H1 O1 (Unch.refl ..) (Keep.refl ..) f1
end
end Vm
/-! #### part Vh2 -/
namespace Vm
open PySem PySem.Spec PyProof.Rows L2
section
variable {T : Tab} {Κ : Nat → Option Cls} {C : Cf} {W : WX} {M : Nat → Bool} {σ : L2.St} {H : Hp} {D : Ends} {O F : AS} {ρ : Env} {e : E} {tg : Tg} {it : It} {b : List Vm.S}
theorem tS.asg {K : PySem.W.Frag} (hm : ∀ i ∈ tgS tg, M i = true) (h : tS T Κ C W M (.asg tg e) D σ H) : tAsg (tE T Κ C W e) (gT K tg) D σ H := by
  obtain ⟨sx, O, F, ρ, f, h⟩ := h
  have e0 : exec Κ (.asg tg e) C ρ = (ev Κ C e ρ).bind fun d ρ1 => (R.of (bindT tg (match tg with | .nm _ => d | .tp _ => d.un) ρ1) ρ1).bind fun ρ2 _ => .ok .nx ρ2 := by
    rewrite [exec]
    cases tg <;> rfl
  rw [e0] at h
  refine tE.thenS sx f h fun d ρ1 v H1 O1 k1 f1 h1 => ?_
  have fin : ∀ {d' : Vm.D} {O2 : AS}, Keep F O1 H1 O2 H1 → FR T O2 F H1 (ρ1 ++ [some d']) (σ ++ [some v]) → FinS T W M O1 F H1 σ ((R.of (bindT tg d' ρ1) ρ1).bind fun ρ2 _ => .ok .nx ρ2) D → gT K tg v σ H1 D.nx := fun {d' O2} k2 f2 h2 => by
    cases eb : bindT tg d' ρ1 with
    | none => rw [eb] at h2; exact h2.elim
    | some ρ2 =>
      rw [eb] at h2
      refine bindT_ok tg d' ρ1 ρ2 σ v _ eb f2 fun σ' f3 l3 a3 => h2 σ' H1 O2 ⟨l3, fun i hi => a3 i fun z => ?_⟩ k2 f3
      rw [hm i z] at hi
      cases hi
  cases tg with
  | nm i => exact fin (Keep.refl ..) f1 h1
  | tp ts =>
    obtain ⟨O2, k2, f2, _⟩ := f1.unTop f1.top
    exact fin k2 f2 h1
theorem tS.for_ {K : PySem.W.Frag} (xm : XM T M) (hm : ∀ i ∈ tgS tg, M i = true) (h : tS T Κ C W M (.for_ tg it b) D σ H) : tFor (tI T Κ C W it) (gT K tg) (tSs T Κ C W M b) D σ H := by
  obtain ⟨sx, O, F, ρ, f, h⟩ := h
  have e0 : exec Κ (.for_ tg it b) C ρ = (evI Κ C it ρ).bind fun xs ρ1 => forGo tg (fun ρ2 => execs Κ b C ρ2) xs ρ1 := by rw [exec]
  rw [e0] at h
  refine ⟨sx, O, F, ρ, f, ?_⟩
  cases q : evI Κ C it ρ with
  | no => rw [q] at h; exact h
  | ex x ρ1 => rw [q] at h; exact fun cls dx H' O' k f e => h cls dx σ H' O' (Unch.refl ..) k f e
  | ok xs ρ1 =>
    rw [q, R.bind_ok] at h
    intro J H1 O1 k1 f1 wk
    have h1 := FinS.step (Unch.refl M σ) k1 h
    refine ⟨fun i m σ' H' => m = xs.length - i ∧ i ≤ xs.length ∧ ∃ O' ρi, FR T O' F H' ρi σ' ∧ Unch M σ σ' ∧ Keep F O1 H1 O' H' ∧ FinS T W M O1 F H1 σ (forGo tg (fun ρ2 => execs Κ b C ρ2) (xs.drop i) ρi) D,
      ⟨xs.length, by simp, by simp, O1, ρ1, f1, Unch.refl .., Keep.refl .., h1⟩, ?_⟩
    rintro i m σ' H' ⟨rfl, hi, O', ρi, fi, ui, ki, hh⟩
    obtain ⟨wk1, wk2⟩ := wk O' H' ki.sh (fun b hb => let ⟨o, e, _⟩ := fi.trk b hb; ⟨o, e⟩)
    by_cases hlt : i < xs.length
    · refine .inr ⟨(wk1 i xs[i] (by simp [hlt])).1, fun σ'' H'' => i + 1 ≤ xs.length ∧ ∃ O' ρi, FR T O' F H'' ρi σ'' ∧ Unch M σ σ'' ∧ Keep F O1 H1 O' H'' ∧ FinS T W M O1 F H1 σ (forGo tg (fun ρ2 => execs Κ b C ρ2) (xs.drop (i + 1)) ρi) D,
        fun σ'' H'' n => ⟨xs.length - (i + 1), by omega, rfl, n⟩, fun x H2 y => ?_⟩
      obtain ⟨gr, no, rx⟩ := (wk1 i xs[i] (by simp [hlt])).2 x H2 y
      obtain ⟨f3, k3⟩ := fi.growG gr
      have kA := ki.trans k3 fun _ z => z
      rw [List.drop_eq_getElem_cons hlt] at hh
      have hh : FinS T W M O1 F H1 σ (match bindT tg xs[i] ρi with
        | none => .no
        | some ρ1 => match execs Κ b C ρ1 with
          | .ok .nx ρ2 => forGo tg (fun ρ2 => execs Κ b C ρ2) (xs.drop (i + 1)) ρ2
          | .ok .cont ρ2 => forGo tg (fun ρ2 => execs Κ b C ρ2) (xs.drop (i + 1)) ρ2
          | r => r) D := by
        unfold forGo at hh
        exact hh
      cases eb : bindT tg xs[i] ρi with
      | none => rw [eb] at hh; exact hh.elim
      | some ρ3 =>
        rw [eb] at hh
        have hh0 := hh
        refine bindT_ok tg xs[i] ρi ρ3 σ' x _ eb (f3.add no rx) fun σ2 f4 l4 a4 => ?_
        have u2 : Unch M σ σ2 := ui.trans ⟨l4, fun j hj => a4 j fun z => by rw [hm j z] at hj; cases hj⟩
        refine ⟨sx.unch xm u2, O', F, ρ3, f4, ?_⟩
        have hh := FinS.step u2 kA hh
        dsimp only at hh
        cases ex : execs Κ b C ρ3 with
        | no => rw [ex] at hh; exact hh
        | ex z ρ4 => rw [ex] at hh; exact hh
        | ok fl ρ4 =>
          rw [ex] at hh
          cases fl with
          | nx => exact fun σ4 H4 O4 u4 k4 f5 => ⟨hlt, O4, ρ4, f5, u2.trans u4, kA.trans k4 fun _ z => z, by dsimp only at hh0; rw [ex] at hh0; exact hh0⟩
          | cont => exact fun σ4 H4 O4 u4 k4 f5 => ⟨hlt, O4, ρ4, f5, u2.trans u4, kA.trans k4 fun _ z => z, by dsimp only at hh0; rw [ex] at hh0; exact hh0⟩
          | ret d => exact hh
    · have he : i = xs.length := by omega
      subst he
      rw [List.drop_length] at hh
      have hh : FinS T W M O1 F H1 σ (.ok .nx ρi) D := hh
      exact .inl ⟨wk2 _ (Nat.le_refl _), hh σ' H' O' ui ki fi⟩
theorem tS.while_ (xm : XM T M) (h : tS T Κ C W M (.while_ e b) D σ H) : tWhile (tTs T Κ C W e) (tSs T Κ C W M b) D σ H := by
  obtain ⟨sx, O, F, ρ, f, h⟩ := h
  have e0 : exec Κ (.while_ e b) C ρ = whGo (fun ρ2 => ev Κ C e ρ2) (fun ρ2 => execs Κ b C ρ2) fuel ρ := by rw [exec]
  rw [e0] at h
  refine ⟨fun n σ' H' => ∃ O' ρ', FR T O' F H' ρ' σ' ∧ Unch M σ σ' ∧ Keep F O H O' H' ∧ FinS T W M O F H σ (whGo (fun ρ2 => ev Κ C e ρ2) (fun ρ2 => execs Κ b C ρ2) n ρ') D, ⟨fuel, O, ρ, f, Unch.refl .., Keep.refl .., h⟩, ?_⟩
  rintro n σ' H' ⟨O', ρ', f', u', k', hh⟩
  cases n with
  | zero => exact hh.elim
  | succ n =>
    have hh0 : FinS T W M O F H σ ((ev Κ C e ρ').bind fun d ρ1 => match d with
      | .bl true => match execs Κ b C ρ1 with
        | .ok .nx ρ2 => whGo (fun ρ2 => ev Κ C e ρ2) (fun ρ2 => execs Κ b C ρ2) n ρ2
        | .ok .cont ρ2 => whGo (fun ρ2 => ev Κ C e ρ2) (fun ρ2 => execs Κ b C ρ2) n ρ2
        | r => r
      | .bl false => .ok .nx ρ1
      | _ => .no) D := hh
    refine ⟨sx.unch xm u', O', F, ρ', f', ?_⟩
    cases q : ev Κ C e ρ' with
    | no => rw [q] at hh0; exact hh0
    | ex x ρ1 => rw [q] at hh0; exact fun cls dx H2 O2 k2 f2 e2 => hh0 cls dx σ' H2 O2 u' (k'.trans k2 fun _ z => z) f2 e2
    | ok d ρ1 =>
      rw [q, R.bind_ok] at hh0
      cases d with
      | bl t =>
        intro H1 O1 k1 f1
        have kA := k'.trans k1 fun _ z => z
        cases t with
        | false => exact hh0 σ' H1 O1 u' kA f1
        | true =>
          rw [if_pos rfl]
          dsimp only at hh0
          refine ⟨fun σ2 H2 => ∃ O' ρ', FR T O' F H2 ρ' σ2 ∧ Unch M σ σ2 ∧ Keep F O H O' H2 ∧ FinS T W M O F H σ (whGo (fun ρ2 => ev Κ C e ρ2) (fun ρ2 => execs Κ b C ρ2) n ρ') D, fun σ2 H2 z => ⟨n, Nat.lt_succ_self n, z⟩, sx.unch xm u', O1, F, ρ1, f1, ?_⟩
          have h2 := FinS.step u' kA hh0
          cases ex : execs Κ b C ρ1 with
          | no => rw [ex] at h2; exact h2
          | ex z ρ4 => rw [ex] at h2; exact h2
          | ok fl ρ4 =>
            rw [ex] at h2 hh0
            cases fl with
            | nx => exact fun σ4 H4 O4 u4 k4 f5 => ⟨O4, ρ4, f5, u'.trans u4, kA.trans k4 fun _ z => z, hh0⟩
            | cont => exact fun σ4 H4 O4 u4 k4 f5 => ⟨O4, ρ4, f5, u'.trans u4, kA.trans k4 fun _ z => z, hh0⟩
            | ret d => exact h2
      | _ => exact hh0.elim
end
end Vm
/-! #### part Vh3 -/
namespace Vm
open PySem PySem.Spec PyProof.Rows L2
/-! ### a, b = x, y -/
def setPar : List Nat → List V → LSt → LSt
  | i :: is, v :: vs, σ => (setPar is vs σ).set i (some v)
  | _, _, σ => σ
theorem setPar_len : ∀ (is : List Nat) (vs : List V) (σ : LSt), (setPar is vs σ).length = σ.length
  | [], _, _ => rfl
  | _ :: _, [], _ => rfl
  | i :: is, v :: vs, σ => by
    show ((setPar is vs σ).set i (some v)).length = _
    rw [List.length_set, setPar_len is vs σ]
theorem setPar_off : ∀ (is : List Nat) (vs : List V) (σ : LSt) (j : Nat), j ∉ is → (setPar is vs σ)[j]? = σ[j]?
  | [], _, _, _, _ => rfl
  | _ :: _, [], _, _, _ => rfl
  | i :: is, v :: vs, σ, j, h => by
    show ((setPar is vs σ).set i (some v))[j]? = _
    rw [List.getElem?_set_ne (fun z => h (by simp [z])), setPar_off is vs σ j fun z => h (by simp [z])]
section
variable {T : Tab} {O F : AS} {H : Hp}
theorem bindPar_ok : ∀ (is : List Nat) (ds : List D) (vs : List V) (ρ ρ1 α : Env) (σ β : LSt), bindPar is ds ρ = some ρ1 → FR T O F H ((ρ ++ α) ++ ds.map some) ((σ ++ β) ++ vs.map some) → ρ.length = σ.length → α.length = β.length → ds.length = vs.length →
    FR T O F H (ρ1 ++ α) (setPar is vs σ ++ β) ∧ ρ1.length = ρ.length ∧ is.length = vs.length
  | [], [], [], ρ, ρ1, α, σ, β, e, f, _, _, _ => by
    cases e
    exact ⟨by show FR T O F H (ρ ++ α) (σ ++ β); simpa using f, rfl, rfl⟩
  | i :: is, d :: ds, v :: vs, ρ, ρ1, α, σ, β, e, f, h1, h2, h3 => by
    have e : (match bindPar is ds ρ with
      | some ρ1 => if i < ρ1.length then some (ρ1.set i (some d)) else none
      | none => none) = some ρ1 := e
    cases q : bindPar is ds ρ with
    | none => rw [q] at e; cases e
    | some ρ2 =>
      rw [q] at e
      dsimp only at e
      split at e
      rotate_left
      · cases e
      rename_i hi
      cases e
      have f' : FR T O F H ((ρ ++ (α ++ [some d])) ++ ds.map some) ((σ ++ (β ++ [some v])) ++ vs.map some) := by simpa using f
      obtain ⟨f2, l2, l3⟩ := bindPar_ok is ds vs ρ ρ2 (α ++ [some d]) σ (β ++ [some v]) q f' h1 (by simp [h2]) (by simpa using h3)
      have f3 : FR T O F H ((ρ2 ++ α) ++ [some d]) ((setPar is vs σ ++ β) ++ [some v]) := by simpa using f2
      have f4 := f3.store (by simp [l2, h1, h2, setPar_len]) i
      rw [List.set_append_left _ _ hi, List.set_append_left _ _ (by rw [setPar_len, ← h1, ← l2]; exact hi)] at f4
      exact ⟨f4, by simp [l2], by simp [l3]⟩
  | [], [], _ :: _, _, _, _, _, _, _, _, _, _, h => by cases h
  | [], _ :: _, _, _, _, _, _, _, e, _, _, _, _ => by cases e
  | _ :: _, [], _, _, _, _, _, _, e, _, _, _, _ => by cases e
  | _ :: _, _ :: _, [], _, _, _, _, _, _, _, _, _, h => by cases h
end
section
variable {T : Tab} {Κ : Nat → Option Cls} {C : Cf} {W : WX} {M : Nat → Bool} {σ : L2.St} {H : Hp} {D : Ends} {O F : AS} {ρ : Env} {e : E} {tg : Tg} {it : It} {b : List Vm.S} {is : List Nat} {es : List E}
theorem tS.parG (hm : ∀ i ∈ is, M i = true) (h : tS T Κ C W M (.par is es) D σ H) : tL T Κ C W es σ H fun vs H1 => is.length = vs.length ∧ D.nx (setPar is vs σ) H1 := by
  obtain ⟨sx, O, F, ρ, f, h⟩ := h
  have e0 : exec Κ (.par is es) C ρ = (evL Κ C es ρ).bind fun ds ρ1 => (R.of (bindPar is ds ρ1) ρ1).bind fun ρ2 _ => .ok .nx ρ2 := by rw [exec]
  rw [e0] at h
  refine ⟨sx, O, F, ρ, f, ?_⟩
  cases q : evL Κ C es ρ with
  | no => rw [q] at h; exact h
  | ex x ρ1 => rw [q] at h; exact fun cls dx H' O' k f e => h cls dx σ H' O' (Unch.refl ..) k f e
  | ok ds ρ1 =>
    rw [q, R.bind_ok] at h
    intro vs H1 O1 k1 f1 hl
    cases eb : bindPar is ds ρ1 with
    | none => rw [eb] at h; exact h.elim
    | some ρ2 =>
      rw [eb] at h
      have hl1 : ρ1.length = σ.length := by
        have := f1.length
        simp only [List.length_append, List.length_map, hl] at this
        omega
      obtain ⟨f2, l2, l3⟩ := bindPar_ok is ds vs ρ1 ρ2 [] σ [] eb (by simpa using f1) hl1 rfl hl
      refine ⟨l3, h _ H1 O1 ⟨setPar_len .., fun i hi => setPar_off _ _ _ _ fun z => ?_⟩ k1 (by simpa using f2)⟩
      rw [hm i z] at hi
      cases hi
theorem tL.imp {Q Q' : List V → Hp → Prop} (h : tL T Κ C W es σ H Q) (w : ∀ vs H1, Q vs H1 → Q' vs H1) : tL T Κ C W es σ H Q' := by
  obtain ⟨sx, O, F, ρ, f, h⟩ := h
  refine ⟨sx, O, F, ρ, f, ?_⟩
  cases q : evL Κ C es ρ with
  | no => rw [q] at h; exact h
  | ex x ρ1 => rw [q] at h; exact h
  | ok ds ρ1 => rw [q] at h; exact fun vs H1 O1 k1 f1 hl => w _ _ (h vs H1 O1 k1 f1 hl)
theorem tS.par2 {i j : Nat} (hij : i ≠ j) (hm : ∀ k ∈ [i, j], M k = true) (h : tS T Κ C W M (.par [i, j] es) D σ H) : tPar i j (tL T Κ C W es) D σ H := by
  refine tL.imp (tS.parG hm h) fun vs H1 ⟨h1, h2⟩ => ?_
  match vs, h1, h2 with
  | [v, w], _, h2 =>
    have h2 : D.nx ((σ.set j (some w)).set i (some v)) H1 := h2
    rw [List.set_comm _ _ (Ne.symm hij)] at h2
    exact ⟨v, w, rfl, h2⟩
theorem tS.par3 {i j l : Nat} (hij : i ≠ j) (hil : i ≠ l) (hjl : j ≠ l) (hm : ∀ k ∈ [i, j, l], M k = true) (h : tS T Κ C W M (.par [i, j, l] es) D σ H) : tPar3 i j l (tL T Κ C W es) D σ H := by
  refine tL.imp (tS.parG hm h) fun vs H1 ⟨h1, h2⟩ => ?_
  match vs, h1, h2 with
  | [u, v, w], _, h2 =>
    have h2 : D.nx (((σ.set l (some w)).set j (some v)).set i (some u)) H1 := h2
    rw [List.set_comm _ _ (Ne.symm hij), List.set_comm _ _ (Ne.symm hil), List.set_comm _ _ (Ne.symm hjl)] at h2
    exact ⟨u, v, w, rfl, h2⟩
/-! ### x[i] = v on an owned list -/
theorem RepL.set {O : AS} : ∀ {xs : List V} {ds : List Vm.D} {x : V} {d : Vm.D} (j : Nat), RepL T O H xs ds → Rep T O H x d → RepL T O H (xs.set j x) (ds.set j d)
  | _, _, _, _, _, .nil, _ => .nil
  | _, _, _, _, 0, .cons _ rs, r => .cons r rs
  | _, _, _, _, j + 1, .cons r0 rs, r => .cons r0 (RepL.set j rs r)
theorem tS.setI {i : E} {j : Nat} (hm : True) (h : tS T Κ C W M (.setI (.loc j) i e) D σ H) : tAsg (tE T Κ C W e) (gSub (tVar j) (tE T Κ C W i) rSetL) D σ H := by
  obtain ⟨sx, O, F, ρ, f, h⟩ := h
  have e0 : exec Κ (.setI (.loc j) i e) C ρ = (ev Κ C e ρ).bind fun v ρ1 => if isOL (slot ρ1 j) then (ev Κ C i ρ1).bind fun k ρ2 => match olOf (slot ρ2 j), k with
        | some xs, .int n => match ixN xs.length n with
          | some q => .ok .nx (ρ2.set j (some (.own (.lst (xs.set q v.un)))))
          | none => .no
        | _, _ => .no
      else .no := by
    rewrite [exec]
    rfl
  rw [e0] at h
  refine tE.thenS sx f h fun d ρ1 v H1 O1 k1 f1 h1 => ?_
  split at h1
  rotate_left
  · exact h1.elim
  rename_i ho
  obtain ⟨O2, k2, f2, r2⟩ := f1.unTop f1.top
  have f3 := f2.drop1
  obtain ⟨a, xs, e1, e2⟩ := isOL_slot f3 ho
  refine ⟨.ref a, e1, ?_⟩
  refine tE.thenS sx f3 (FinS.step (Unch.refl ..) k2 h1) fun k ρ2 kv H2 O3 k3 f4 h2 => ?_
  cases q : olOf (slot ρ2 j) with
  | none => rw [q] at h2; exact h2.elim
  | some ds =>
    rw [q] at h2
    cases k with
    | int n =>
      dsimp only at h2
      cases qx : ixN ds.length n with
      | none => rw [qx] at h2; exact h2.elim
      | some x =>
        rw [qx] at h2
        have f5 := f4.drop1
        have rv := r2.keep k3.sh
        have ek := f4.topPk.int
        obtain ⟨a', ys, e3, e4, r4, wr⟩ := f5.mut (es := ds.set x d.un) (olOf_some q)
        have := (join_lt e3).2
        rw [e1] at this
        cases this
        obtain ⟨k5, f6⟩ := wr (ys.set x v) (r4.set x rv)
        refine ⟨a, ys, n, x, rfl, ek, e4, by rw [r4.length]; exact qx, h2 σ _ _ (Unch.refl ..) k5 f6⟩
    | _ => exact h2.elim
/-! ### x.f = v on an owned instance -/
theorem OwnL.putF {O : AS} {f : Nat} {y : V} {d : Vm.D} (n : d.isOwn = false) (ry : Rep T O H y d) : ∀ {fs : List (PySem.Str × V)} {gs : List Nat} {vs : List Vm.D} {B : AS}, fs.map (·.1) = gs.map fname → OwnL T O H (fs.map (·.2)) vs B →
    ∃ B' : AS, (∀ b, B' b → B b) ∧ (L2.putF (fname f) y fs).map (·.1) = (Vm.putF f d gs vs).1.map fname ∧ OwnL T O H ((L2.putF (fname f) y fs).map (·.2)) (Vm.putF f d gs vs).2 B'
  | [], [], [], B, _, .nil h => ⟨B, fun _ z => z, rfl, .rep n ry (.nil h)⟩
  | (g', x) :: fs, g :: gs, v :: vs, B, m, r => by
    have m1 : g' = fname g := (List.cons.inj m).1
    have m2 := (List.cons.inj m).2
    subst m1
    by_cases e : g = f
    · subst e
      have e1 : L2.putF (fname g) y ((fname g, x) :: fs) = (fname g, y) :: fs := if_pos rfl
      have e2 : Vm.putF g d (g :: gs) (v :: vs) = (g :: gs, d :: vs) := if_pos rfl
      rw [e1, e2]
      cases r with
      | rep n1 r1 t => exact ⟨B, fun _ z => z, m, .rep n ry t⟩
      | own r1 t n1 e3 => exact ⟨_, fun b z => (e3 b).mpr (.inr z), m, .rep n ry t⟩
    · have e1 : L2.putF (fname f) y ((fname g, x) :: fs) = (fname g, x) :: L2.putF (fname f) y fs := if_neg fun z => e (fname_inj z)
      have e2 : Vm.putF f d (g :: gs) (v :: vs) = (g :: (Vm.putF f d gs vs).1, v :: (Vm.putF f d gs vs).2) := if_neg e
      rw [e1, e2]
      cases r with
      | rep n1 r1 t =>
        obtain ⟨B', b1, b2, b3⟩ := OwnL.putF n ry m2 t
        exact ⟨B', b1, by simpa using b2, .rep n1 r1 b3⟩
      | @own _ _ _ _ A0 B0 _ r1 t n1 e3 =>
        obtain ⟨B', b1, b2, b3⟩ := OwnL.putF n ry m2 t
        exact ⟨fun b => A0 b ∨ B' b, fun b z => (e3 b).mpr (z.imp id (b1 b)), by simpa using b2, .own r1 b3 (fun b z1 z2 => n1 b z1 (b1 b z2)) fun b => Iff.rfl⟩
  | [], _ :: _, _, _, m, _ => by cases m
  | _ :: _, [], _, _, m, _ => by cases m
  | [], [], _ :: _, _, _, r => by cases r
  | _ :: _, _ :: _, [], _, _, r => by cases r
theorem FR.mutF {i c : Nat} {gs : List Nat} {vs : List Vm.D} (f : FR T O F H ρ σ) (e : slot ρ i = some (.own (.ins c gs vs))) : ∃ a Ca dx fs, σ[i]?.join = some (.ref a) ∧ T.cls c = some Ca ∧ H a = some (.ins Ca dx fs) ∧ fs.map (·.1) = gs.map fname ∧
    ∀ (x : Nat) (y : V) (d : Vm.D), d.isOwn = false → Rep T O H y d → Keep F O H O (upd H a (.ins Ca dx (L2.putF (fname x) y fs))) ∧ FR T O F (upd H a (.ins Ca dx (L2.putF (fname x) y fs))) (ρ.set i (some (.own (.ins c (Vm.putF x d gs vs).1 (Vm.putF x d gs vs).2)))) σ := by
  obtain ⟨A, f'⟩ := id f
  obtain ⟨v, e1, q⟩ := f'.slot i _ e
  rcases q with ⟨x, e2, w⟩ | ⟨n, _⟩
  rotate_left
  · cases n
  cases e2
  cases w with
  | @ins a Ca dx fs _ _ _ _ B hc h m r nB ea =>
    refine ⟨a, Ca, dx, fs, e1, hc, h, m, fun x y d nd ry => ?_⟩
    have Oa : O a := (f'.sub i a ((ea a).mpr (.inl rfl))).1
    have ne : ∀ b, ¬ O b → b ≠ a := fun b n z => n (z ▸ Oa)
    have hk : Keep F O H O (upd H a (.ins Ca dx (L2.putF (fname x) y fs))) := ⟨fun b o eo _ no => ⟨by rw [upd_ne (ne b no)]; exact eo, no⟩, fun b hb => upd_ne fun z => (f'.sub i a ((ea a).mpr (.inl rfl))).2 (z ▸ hb)⟩
    obtain ⟨B', b1, b2, b3⟩ := OwnL.putF (f := x) nd ry m r
    have w' : Own T O (upd H a (.ins Ca dx (L2.putF (fname x) y fs))) (.ref a) (.ins c (Vm.putF x d gs vs).1 (Vm.putF x d gs vs).2) (fun b => b = a ∨ B' b) :=
      .ins hc upd_same b2 (OwnL.keep hk.sh _ _ _ b3 fun b hb => upd_ne fun z => nB (z ▸ b1 b hb)) (fun z => nB (b1 a z)) fun b => Iff.rfl
    have sub : ∀ b, (b = a ∨ B' b) → A i b := fun b z => (ea b).mpr (z.imp id (b1 b))
    refine ⟨hk, fun k => if k = i then (fun b => b = a ∨ B' b) else A k, by rw [List.length_set]; exact f'.len, fun k d' ek => ?_, fun k b hb => ?_, fun k l b nkl hb hl => ?_, f'.fo, fun b hb => ?_, fun z ez => (f'.xc z ez).keep hk.sh⟩
    · have ek : slot (ρ.set i (some (.own (.ins c (Vm.putF x d gs vs).1 (Vm.putF x d gs vs).2)))) k = some d' := ek
      by_cases hk2 : i = k
      · subst hk2
        rw [slot_set_self (slot_lt e)] at ek
        cases ek
        rw [if_pos rfl]
        exact ⟨_, e1, .inl ⟨_, rfl, w'⟩⟩
      · rw [slot_set_ne hk2] at ek
        rw [if_neg (Ne.symm hk2)]
        exact ((f'.slot k).keep hk.sh fun b hb => upd_ne fun z => f'.dis k i b (Ne.symm hk2) hb (z ▸ (ea a).mpr (.inl rfl))) d' ek
    · split at hb
      · subst_vars
        exact f'.sub _ b (sub b hb)
      · exact f'.sub k b hb
    · have h1 : A k b := by
        split at hb
        · subst_vars; exact sub b hb
        · exact hb
      have h2 : A l b := by
        split at hl
        · subst_vars; exact sub b hl
        · exact hl
      exact f'.dis k l b nkl h1 h2
    · by_cases hb2 : b = a
      · rw [hb2, upd_same]
        exact ⟨_, rfl, fun _ => by intro z; cases z⟩
      · rw [upd_ne hb2]
        exact f'.trk b hb
theorem tS.setF {G : Gt} {k : Nat} {X : Cx} {j fi : Nat} (g : Fct G T k C.Φ X) (hf : fi < 15) (h : tS T Κ C W M (.setF (.loc j) fi e) D σ H) : sFld X.K (tVar j) (tE T Κ C W e) (fname fi) D σ H := by
  obtain ⟨sx, O, F, ρ, f, h⟩ := h
  have e0 : exec Κ (.setF (.loc j) fi e) C ρ = (ev Κ C e ρ).bind fun v ρ1 => match slot ρ1 j with
      | some (.own (.ins c gs vs)) => if gs.length < 1000 then .ok .nx (ρ1.set j (some (.own (.ins c (Vm.putF fi v.un gs vs).1 (Vm.putF fi v.un gs vs).2)))) else .no
      | _ => .no := by
    rewrite [exec]
    rfl
  rw [e0] at h
  refine tE.thenS sx f h fun d ρ1 v H1 O1 k1 f1 h1 => ?_
  split at h1
  rotate_left
  · exact h1.elim
  rename_i c gs vs es
  split at h1
  rotate_left
  · exact h1.elim
  rename_i hz
  have np : d.un.isOwn = false := by
    obtain ⟨_, _, q⟩ := f1.get (i := ρ1.length) (d := d) (by rw [slot_app_ge (Nat.le_refl _), Nat.sub_self]; rfl)
    rcases q with ⟨x, A, rfl, w⟩ | ⟨n, _⟩
    · exact w.plain
    · rw [un_of n]; exact n
  obtain ⟨O2, k2, f2, r2⟩ := f1.unTop f1.top
  obtain ⟨a, Ca, dx, fs, e1, hc, e2, m, wr⟩ := f2.drop1.mutF es
  obtain ⟨k3, f3⟩ := wr fi v d.un np r2
  have ic := g.ins c Ca hc
  refine ⟨.ref a, (join_lt e1).2, a, Ca, dx, fs, rfl, e2, ic.c, ic.nf fi hf, ?_, h1 σ _ _ (Unch.refl ..) (k2.trans k3 fun _ z => z) f3⟩
  have := congrArg List.length m
  simp only [List.length_map] at this
  omega
end
end Vm
/-! #### part Vh4 -/
namespace Vm
open PySem PySem.Spec PyProof.Rows L2
/-! ### the caught exception comes and goes: T.ξ says nothing of values -/
mutual
theorem Rep.reT {T : Tab} {O : AS} {H : Hp} (z : Option XI) : ∀ (d : D) (v : V), Rep T O H v d → Rep { T with ξ := z } O H v d
  | _, _, .non => .non
  | _, _, .bl b => .bl b
  | _, _, .int i => .int i
  | _, _, .str x => .str x
  | .tup ds, _, .tup h n r => .tup h n (RepL.reT z ds _ r)
  | .lst ds, _, .lst h n r => .lst h n (RepL.reT z ds _ r)
  | .scr ds, _, .scr h n r => .scr h n (RepL.reT z ds _ r)
  | .lsto ds, _, .lsto h n r => .lsto h n (RepL.reT z ds _ r)
  | _, _, .dct0 h n => .dct0 h n
  | .ins c gs vs, _, .ins c1 h n m r => .ins c1 h n m (RepL.reT z vs _ r)
  | _, _, .fn h => .fn h
  | .own d, _, .own n r => .own n (Rep.reT z d _ r)
theorem RepL.reT {T : Tab} {O : AS} {H : Hp} (z : Option XI) : ∀ (ds : List D) (vs : List V), RepL T O H vs ds → RepL { T with ξ := z } O H vs ds
  | [], _, .nil => .nil
  | d :: ds, _, .cons r rs => .cons (Rep.reT z d _ r) (RepL.reT z ds _ rs)
end
mutual
theorem Own.reT {T : Tab} {O : AS} {H : Hp} (z : Option XI) : ∀ (d : D) (v : V) (A : AS), Own T O H v d A → Own { T with ξ := z } O H v d A
  | .lst ds, _, _, .lst h r e => .lst h (RepL.reT z ds _ r) e
  | .lsto ds, _, _, .lsto h r n e => .lsto h (OwnL.reT z ds _ _ r) n e
  | _, _, _, .dct0 h e => .dct0 h e
  | .ins c gs vs, _, _, .ins c1 h m r n e => .ins c1 h m (OwnL.reT z vs _ _ r) n e
theorem OwnL.reT {T : Tab} {O : AS} {H : Hp} (z : Option XI) : ∀ (ds : List D) (vs : List V) (B : AS), OwnL T O H vs ds B → OwnL { T with ξ := z } O H vs ds B
  | [], _, _, .nil h => .nil h
  | d :: ds, _, _, .rep n r t => .rep n (Rep.reT z d _ r) (OwnL.reT z ds _ _ t)
  | .own d :: ds, _, _, .own r t n e => .own (Own.reT z d _ _ r) (OwnL.reT z ds _ _ t) n e
end
theorem ExR.reT {T : Tab} {O : AS} {H : Hp} {cls : Value} {dx : Option Addr} {x : D} (z : Option XI) (e : ExR T O H cls dx x) : ExR { T with ξ := z } O H cls dx x := by
  obtain ⟨c, vs, C, e1, e2, e3, h⟩ := e
  refine ⟨c, vs, C, e1, e2, e3, ?_⟩
  rcases h with h | ⟨y, v, d, h1, h2, h3, h4, r⟩
  · exact .inl h
  · exact .inr ⟨y, v, d, h1, h2, h3, h4, r.reT z⟩
theorem FR.reT {T : Tab} {O F : AS} {H : Hp} {ρ : Env} {σ : LSt} {z : Option XI} (f : FR T O F H ρ σ) (hx : ∀ y, z = some y → ExR T O H y.cls y.dx y.d) : FR { T with ξ := z } O F H ρ σ := by
  obtain ⟨A, f⟩ := f
  refine ⟨A, f.len, fun i d e => ?_, f.sub, f.dis, f.fo, f.trk, fun y e => (hx y e).reT z⟩
  obtain ⟨v, e1, q⟩ := f.slot i d e
  refine ⟨v, e1, ?_⟩
  rcases q with ⟨x, e2, q⟩ | ⟨n, q⟩
  · exact .inl ⟨x, e2, q.reT z⟩
  · exact .inr ⟨n, q.reT z⟩
/-- back, to a table where nothing is caught -/
theorem FR.unT {T : Tab} {O F : AS} {H : Hp} {ρ : Env} {σ : LSt} {z : Option XI} (h0 : T.ξ = none) (f : FR { T with ξ := z } O F H ρ σ) : FR T O F H ρ σ := by
  have e : T = { ({ T with ξ := z } : Tab) with ξ := none } := by
    obtain ⟨a, b, c, d, x⟩ := T
    cases h0
    rfl
  rw [e]
  exact FR.reT f fun y e => nomatch e
theorem Fct.reT {G : Gt} {T : Tab} {k : Nat} {Φ : Nat → List D → R D} {X : Cx} (z : Option XI) (h0 : T.ξ = none) (h : Fct G T k Φ X) : Fct G { T with ξ := z } k (fun _ _ => .no) X where
  K := h.K
  mgF := h.mgF
  mgC := h.mgC
  mgI := h.mgI
  mgB := h.mgB
  fns := fun f a e => by
    obtain ⟨fd, ps, F, h1, h2⟩ := h.fns f a e
    exact ⟨fd, ps, ⟨fun vs H Q E sp => by obtain ⟨_, _, _, _, _, _, z⟩ := sp; exact z.elim, fun _ _ _ _ _ _ _ _ _ _ _ _ _ _ sp => by obtain ⟨_, _, _, _, _, _, z⟩ := sp; exact z.elim⟩, h1, h2⟩
  ins := h.ins
  mks := h.mks
  mts := h.mts
  eqs := h.eqs
  nf := h.nf
  mar := h.mar
  xex := h.xex
  xnf := h.xnf
  xkit := h.xkit
  kit := h.kit
  xcc := h.xcc
  xmk := fun c D n h1 h2 => ⟨fun X' pins s σ H O F ρ us vs ds Q e1 e2 e3 e4 e5 hc hr hg I rv hl f r q => by
    refine (h.xmk c D n h1 h2).run X' pins s σ H O F ρ us vs ds Q e1 e2 e3 e4 e5 hc hr hg I rv hl (f.unT h0) (by
      have e : T = { ({ T with ξ := z } : Tab) with ξ := none } := by
        obtain ⟨a, b, c, d, x⟩ := T
        cases h0
        rfl
      rw [e]
      exact RepL.reT none _ _ r) fun dx H' O' k1 f1 x1 => q dx H' O' k1 (f1.reT fun y ey => ?_) (x1.reT z)
    obtain ⟨A, f'⟩ := f
    have := (f'.xc y ey).keep k1.sh
    have e : T = { ({ T with ξ := z } : Tab) with ξ := none } := by
      obtain ⟨a, b, c, d, x⟩ := T
      cases h0
      rfl
    rw [e]
    exact ExR.reT none this⟩
  xno := h.xno
  xct := h.xct
/-! ### raise -/
section
variable {G : Gt} {T : Tab} {k : Nat} {C : Cf} {S : Sc} {W : WX} {X : Cx} {M : Nat → Bool} {σ : L2.St} {H : Hp} {D : Ends} {O F : AS} {ρ : Env} {es : List E} {c : Nat}
theorem tS.raise_ (h : tS T G.Κ C W M (.raise_ c es) D σ H) : tL T G.Κ C W es σ H fun vs H1 => ∃ O1 F1 ρ1 ds, FR T O1 F1 H1 ρ1 σ ∧ RepL T O1 H1 vs ds ∧ ∀ Da, T.xcl c = some Da → ∀ dx H' O', Keep F1 O1 H1 O' H' → FR T O' F1 H' ρ1 σ → ExR T O' H' (.ref Da) dx (.exc c ds) → W (.ref Da) dx σ H' := by
  obtain ⟨sx, O, F, ρ, f, h⟩ := h
  have e0 : exec G.Κ (.raise_ c es) C ρ = (evL G.Κ C es ρ).bind fun ds ρ1 => .ex (.exc c (ds.map Vm.D.un)) ρ1 := by rw [exec]
  rw [e0] at h
  refine ⟨sx, O, F, ρ, f, ?_⟩
  cases q : evL G.Κ C es ρ with
  | no => rw [q] at h; exact h
  | ex x ρ1 => rw [q] at h; exact fun cls dx H' O' k f e => h cls dx σ H' O' (Unch.refl ..) k f e
  | ok ds ρ1 =>
    rw [q, R.bind_ok] at h
    intro vs H1 O1 k1 f1 hl
    have hl1 : ρ1.length = σ.length := by
      have := f1.length
      simp only [List.length_append, List.length_map, hl] at this
      omega
    obtain ⟨O2, k2, f2, r2⟩ := f1.unTops hl1 hl
    exact ⟨O2, F, ρ1, ds.map Vm.D.un, f2, r2, fun Da e dx H' O' k3 f3 x3 => h _ dx σ H' O' (Unch.refl ..) ((k1.trans k2 fun _ z => z).trans k3 fun _ z => z) f3 x3⟩
theorem ps_raiseV {x : PySem.Str} {es' : List Expr} {n : Nat} {p pos pos2 : Pos} (g : Good G T k C S W X) (hh : S.hot = false) (hx : glB S x = true) (hc : G.clm.lookup x = some c) (ht : isExc G c = true) (hn : G.xar c = some n) (hl : n = es.length)
    (ha : PA X es' (tL T G.Κ C W es)) (hs : es'.any isStar = false) (hlen : es'.length = es.length) : PS X (.Raise (some (.Call (.Name x p) es' [] pos)) none pos2) (tS T G.Κ C W M (.raise_ c es)) := by
  obtain ⟨gl, db⟩ := g.gl hx
  obtain ⟨hcalm, hroom, _⟩ := g.calm hh
  obtain ⟨Da, ea, em⟩ := g.fct.mgC x c hc
  rw [g.fct.xno c ht] at ea
  have hd : T.xcl c = some Da := ea
  obtain ⟨_, _, hr, hk⟩ := g.fct.xcc c Da hd
  have mk := g.fct.xmk c Da n hd hn
  have hp : PMk X (.Call (.Name x p) es' [] pos) (fun σ H Q => tL T G.Κ C W es σ H fun vs H1 => vs.length = n ∧ ∃ O1 F1 ρ1 ds, FR T O1 F1 H1 ρ1 σ ∧ RepL T O1 H1 vs ds ∧ ∀ dx H' O', Keep F1 O1 H1 O' H' → FR T O' F1 H' ρ1 σ → ExR T O' H' (.ref Da) dx (.exc c ds) → Q (.ref Da) dx H') := by
    intro pins s σ H Q I h
    refine wpAny_Call_Name_kw (ld_glob I gl em ?_ db)
    have fin : ∀ us s1, (∃ vs H1, Inv X pins σ H1 s1 ∧ Vals vs us ∧ vs.length = n ∧ ∃ O1 F1 ρ1 ds, FR T O1 F1 H1 ρ1 σ ∧ RepL T O1 H1 vs ds ∧ ∀ dx H' O', Keep F1 O1 H1 O' H' → FR T O' F1 H' ρ1 σ → ExR T O' H' (.ref Da) dx (.exc c ds) → Q (.ref Da) dx H') →
        wpAny (model X.prog X.w) X.A (call (.ref Da) us) (MkP X pins σ Q) X.xe s1 := fun us s1 ⟨vs, H1, I1, rv, hn1, O1, F1, ρ1, ds, f, r, q⟩ =>
      mk.run X pins s1 σ H1 O1 F1 ρ1 us vs ds Q rfl rfl rfl rfl rfl hcalm hroom g.gd I1 rv hn1 f r q
    cases es' with
    | nil =>
      have e2 : es = [] := List.length_eq_zero_iff.mp hlen.symm
      subst e2
      obtain ⟨sx, O, F, ρ, f, h⟩ := h
      have h := h [] H O (Keep.refl ..) (by simpa using f) rfl
      exact PySem.W.callWith_K0 I.kIn hk (fin [] s ⟨[], H, I, .nil, h⟩)
    | cons e es2 =>
      rw [List.any_cons, Bool.or_eq_false_iff] at hs
      refine PySem.W.callWith_K (h₀ := X.base) I.ok.mod.kin hk (thn (ha.run pos pins s σ H _ I h) fun us s1 ⟨vs, H1, I1, r1, hq⟩ => ⟨I1.kIn, fin us s1 ⟨vs, H1, I1, r1, hq⟩⟩) (star_cons hs.1 _ _) (star_any hs.2 _ _)
  refine (ps_raise hcalm g.tk hp).imp fun D σ H h => ?_
  have h' := tS.raise_ h
  obtain ⟨sx, O, F, ρ, f, h'⟩ := h'
  refine ⟨sx, O, F, ρ, f, ?_⟩
  cases q : evL G.Κ C es ρ with
  | no => rw [q] at h'; exact h'
  | ex x ρ1 => rw [q] at h'; exact h'
  | ok ds ρ1 =>
    rw [q] at h'
    intro vs H1 O1 k1 f1 hl1
    obtain ⟨O2, F2, ρ2, ds2, f2, r2, q2⟩ := h' vs H1 O1 k1 f1 hl1
    refine ⟨?_, O2, F2, ρ2, ds2, f2, r2, q2 Da hd⟩
    rw [hl, ← hl1]
    exact evL_length q
end
end Vm
/-! #### part Vh5 -/
namespace Vm
open PySem PySem.Spec PyProof.Rows L2
/-! ### try .. except -/
section
variable {G : Gt} {T : Tab} {k : Nat} {C : Cf} {S : Sc} {W : WX} {X : Cx} {M : Nat → Bool} {σ : L2.St} {H : Hp} {D : Ends} {O F : AS} {ρ : Env} {c : Nat} {b h : List Vm.S} {i : Nat} {cv : Value}
theorem FR.wipeV (f : FR T O F H ρ σ) (i : Nat) (w : Option V) : FR T O F H (ρ.set i none) (σ.set i w) := by
  refine (f.wipe1 i).fill (by simp [f.length]) fun j d e => .inl ⟨e, ?_⟩
  rw [slot_none] at e
  split at e
  · cases e
  · rw [List.getElem?_set_ne (by omega)]
def nox : Nat → List Vm.D → R Vm.D := fun _ _ => .no
def offM (M : Nat → Bool) (i : Nat) : Nat → Bool := fun j => M j && !(j == i)
/-- the suite's reading -/
def tAs (T : Tab) (Κ : Nat → Option Cls) (M : Nat → Bool) (i : Nat) (h : List Vm.S) (a : Addr) (cls : Value) (d : Option Addr) : TS := fun D σ H =>
  ∃ x c0 vs D0, x = .exc c0 vs ∧ T.xcl c0 = some D0 ∧ cls = .ref D0 ∧ tSs { T with ξ := some ⟨i, a, cls, d, x⟩ } Κ ⟨nox, some x⟩ W0 (offM M i) h D σ H
theorem Unch.offM {σ σ1 σ2 : LSt} {w : Option V} {w' : Option V} (hi : M i = true) (u : Unch M σ σ1) (u2 : Unch (offM M i) (σ1.set i w) σ2) : Unch M σ (σ2.set i w') := by
  refine ⟨by rw [List.length_set, u2.1, List.length_set, u.1], fun j hj => ?_⟩
  have hne : i ≠ j := fun z => by rw [z, hj] at hi; cases hi
  rw [List.getElem?_set_ne hne, u2.2 j (by unfold Vm.offM; rw [hj]; rfl), List.getElem?_set_ne hne, u.2 j hj]
theorem tS.try_as (fc : Fct G T k C.Φ X) (h0 : T.ξ = none) (hi : M i = true) (hcat : c ∈ G.cats) (hcv : tyV T (.cls c) = some cv) (hh : tS T G.Κ C W M (.try_ b c (some i) h) D σ H) :
    tSs T G.Κ C (wAs X.K cv i (tAs T G.Κ M i h) W D) M b D σ H := by
  obtain ⟨sx, O, F, ρ, f, hh⟩ := hh
  have e0 : exec G.Κ (.try_ b c (some i) h) C ρ = match execs G.Κ b C ρ with
    | .ex e ρ1 => match catches G.Κ c e with
      | some true => if i < ρ1.length then match execs G.Κ h { Φ := nox, ξ := some e } (ρ1.set i none) with
            | .ok f ρ2 => .ok f (ρ2.set i none)
            | .ex e2 ρ2 => .no
            | .no => .no
          else .no
      | some false => .ex e ρ1
      | none => .no
    | r => r := by
    rewrite [exec]
    cases execs G.Κ b C ρ with
    | ok f r => rfl
    | no => rfl
    | ex e r =>
      dsimp only
      cases catches G.Κ c e with
      | none => rfl
      | some t =>
        cases t with
        | false => rfl
        | true => rfl
  rw [e0] at hh
  refine ⟨sx, O, F, ρ, f, ?_⟩
  cases q : execs G.Κ b C ρ with
  | no => rw [q] at hh; exact hh
  | ok fl ρ1 =>
    rw [q] at hh
    cases fl <;> exact hh
  | ex e ρ1 =>
    rw [q] at hh
    dsimp only at hh
    intro cls dx σ1 H1 O1 u1 k1 f1 x1
    obtain ⟨c0, vs, D0, e1, e2, e3, _⟩ := x1.ex
    have ec : catches G.Κ c e = catches G.Κ c (.exc c0 []) := by rw [e1]; rfl
    cases et : catches G.Κ c e with
    | none => rw [et] at hh; exact hh.elim
    | some t =>
      rw [et] at hh
      refine ⟨t, by rw [e3]; exact fc.xct c0 D0 c cv t e2 hcat hcv (by rw [← ec]; exact et), fun ht a ha => ?_, fun ht => ?_⟩
      · subst ht
        dsimp only at hh
        split at hh
        rotate_left
        · exact hh.elim
        rename_i hlt
        have hls : i < σ1.length := by rw [← f1.length]; exact hlt
        refine ⟨e, c0, vs, D0, e1, e2, e3, fun z ez => ?_, O1, F, ρ1.set i none, (f1.wipeV i (some (.ref a))).reT fun y ey => ?_, ?_⟩
        · cases ez
          exact by simp [hls]
        · cases ey
          exact x1
        · cases q2 : execs G.Κ h { Φ := nox, ξ := some e } (ρ1.set i none) with
          | no => rw [q2] at hh; exact hh.elim
          | ex x2 ρ2 => rw [q2] at hh; exact hh.elim
          | ok fl ρ2 =>
            rw [q2] at hh
            cases fl with
            | nx => exact fun σ3 H3 O3 u3 k3 f3 => hh _ H3 O3 (u1.offM hi u3) (k1.trans k3 fun _ z => z) ((f3.unT h0).wipeV i none)
            | cont => exact fun σ3 H3 O3 u3 k3 f3 => hh _ H3 O3 (u1.offM hi u3) (k1.trans k3 fun _ z => z) ((f3.unT h0).wipeV i none)
            | ret d =>
              intro v σ3 H3 O3 u3 k3 f3
              have hl3 : i < σ3.length := by rw [u3.1]; simpa using hls
              have hl4 : ρ2.length = σ3.length := f3.top
              have f4 := (f3.unT h0).wipeV i none
              rw [List.set_append_left _ _ hl3, List.set_append_left _ _ (by omega)] at f4
              exact hh v _ H3 O3 (u1.offM hi u3) (k1.trans k3 fun _ z => z) f4
      · subst ht
        exact hh cls dx σ1 H1 O1 u1 k1 f1 x1
/-- the suite of a clause without a name -/
abbrev tOnly (T : Tab) (Κ : Nat → Option Cls) (M : Nat → Bool) (h : List Vm.S) (a : Addr) (cls : Value) (d : Option Addr) : TS := tSs { T with ξ := none } Κ ⟨nox, none⟩ W0 M h
theorem tS.try_only (fc : Fct G T k C.Φ X) (h0 : T.ξ = none) (hcat : c ∈ G.cats) (hcv : tyV T (.cls c) = some cv) (hh : tS T G.Κ C W M (.try_ b c none h) D σ H) :
    tSs T G.Κ C (wOnly X.K cv (tOnly T G.Κ M h) W D) M b D σ H := by
  obtain ⟨sx, O, F, ρ, f, hh⟩ := hh
  have e0 : exec G.Κ (.try_ b c none h) C ρ = match execs G.Κ b C ρ with
    | .ex e ρ1 => match catches G.Κ c e with
      | some true => match execs G.Κ h { Φ := nox, ξ := none } ρ1 with
            | .ok f ρ2 => .ok f ρ2
            | .ex e2 ρ2 => .no
            | .no => .no
      | some false => .ex e ρ1
      | none => .no
    | r => r := by
    rewrite [exec]
    cases execs G.Κ b C ρ with
    | ok f r => rfl
    | no => rfl
    | ex e r =>
      dsimp only
      cases catches G.Κ c e with
      | none => rfl
      | some t =>
        cases t with
        | false => rfl
        | true => rfl
  rw [e0] at hh
  refine ⟨sx, O, F, ρ, f, ?_⟩
  cases q : execs G.Κ b C ρ with
  | no => rw [q] at hh; exact hh
  | ok fl ρ1 =>
    rw [q] at hh
    cases fl <;> exact hh
  | ex e ρ1 =>
    rw [q] at hh
    dsimp only at hh
    intro cls dx σ1 H1 O1 u1 k1 f1 x1
    obtain ⟨c0, vs, D0, e1, e2, e3, _⟩ := x1.ex
    have ec : catches G.Κ c e = catches G.Κ c (.exc c0 []) := by rw [e1]; rfl
    cases et : catches G.Κ c e with
    | none => rw [et] at hh; exact hh.elim
    | some t =>
      rw [et] at hh
      refine ⟨t, by rw [e3]; exact fc.xct c0 D0 c cv t e2 hcat hcv (by rw [← ec]; exact et), fun ht a ha => ?_, fun ht => ?_⟩
      · subst ht
        dsimp only at hh
        refine ⟨fun z ez => (nomatch ez), O1, F, ρ1, FR.reT (z := none) f1 (fun y ey => nomatch ey), ?_⟩
        · cases q2 : execs G.Κ h { Φ := nox, ξ := none } ρ1 with
          | no => rw [q2] at hh; exact hh.elim
          | ex x2 ρ2 => rw [q2] at hh; exact hh.elim
          | ok fl ρ2 =>
            rw [q2] at hh
            cases fl with
            | nx => exact fun σ3 H3 O3 u3 k3 f3 => hh _ H3 O3 (u1.trans u3) (k1.trans k3 fun _ z => z) (f3.unT h0)
            | cont => exact fun σ3 H3 O3 u3 k3 f3 => hh _ H3 O3 (u1.trans u3) (k1.trans k3 fun _ z => z) (f3.unT h0)
            | ret d => exact fun v σ3 H3 O3 u3 k3 f3 => hh v _ H3 O3 (u1.trans u3) (k1.trans k3 fun _ z => z) (f3.unT h0)
      · subst ht
        exact hh cls dx σ1 H1 O1 u1 k1 f1 x1
/-! ### what an except suite knows -/
theorem Takes.W0 {X : Cx} : Takes X Vm.W0 := fun u s' x => by
  obtain ⟨_, _, _, _, _, _, _, _, _, _, _, _, _, _, _, _, _, w⟩ := x
theorem Good.suite (g : Good G T k C S W X) (hh : S.hot = false) (a : Addr) (oe : Obj) (cls : Value) (dx : Option Addr) (pn : List (Addr × Obj)) (hz : Zc cls dx oe) (hf : ∃ vs, oe.data = .fields vs) (c0 : Nat) (vs : List Vm.D) (D0 : Addr) (e2 : T.xcl c0 = some D0) (e3 : cls = .ref D0) :
    Good G { T with ξ := some ⟨i, a, cls, dx, .exc c0 vs⟩ } k ⟨nox, some (.exc c0 vs)⟩ { S with hot := true, xi := some i } Vm.W0 (X.suite a ((a, oe) :: pn)) where
  fct := (g.fct.reT _ (g.calm hh).2.2).same rfl rfl rfl rfl rfl
  N := g.N
  sc := g.sc
  nd := g.nd
  fn := g.fn
  calm := fun z => nomatch z
  un := g.un
  gd := g.gd
  tk := Takes.W0
  xis := fun j e => by
    cases e
    subst e3
    obtain ⟨h1, h2, _⟩ := g.fct.xcc c0 D0 e2
    exact ⟨_, D0, c0, e2, rfl, rfl, rfl, rfl, call_isX h2 hz hf, fun e te n pos hc hn he => pe_xf h1 hn hz hf he (attrB hc _ _ _)⟩
  no := fun _ _ _ => rfl
theorem Good.only (g : Good G T k C S W X) (hh : S.hot = false) (a : Addr) (oe : Obj) (pn : List (Addr × Obj)) (hx : S.xi = none) :
    Good G { T with ξ := none } k ⟨nox, none⟩ { S with hot := true } Vm.W0 (X.suite a ((a, oe) :: pn)) where
  fct := (g.fct.reT _ (g.calm hh).2.2).same rfl rfl rfl rfl rfl
  N := g.N
  sc := g.sc
  nd := g.nd
  fn := g.fn
  calm := fun z => nomatch z
  un := g.un
  gd := g.gd
  tk := Takes.W0
  xis := fun j e => by cases hx.symm.trans e
  no := fun _ _ _ => rfl
/-- in a try -/
theorem Good.tr (g : Good G T k C S W X) (W' : WX) (pn : List (Addr × Obj)) (xe : Value → Shared → Prop) (tk : Takes (X.tr pn xe) W') (hh : S.hot = false) (hx : S.xi = none) : Good G T k C S W' (X.tr pn xe) where
  fct := g.fct.same rfl rfl rfl rfl rfl
  N := g.N
  sc := g.sc
  nd := g.nd
  fn := g.fn
  calm := g.calm
  un := g.un
  gd := g.gd
  tk := tk
  xis := fun j e => by cases hx.symm.trans e
  no := g.no
end
end Vm
/-! #### part Vh6 -/
namespace Vm
open PySem PySem.Spec PyProof.Rows L2
/-! ### the core's statements against the text's -/
def isCmpr : Expr → Bool
  | .ListComp .. | .SetComp .. | .DictComp .. => true
  | _ => false
def isTupX : Expr → Bool
  | .Tuple .. => true
  | _ => false
theorem sw_none {v : Expr} (h : isCmpr v = false) (t : Option Expr) (l : Nat) (env : PySem.Env) : swapsWith v t l env = pure false := by
  cases v <;> first | rfl | cases h
theorem sws_none {v : Expr} (h : isCmpr v = false) (t : Expr) (l : Nat) (env : PySem.Env) : swapsWithSole [t] v l env = pure false := sw_none h (some t) l env
theorem sst_none {v : Expr} (h : isTupX v = false) (t : Expr) (env : PySem.Env) : swappedStores [t] v env = pure none := by
  cases v <;> first | (cases h; done) | (cases t <;> rfl)
theorem sst_sub {v o i : Expr} {p : Pos} (env : PySem.Env) : swappedStores [.Subscript o i p] v env = pure none := by
  cases v <;> rfl
def lcN (S : Sc) (y : PySem.Str) : Bool := decide (S.sc.names.lookup y = some .local)
def clN (G : Gt) (S : Sc) (c : Nat) (x : PySem.Str) : Bool := glB S x && (if c = 19 then decide (x = "ValueError") else decide (G.clm.lookup x = some c))
mutual
def chkS (G : Gt) (S : Sc) (M : Nat → Bool) : Vm.S → Stmt → Bool
  | .asg tg e, x => match x with
    | .Assign [.Name y py] v p => (match tg with
      | .nm i => locB S i y && M i && chkE G S e v && (!isCmpr v || (match v with
        | .ListComp _ _ scope pos => !S.hot && lcN S y && (py.line == pos.line) && !(scope.names.any fun (n, k) => n == y && (k == .local || k == .cell))
        | _ => false))
      | _ => false)
    | .Assign [t] v p => !S.hot && !isCmpr v && !isTupX v && !isStar t && chkT S tg t && (tgS tg).all M && chkE G S e v
    | _ => false
  | .par is es, x => match x with
    | .Assign [.Tuple [.Name x px, .Name y py] _ _] (.Tuple [a, b] _ _) _ => !S.hot && (match is with
      | [i, j] => decide (S.N[i]? = some x) && decide (S.N[j]? = some y) && (i != j) && M i && M j
      | _ => false) && lcN S x && lcN S y && (py.line == px.line) && decide (x ≠ y) && !isStar a && !isStar b && !(foldedForSure 8 a && foldedForSure 8 b) && !(constantsAlone 8 a && constantsAlone 8 b) && chkL G S es [a, b]
    | .Assign [.Tuple [.Name x px, .Name y py, .Name z pz] _ _] (.Tuple [a, b, c] _ _) _ => !S.hot && (match is with
      | [i, j, l] => decide (S.N[i]? = some x) && decide (S.N[j]? = some y) && decide (S.N[l]? = some z) && (i != j) && (i != l) && (j != l) && M i && M j && M l
      | _ => false) && lcN S x && lcN S y && lcN S z && (py.line == px.line) && (pz.line == px.line) && decide (x ≠ y) && decide (x ≠ z) && decide (y ≠ z) && !isStar a && !isStar b && !isStar c && !(foldedForSure 8 a && (foldedForSure 8 b && foldedForSure 8 c)) && !(constantsAlone 8 a && (constantsAlone 8 b && constantsAlone 8 c)) && chkL G S es [a, b, c]
    | _ => false
  | .setI p i e, x => match x with
    | .Assign [.Subscript (.Name n _) ix _] v _ => !isCmpr v && !isSlice ix && (match p with
      | .loc j => visB S j n
      | _ => false) && chkE G S i ix && chkE G S e v
    | _ => false
  | .setF p f e, x => match x with
    | .Assign [.Attribute (.Name n _) a _] v _ => !isCmpr v && fldB f a && (match p with
      | .loc j => visB S j n
      | _ => false) && chkE G S e v
    | _ => false
  | .ex e, x => match x with
    | .Expr v _ => !isCmpr v && chkE G S e v
    | _ => false
  | .pass, x => match x with
    | .Pass _ => true
    | .Expr (.Constant (.str _) _ _) _ => true
    | _ => false
  | .if_ c a b, x => match x with
    | .If y s1 s2 _ => chkE G S c y && chkB G S M a s1 && chkB G S M b s2
    | _ => false
  | .for_ tg it b, x => match x with
    | .For t y bd [] _ => !S.hot && !isSet y && !isStar t && chkT S tg t && (tgS tg).all M && chkI G S it y && chkB G S M b bd
    | _ => false
  | .while_ c b, x => match x with
    | .While y bd [] _ => !S.hot && chkE G S c y && chkB G S M b bd
    | _ => false
  | .ret e, x => match x with
    | .Return (some v) _ => chkE G S e v
    | _ => false
  | .raise_ c es, x => match x with
    | .Raise (some (.Call (.Name n _) xs [] _)) none _ => !S.hot && glB S n && decide (G.clm.lookup n = some c) && isExc G c && decide (G.xar c = some es.length) && !xs.any isStar && chkL G S es xs
    | _ => false
  | .try_ b c nm h, x => match x with
    | .Try bd [.ExceptHandler (some (.Name n _)) none (s0 :: sr) _] [] [] _ => !S.hot && S.xi.isNone && (match nm with
      | none => clN G S c n && G.cats.contains c && chkB G S M b bd && chkB G { S with hot := true } M h (s0 :: sr)
      | _ => false)
    | .Try bd [.ExceptHandler (some (.Name n _)) (some y) (s0 :: sr) _] [] [] _ => !S.hot && S.xi.isNone && (match nm with
      | some i => decide (S.N[i]? = some y) && lcN S y && M i && clN G S c n && G.cats.contains c && chkB G S M b bd && chkB G { S with hot := true, xi := some i } (offM M i) h (s0 :: sr)
      | _ => false)
    | _ => false
  | .cont, x => match x with
    | .Continue _ => true
    | _ => false
  | _, _ => false
def chkB (G : Gt) (S : Sc) (M : Nat → Bool) : List Vm.S → List Stmt → Bool
  | [], [] => true
  | s :: ss, x :: xs => chkS G S M s x && chkB G S M ss xs
  | _, _ => false
end
structure GS (G : Gt) (T : Tab) (k : Nat) (C : Cf) (S : Sc) (W : WX) (M : Nat → Bool) (X : Cx) : Prop extends Good G T k C S W X where
  kind : X.env.scope.kind = .function
  stk : X.stack = X.env :: X.outer
  frm : X.env.frame = some X.env.locals
  po : S.hot = false → PassesOwn (model X.prog X.w) X.A X.env X.xe
  xm : XM T M
section
variable (G : Gt) (T : Tab) (k : Nat) (C : Cf)
def SS (s : Vm.S) : Prop := ∀ (T : Tab) (C : Cf) (S : Sc) (W : WX) (M : Nat → Bool) (X : Cx), GS G T k C S W M X → ∀ x : Stmt, chkS G S M s x = true → PS X x (tS T G.Κ C W M s)
def SB (b : List Vm.S) : Prop := ∀ (T : Tab) (C : Cf) (S : Sc) (W : WX) (M : Nat → Bool) (X : Cx), GS G T k C S W M X → ∀ x : List Stmt, chkB G S M b x = true → PSs X x (tSs T G.Κ C W M b)
end
section
variable {G : Gt} {k : Nat}
theorem SB_nil : SB G k [] := fun T C S W M X g x h => by
  cases x with
  | nil => exact pss_nil.imp fun _ _ _ z => tSs.nil z
  | cons _ _ => simp [chkB] at h
theorem SB_cons {s : Vm.S} {ss : List Vm.S} (i1 : SS G k s) (i2 : SB G k ss) : SB G k (s :: ss) := fun T C S W M X g x h => by
  cases x with
  | nil => simp [chkB] at h
  | cons y ys =>
    unfold chkB at h
    rw [Bool.and_eq_true] at h
    exact (pss_cons (i1 T C S W M X g y h.1) (i2 T C S W M X g ys h.2)).imp fun _ _ _ z => tSs.cons g.xm z
theorem SS_ex {e : E} : SS G k (.ex e) := fun T C S W M X g x h => by
  unfold chkS at h
  split at h
  · simp only [Bool.and_eq_true, Bool.not_eq_true'] at h
    exact (ps_expr (tO_E ((sE G T k C e).1 S W X g.toGood _ h.2)) (sw_none h.1 _ _ _)).imp fun _ _ _ z => tS.ex z
  · cases h
theorem SS_pass : SS G k .pass := fun T C S W M X g x h => by
  unfold chkS at h
  split at h
  · exact ps_pass.imp fun _ _ _ z => tS.pass z
  · exact ps_doc.imp fun _ _ _ z => tS.pass z
  · cases h
theorem SS_cont : SS G k .cont := fun T C S W M X g x h => by
  unfold chkS at h
  split at h
  · exact ps_continue.imp fun _ _ _ z => tS.cont z
  · cases h
theorem SS_ret {e : E} : SS G k (.ret e) := fun T C S W M X g x h => by
  unfold chkS at h
  split at h
  · exact (ps_ret (tO_G ((sE G T k C e).1 S W X g.toGood _ h))).imp fun _ _ _ z => tS.ret z
  · cases h
theorem SS_if {c : E} {a b : List Vm.S} (ia : SB G k a) (ib : SB G k b) : SS G k (.if_ c a b) := fun T C S W M X g x h => by
  unfold chkS at h
  split at h
  · simp only [Bool.and_eq_true] at h
    exact (ps_if ((sE G T k C c).2.1 S W X g.toGood _ h.1.1) (ia T C S W M X g _ h.1.2) (ib T C S W M X g _ h.2)).imp fun _ _ _ z => tS.if_ z
  · cases h
theorem SS_while {c : E} {b : List Vm.S} (ib : SB G k b) : SS G k (.while_ c b) := fun T C S W M X g x h => by
  unfold chkS at h
  split at h
  · simp only [Bool.and_eq_true, Bool.not_eq_true'] at h
    exact (ps_while (g.po h.1.1) ((sE G T k C c).2.1 S W X g.toGood _ h.1.2) (ib T C S W M X g _ h.2)).imp fun _ _ _ z => tS.while_ g.xm z
  · cases h
theorem SS_for {tg : Tg} {it : It} {b : List Vm.S} (ib : SB G k b) : SS G k (.for_ tg it b) := fun T C S W M X g x h => by
  unfold chkS at h
  split at h
  · simp only [Bool.and_eq_true, Bool.not_eq_true'] at h
    obtain ⟨⟨⟨⟨⟨⟨h1, h2⟩, h3⟩, h4⟩, h5⟩, h6⟩, h7⟩ := h
    obtain ⟨hc, _, _⟩ := g.calm h1
    exact (ps_for (g.po h1) hc (sI G T k C it S W X g.toGood _ _ h6) (sG g.toGood hc tg _ h4) (ib T C S W M X g _ h7) (noSet_fold h2 _)).imp fun _ _ _ z => tS.for_ (K := X.K) g.xm (fun i hi => List.all_eq_true.mp h5 i hi) z
  · cases h
theorem pg_subV {X : Cx} {pos : Pos} {o i : Expr} {to ti : TE} {t : TSet} (ho : PE X o to) (hi : PE X i ti) (hs : PSet X t) (h : isSlice i = false) : PG X (.Subscript o i pos) (gSub to ti t) :=
  pg_sub ho hi hs (by cases i <;> first | (intro v; rfl) | cases h)
theorem SS_setI {p : P} {i e : E} : SS G k (.setI p i e) := fun T C S W M X g x h => by
  unfold chkS at h
  split at h
  · simp only [Bool.and_eq_true, Bool.not_eq_true'] at h
    obtain ⟨⟨⟨⟨h1, h2⟩, h3⟩, h4⟩, h5⟩ := h
    split at h3
    · exact (ps_asg (tO_E ((sE G T k C e).1 S W X g.toGood _ h5)) (pg_subV (g.vis h3) (tO_E ((sE G T k C i).1 S W X g.toGood _ h4)) set_list h2) (sws_none h1 _ _ _) (sst_sub _)).imp fun _ _ _ z => tS.setI trivial z
    · cases h3
  · cases h
theorem SS_setF {p : P} {f : Nat} {e : E} : SS G k (.setF p f e) := fun T C S W M X g x h => by
  unfold chkS at h
  split at h
  · simp only [Bool.and_eq_true, Bool.not_eq_true', fldB, decide_eq_true_eq] at h
    obtain ⟨⟨⟨h1, hf, ha⟩, h3⟩, h5⟩ := h
    split at h3
    · subst ha
      exact (ps_fld (g.vis h3) (tO_E ((sE G T k C e).1 S W X g.toGood _ h5)) (sw_none h1 _ _ _)).imp fun _ _ _ z => tS.setF g.fct hf z
    · cases h3
  · cases h
end
end Vm
/-! #### part Vh7 -/
namespace Vm
open PySem PySem.Spec PyProof.Rows L2
theorem isStar_m {a : Expr} (h : isStar a = false) : (match a with | .Starred .. => true | _ => false) = false := by
  cases a <;> first | rfl | cases h
section
variable {env : PySem.Env} {x y z : PySem.Str} {a b c : Expr} {px py pz pt p2 : Pos} {kt k2 : Nat}
theorem swap2 (hk : env.scope.kind = .function) (hx : env.scope.names.lookup x = some .local) (hy : env.scope.names.lookup y = some .local) (hl : (py.line == px.line) = true) (hxy : x ≠ y) (h1 : isStar a = false) (h2 : isStar b = false)
    (hf : (foldedForSure 8 a && foldedForSure 8 b) = false) (hc : (constantsAlone 8 a && constantsAlone 8 b) = false) : swappedStores [.Tuple [.Name x px, .Name y py] kt pt] (.Tuple [a, b] k2 p2) env = pure (some [x, y]) := by
  have kx : env.kindOf x = some .local := hx
  have ky : env.kindOf y = some .local := hy
  have hb : env.blockKind = .function := by unfold PySem.Env.blockKind; rw [hk]; rfl
  have e1 : (y == x) = false := by simp [Ne.symm hxy]
  have e2 : ([x, y] : List PySem.Str).eraseDups = [x, y] := by simp [List.eraseDups_cons, e1]
  unfold swappedStores
  simp only [hb, kx, ky, hl, e2, Expr.pos, List.length_cons, List.length_nil, List.any_cons, List.any_nil, isStar_m h1, isStar_m h2, List.all_cons, List.all_nil, Bool.and_true, hf, hc, List.head?_cons, Option.map_some, Option.getD_some, List.filterMap_cons, List.filterMap_nil, beq_self_eq_true, if_true, bne_self_eq_false, Bool.or_false, Bool.or_self]
  change (if (isStar a || isStar b) = true then pure none else (pure (some [x, y]) : Sem (Option (List PySem.Str)))) = _
  rw [h1, h2]
  rfl
theorem swap3 (hk : env.scope.kind = .function) (hx : env.scope.names.lookup x = some .local) (hy : env.scope.names.lookup y = some .local) (hz : env.scope.names.lookup z = some .local) (hl : (py.line == px.line) = true) (hl2 : (pz.line == px.line) = true) (hxy : x ≠ y) (hxz : x ≠ z) (hyz : y ≠ z) (h1 : isStar a = false) (h2 : isStar b = false) (h3 : isStar c = false)
    (hf : (foldedForSure 8 a && (foldedForSure 8 b && foldedForSure 8 c)) = false) (hc : (constantsAlone 8 a && (constantsAlone 8 b && constantsAlone 8 c)) = false) : swappedStores [.Tuple [.Name x px, .Name y py, .Name z pz] kt pt] (.Tuple [a, b, c] k2 p2) env = pure (some [x, y, z]) := by
  have kx : env.kindOf x = some .local := hx
  have ky : env.kindOf y = some .local := hy
  have kz : env.kindOf z = some .local := hz
  have hb : env.blockKind = .function := by unfold PySem.Env.blockKind; rw [hk]; rfl
  have e1 : (y == x) = false := by simp [Ne.symm hxy]
  have e3 : (z == x) = false := by simp [Ne.symm hxz]
  have e4 : (z == y) = false := by simp [Ne.symm hyz]
  have e2 : ([x, y, z] : List PySem.Str).eraseDups = [x, y, z] := by simp [List.eraseDups_cons, e1, e3, e4]
  unfold swappedStores
  simp only [hb, kx, ky, kz, hl, hl2, e2, Expr.pos, List.length_cons, List.length_nil, List.any_cons, List.any_nil, isStar_m h1, isStar_m h2, isStar_m h3, List.all_cons, List.all_nil, Bool.and_true, hf, hc, List.head?_cons, Option.map_some, Option.getD_some, List.filterMap_cons, List.filterMap_nil, beq_self_eq_true, if_true, bne_self_eq_false, Bool.or_false, Bool.or_self]
  change (if (isStar a || (isStar b || isStar c)) = true then pure none else (pure (some [x, y, z]) : Sem (Option (List PySem.Str)))) = _
  rw [h1, h2, h3]
  rfl
end
section
variable {G : Gt} {k : Nat}
theorem chk_lc {S : Sc} {e : E} {ee : Expr} {gs : List Comprehension} {scope : Scope} {p : Pos} (h : chkE G S e (.ListComp ee gs scope p) = true) : ∃ keep elt tg it ifs vs, e = .comp keep elt tg it ifs vs := by
  cases e with
  | comp keep elt tg it ifs vs => exact ⟨_, _, _, _, _, _, rfl⟩
  | rd p => cases p <;> (unfold chkE chkP at h; cases h)
  | lit d => unfold chkE chkQ at h; cases h
  | meth m es => cases es <;> (unfold chkE at h; cases h)
  | _ => unfold chkE at h; first | (cases h; done) | (dsimp only at h; cases h; done)
theorem PS_lc {T : Tab} {C : Cf} {S : Sc} {W : WX} {M : Nat → Bool} {X : Cx} (g : GS G T k C S W M X) {i : Nat} {e : E} {y : PySem.Str} {py pos spos : Pos} {ee : Expr} {gs : List Comprehension} {scope : Scope} (hy : S.N[i]? = some y) (hyl : lcN S y = true) (hl : (py.line == pos.line) = true)
    (ha : (scope.names.any fun (n, k) => n == y && (k == .local || k == .cell)) = false) (h : chkE G S e (.ListComp ee gs scope pos) = true) :
    PS X (.Assign [.Name y py] (.ListComp ee gs scope pos) spos) (tAsg (tE T G.Κ C W e) (gName i)) := by
  obtain ⟨keep, elt, tg, it, ifs, vs, rfl⟩ := chk_lc h
  unfold chkE at h
  split at h
  · rename_i hex
    cases hex
    simp only [Bool.and_eq_true, Bool.not_eq_true'] at h
    obtain ⟨⟨⟨⟨⟨⟨⟨⟨⟨h0, h1⟩, h2⟩, h3⟩, h4⟩, h5⟩, h6⟩, h7⟩, h8⟩, h9⟩ := h
    subst h0
    have hxi : S.xi = none := by simpa using h2
    obtain ⟨hc, _, hx⟩ := g.calm h1
    have bk : BlkOk X.N X.env.scope scope (ownN S vs) := by rw [g.N, g.sc]; exact blkOk_by h4
    have gb := fun s H c cl fp => g.blk hxi s H scope c cl fp
    have own : (ownN S vs).map (·.2) = vs := by unfold ownN; rw [List.map_map]; exact List.map_id' vs
    have hyl' : X.env.scope.names.lookup y = some .local := by rw [g.sc]; exact of_decide_eq_true hyl
    have := ps_setLc (g := gT X.K tg) (spos := spos) hc g.nd (by rw [g.N]; exact hy) hyl' (sw_true g.kind hyl' hl ha) (sI G T k C it S W X g.toGood _ _ h7) bk (fun s H c cl fp => sG (gb s H c cl fp) hc tg _ h5) (fun s H c cl fp => sFs G T k C ifs (blkSc S scope) W0 _ (gb s H c cl fp) _ h8) (fun s H c cl fp => tO_E ((sE G T k C elt).1 (blkSc S scope) W0 _ (gb s H c cl fp) _ h9)) (noSet_fold h3 _)
    rw [own] at this
    refine this.imp fun D σ H z => ?_
    exact tE.comp hx (fun i hi => by simpa using List.all_eq_true.mp h6 i hi) z
  · cases h
theorem SS_asg {tg : Tg} {e : E} : SS G k (.asg tg e) := fun T C S W M X g x h => by
  unfold chkS at h
  split at h
  · split at h
    · rename_i y py v p tg i
      simp only [Bool.and_eq_true, Bool.or_eq_true, Bool.not_eq_true'] at h
      obtain ⟨⟨⟨h1, h2⟩, h3⟩, h4⟩ := h
      obtain ⟨l1, l2, l3⟩ := g.loc h1
      have hm : ∀ j ∈ tgS (.nm i), M j = true := fun j hj => by
        have : j = i := by simpa [tgS] using hj
        rw [this]; exact h2
      rcases h4 with h4 | h4
      · exact (ps_set g.nd l1 l2 (tO_E ((sE G T k C e).1 S W X g.toGood _ h3)) (sw_none h4 _ _ _) l3).imp fun _ _ _ z => tS.asg (K := X.K) hm z
      · split at h4
        · simp only [Bool.and_eq_true, Bool.not_eq_true'] at h4
          exact (PS_lc g (by rw [← g.N]; exact l1) h4.1.1.2 h4.1.2 h4.2 h3).imp fun _ _ _ z => tS.asg (K := X.K) hm z
        · cases h4
    · cases h
  · simp only [Bool.and_eq_true, Bool.not_eq_true'] at h
    obtain ⟨⟨⟨⟨⟨⟨h1, h2⟩, h3⟩, h4⟩, h5⟩, h6⟩, h7⟩ := h
    obtain ⟨hc, _, _⟩ := g.calm h1
    exact (ps_asg (tO_E ((sE G T k C e).1 S W X g.toGood _ h7)) (sG g.toGood hc tg _ h5) (sws_none h2 _ _ _) (sst_none h3 _ _) (by rw [asg_cons h4]; rfl)).imp fun _ _ _ z => tS.asg (K := X.K) (fun i hi => List.all_eq_true.mp h6 i hi) z
  · cases h
theorem SS_raise {c : Nat} {es : List E} : SS G k (.raise_ c es) := fun T C S W M X g x h => by
  unfold chkS at h
  split at h
  · simp only [Bool.and_eq_true, Bool.not_eq_true', decide_eq_true_eq] at h
    obtain ⟨⟨⟨⟨⟨⟨h1, h2⟩, h3⟩, h4⟩, h5⟩, h6⟩, h7⟩ := h
    exact ps_raiseV g.toGood h1 h2 h3 h4 h5 rfl ((sEs G T k C es).1 S W X g.toGood _ h7 h6) h6 (chkL_len h7).symm
  · cases h
theorem GS.lc {T : Tab} {C : Cf} {S : Sc} {W : WX} {M : Nat → Bool} {X : Cx} (g : GS G T k C S W M X) {y : PySem.Str} (h : lcN S y = true) : X.env.scope.names.lookup y = some .local := by
  rw [g.sc]; exact of_decide_eq_true h
theorem SS_par {is : List Nat} {es : List E} : SS G k (.par is es) := fun T C S W M X g x h => by
  unfold chkS at h
  split at h
  · simp only [Bool.and_eq_true, Bool.not_eq_true', decide_eq_true_eq] at h
    obtain ⟨⟨⟨⟨⟨⟨⟨⟨⟨⟨h1, h2⟩, hx⟩, hy⟩, hl⟩, hxy⟩, sa⟩, sb⟩, hf⟩, hc⟩, hE⟩ := h
    split at h2
    · simp only [Bool.and_eq_true, decide_eq_true_eq, bne_iff_ne] at h2
      obtain ⟨⟨⟨⟨hi, hj⟩, hij⟩, mi⟩, mj⟩ := h2
      obtain ⟨calm, _, _⟩ := g.calm h1
      have hx' := g.lc hx
      have hy' := g.lc hy
      exact (ps_par calm g.nd (by rw [g.N]; exact hi) (by rw [g.N]; exact hj) hij hx' hy' ((sEs G T k C es).1 S W X g.toGood _ hE (by simp [sa, sb])) (swap2 g.kind hx' hy' hl hxy sa sb hf hc)).imp fun _ _ _ z => tS.par2 hij (by simp [mi, mj]) z
    · cases h2
  · simp only [Bool.and_eq_true, Bool.not_eq_true', decide_eq_true_eq] at h
    obtain ⟨⟨⟨⟨⟨⟨⟨⟨⟨⟨⟨⟨⟨⟨⟨h1, h2⟩, hx⟩, hy⟩, hz⟩, hl⟩, hl2⟩, hxy⟩, hxz⟩, hyz⟩, sa⟩, sb⟩, sc⟩, hf⟩, hc⟩, hE⟩ := h
    split at h2
    · simp only [Bool.and_eq_true, decide_eq_true_eq, bne_iff_ne] at h2
      obtain ⟨⟨⟨⟨⟨⟨⟨⟨hi, hj⟩, hk⟩, hij⟩, hil⟩, hjl⟩, mi⟩, mj⟩, mk⟩ := h2
      obtain ⟨calm, _, _⟩ := g.calm h1
      have hx' := g.lc hx
      have hy' := g.lc hy
      have hz' := g.lc hz
      exact (ps_par3 calm g.nd (by rw [g.N]; exact hi) (by rw [g.N]; exact hj) (by rw [g.N]; exact hk) hij hil hjl hx' hy' hz' ((sEs G T k C es).1 S W X g.toGood _ hE (by simp [sa, sb, sc])) (swap3 g.kind hx' hy' hz' hl hl2 hxy hxz hyz sa sb sc hf hc)).imp fun _ _ _ z => tS.par3 hij hil hjl (by simp [mi, mj, mk]) z
    · cases h2
  · cases h
theorem Good.clN {T : Tab} {C : Cf} {S : Sc} {W : WX} {X : Cx} (g : Good G T k C S W X) {c : Nat} {n : PySem.Str} (h : Vm.clN G S c n = true) : ∃ cv, Names X n cv ∧ tyV T (.cls c) = some cv := by
  unfold Vm.clN at h
  rw [Bool.and_eq_true] at h
  obtain ⟨h1, h2⟩ := h
  obtain ⟨gl, db⟩ := g.gl h1
  by_cases hc : c = 19
  · rw [if_pos hc] at h2
    have h2 : n = "ValueError" := of_decide_eq_true h2
    subst h2
    exact ⟨.type "ValueError", ⟨gl, db, .inr ⟨g.fct.mgB _ (by decide +kernel), by first | decide +kernel | kernel_rfl, by decide +kernel⟩⟩, by simp [tyV, hc]⟩
  · rw [if_neg hc] at h2
    have h2 := of_decide_eq_true h2
    obtain ⟨a, ea, em⟩ := g.fct.mgC n c h2
    exact ⟨.ref a, ⟨gl, db, .inl em⟩, by simp [tyV, hc, ea]⟩
theorem SS_try {b : List Vm.S} {c : Nat} {nm : Option Nat} {hd : List Vm.S} (ib : SB G k b) (ih : SB G k hd) : SS G k (.try_ b c nm hd) := fun T C S W M X g x h => by
  unfold chkS at h
  split at h
  · simp only [Bool.and_eq_true, Bool.not_eq_true'] at h
    obtain ⟨⟨h1, h2⟩, h3⟩ := h
    have hxi : S.xi = none := by simpa using h2
    split at h3
    · simp only [Bool.and_eq_true] at h3
      obtain ⟨⟨⟨h4, h5⟩, h6⟩, h7⟩ := h3
      obtain ⟨cv, nms, hty⟩ := g.clN h4
      have h0 := (g.calm h1).2.2
      refine (ps_try_only (Wout := W) (tb := fun W' => tSs T G.Κ C W' M b) (ts := tOnly T G.Κ M hd) g.stk g.frm nms g.tk (fun W' pn xe tk po => ib T C S W' M _ ⟨g.toGood.tr W' pn xe tk h1 hxi, g.kind, g.stk, g.frm, fun _ => po, g.xm⟩ _ h6) fun a oe cls d pn hz hf => ?_).imp fun _ _ _ z => tS.try_only g.fct h0 (by simpa using h5) hty z
      exact ih _ _ _ _ M _ ⟨g.toGood.only h1 a oe pn hxi, g.kind, g.stk, g.frm, (fun z => nomatch z), (fun z e => nomatch e)⟩ _ h7
    · cases h3
  · simp only [Bool.and_eq_true, Bool.not_eq_true'] at h
    obtain ⟨⟨h1, h2⟩, h3⟩ := h
    have hxi : S.xi = none := by simpa using h2
    split at h3
    · rename_i i
      simp only [Bool.and_eq_true, decide_eq_true_eq] at h3
      obtain ⟨⟨⟨⟨⟨⟨hi, hl⟩, hm⟩, h4⟩, h5⟩, h6⟩, h7⟩ := h3
      obtain ⟨cv, nms, hty⟩ := g.clN h4
      have h0 := (g.calm h1).2.2
      refine (ps_try_as (Wout := W) (i := i) (tb := fun W' => tSs T G.Κ C W' M b) (ts := tAs T G.Κ M i hd) g.stk g.frm g.nd (by rw [g.N]; exact hi) (g.lc hl) nms g.tk (fun W' pn xe tk po => ib T C S W' M _ ⟨g.toGood.tr W' pn xe tk h1 hxi, g.kind, g.stk, g.frm, fun _ => po, g.xm⟩ _ h6) fun a oe cls d pn hz hf => ?_).imp fun _ _ _ z => tS.try_as g.fct h0 hm (by simpa using h5) hty z
      refine ⟨fun pins s σ H D I q => ?_⟩
      obtain ⟨x, c0, vs, D0, rfl, e2, e3, q⟩ := q
      exact (ih _ _ _ _ (offM M i) _ ⟨g.toGood.suite (i := i) h1 a oe cls d pn hz hf c0 vs D0 e2 e3, g.kind, g.stk, g.frm, (fun z => nomatch z), (fun z e => by cases e; simp [offM])⟩ _ h7).run pins s σ H D I q
    · cases h3
  · cases h
theorem SS_no {s : Vm.S} (h : ∀ S M x, chkS G S M s x = false) : SS G k s := fun T C S W M X g x q => by rw [h] at q; cases q
mutual
theorem sS (G : Gt) (k : Nat) : ∀ s : Vm.S, SS G k s
  | .asg tg e => SS_asg
  | .par is es => SS_par
  | .setI p i e => SS_setI
  | .setF p f e => SS_setF
  | .augN i o e => SS_no fun _ _ _ => by unfold chkS; rfl
  | .augI p i o e => SS_no fun _ _ _ => by unfold chkS; rfl
  | .ex e => SS_ex
  | .if_ c a b => SS_if (sB G k a) (sB G k b)
  | .for_ tg it b => SS_for (sB G k b)
  | .while_ c b => SS_while (sB G k b)
  | .ret e => SS_ret
  | .raise_ c es => SS_raise
  | .try_ b c nm h => SS_try (sB G k b) (sB G k h)
  | .pass => SS_pass
  | .cont => SS_cont
theorem sB (G : Gt) (k : Nat) : ∀ b : List Vm.S, SB G k b
  | [] => SB_nil
  | s :: ss => SB_cons (sS G k s) (sB G k ss)
end
end
end Vm
/-! #### part Vi1 -/
namespace Vm
open PySem PySem.Spec PyProof.Rows L2
/-! ### a def: its body's check makes its promise -/
theorem outs_len : ∀ (ks : List Bool) (ρ : Env), ks.length ≤ ρ.length → (outsOf ks ρ).length = ks.length
  | [], _, _ => by cases ‹Env› <;> rfl
  | k :: ks, o :: os, h => by
    show (_ :: outsOf ks os).length = _
    simp [outs_len ks os (by simpa using h)]
  | _ :: _, [], h => by simp at h
theorem outs_slot : ∀ (ks : List Bool) (ρ : Env) (i : Nat) (d : D), slot (outsOf ks ρ) i = some d → ks[i]? = some true ∧ slot ρ i = some d
  | [], ρ, i, d, h => by cases ρ <;> cases h
  | k :: ks, [], i, d, h => by cases h
  | k :: ks, o :: os, 0, d, h => by
    have h : (if k then o else none) = some d := h
    cases k with
    | true => exact ⟨rfl, h⟩
    | false => cases h
  | k :: ks, o :: os, i + 1, d, h => outs_slot ks os i d h
theorem slot_pad (ρ : Env) (n i : Nat) : slot (ρ ++ List.replicate n none) i = slot ρ i := by
  by_cases h : i < ρ.length
  · exact slot_app_lt h
  · rw [slot_app_ge (by omega)]
    have e1 : slot ρ i = none := by
      unfold slot
      rw [List.getElem?_eq_none (by omega)]
      rfl
    rw [e1]
    unfold slot
    rw [List.getElem?_replicate]
    split <;> rfl
section
variable {T : Tab} {O F : AS} {H : Hp} {ρ ρ' : Env} {σ σ' : LSt}
theorem FR.pad (f : FR T O F H ρ σ) (n : Nat) : FR T O F H (ρ ++ List.replicate n none) (σ ++ List.replicate n none) := by
  have hl := f.length
  refine f.reidx (by simp [hl]) id (fun i d e => ?_) fun _ _ _ _ _ _ _ _ z => z
  rw [slot_pad] at e
  have := slot_lt e
  exact ⟨e, by rw [List.getElem?_append_left (by omega)]; rfl⟩
theorem FR.outs {ks : List Bool} {n : Nat} {vs : LSt} (f : FR T O F H ρ' σ') (hn : ks.length = n) (hv : vs.length = n) (hl : n ≤ ρ'.length) (h : ∀ i : Nat, ks[i]? = some true → σ'[i]?.join = vs[i]?.join) : FR T O F H (outsOf ks ρ') vs := by
  refine f.reidx (by rw [outs_len _ _ (by omega), hn, hv]) id (fun i d e => ?_) fun _ _ _ _ _ _ _ _ z => z
  obtain ⟨e1, e2⟩ := outs_slot _ _ _ _ e
  exact ⟨e2, (h i e1).symm⟩
theorem FR.outs1 {ks : List Bool} {n : Nat} {vs : LSt} {d : D} {v : V} (f : FR T O F H (ρ' ++ [some d]) (σ' ++ [some v])) (hn : ks.length = n) (hv : vs.length = n) (hl : n ≤ ρ'.length) (h : ∀ i : Nat, ks[i]? = some true → σ'[i]?.join = vs[i]?.join) : FR T O F H (outsOf ks ρ' ++ [some d]) (vs ++ [some v]) := by
  have hl2 : ρ'.length = σ'.length := f.top
  have ho := outs_len ks ρ' (by omega)
  refine f.reidx (by simp [ho, hn, hv]) (fun i => if i < n then i else ρ'.length) (fun i e q => ?_) fun i j d e q1 q2 _ _ z => ?_
  · by_cases hi : i < n
    · rw [slot_app_lt (by omega)] at q
      obtain ⟨e1, e2⟩ := outs_slot _ _ _ _ q
      show slot (ρ' ++ [some d]) (if i < n then i else ρ'.length) = some e ∧ _ = (σ' ++ [some v])[if i < n then i else ρ'.length]?.join
      rw [if_pos hi, slot_app_lt (by omega), List.getElem?_append_left (by omega), List.getElem?_append_left (by omega)]
      exact ⟨e2, (h i e1).symm⟩
    · have hi2 := slot_lt q
      simp [ho] at hi2
      have hi3 : i = n := by omega
      rw [slot_app_ge (by omega)] at q
      show slot (ρ' ++ [some d]) (if i < n then i else ρ'.length) = some e ∧ _ = (σ' ++ [some v])[if i < n then i else ρ'.length]?.join
      rw [if_neg hi, slot_app_ge (by omega), List.getElem?_append_right (by omega), List.getElem?_append_right (by omega)]
      rw [show i - (outsOf ks ρ').length = 0 by omega] at q
      rw [show ρ'.length - ρ'.length = 0 by omega, show ρ'.length - σ'.length = 0 by omega, show i - vs.length = 0 by omega]
      exact ⟨q, rfl⟩
  · have a1 := slot_lt q1
    have a2 := slot_lt q2
    simp [ho] at a1 a2
    split at z <;> split at z <;> omega
end
/-- which slots may be written: all but the parameters that stay -/
def keepM (ks : List Bool) : Nat → Bool := fun i => !(ks[i]? == some true)
theorem XM.no {T : Tab} {M : Nat → Bool} (h : T.ξ = none) : XM T M := fun z e => by cases h.symm.trans e
theorem fnG_of {G : Gt} {T : Tab} {k n : Nat} {P : Program} {w : World} {K : PySem.W.Frag} {mg : PySem.Str → Option Value} {base : Heap} {f : Addr} {fid : Nat} {name qual : PySem.Str} {params : Arguments} {body : List Stmt} {scope : Scope} {dV kV doc pm cdv ct oc : Value} {an od : Option Addr}
    {osl : Array (Option Value)} {N ps : List PySem.Str} {Γ : Nat → Option FD} {fd : FD} (lk : K.lookup f = some ⟨oc, od, .func (PySem.W.fnOf name qual params body scope dV kV doc pm an cdv ct), osl⟩) (hcd : PySem.W.codeIn K cdv qual = true) (S : FnScope N ps scope)
    (h0 : T.ξ = none) (hg : Γ fid = some fd) (hnp : fd.np = ps.length) (hns : fd.ns = N.length) (hks : fd.keep.length = fd.np) (hchk : chkB G { N := N, sc := scope } (keepM fd.keep) fd.body body = true)
    (hF : ∀ X : Cx, X.prog = P → X.w = w → X.K = K → X.mg = mg → X.base = base → Fct G T k (callF G.Κ Γ n) X) :
    FnG P w K mg base (k + 2) f (PySem.W.fnOf name qual params body scope dV kV doc pm an cdv ct) ps (spF T (callF G.Κ Γ (n + 1)) fid fd.np) := by
  refine ⟨fun vs H Q E h => by rw [h.1, hnp], fun A outer s H args us vs Q E hgd hr e0 hb r hsp => ?_⟩
  have hl : vs.length = ps.length := by rw [hsp.1, hnp]
  have hpl : ps.length ≤ N.length := by have := congrArg List.length S.pre; rw [List.length_take] at this; omega
  have KX : K.In s.heap := e0.mod.kin.keeps fun b o e => (e0.bs b o e).1
  have lim : s.heap.NoLimit := e0.mod.nolimit.keeps fun b o e => (e0.bs b o e).1
  have hkind : ∀ y ∈ ps.zip us, scope.names.lookup y.1 = some .local ∨ (scope.names.lookup y.1 = some .cell ∧ ((cellsFrom (s.heap.objs.size + 1) scope.names []).lookup y.1).isSome = true) := fun ⟨n, v⟩ hy => by
    rcases S.par n (List.of_mem_zip hy).1 with q | q
    · exact .inl q
    · exact .inr ⟨q, PySem.W.cellsFrom_some _ _ _ (.inl q)⟩
  refine codeAny_call_function hr.depth (KX _ _ lk) rfl S.co S.gen rfl (PySem.W.codeRec_of KX hcd) (hb _ _ _ _ ?_)
  refine wpAny_newFunctionEnv_cells S.kind hkind fun env he s1 x => ?_
  subst he
  refine ⟨lim.keeps x.toInCall.keep, codeAny_func ?_⟩
  have hr' := hr.deeper (envOfC qual scope s.heap.objs.size f cdv)
  have gs : GS G T k ⟨callF G.Κ Γ n, none⟩ { N := N, sc := scope } (fun cls d _ H => E cls d H) (keepM fd.keep) (cxOf (L2.CX P w) P w K mg base N qual scope f cdv A outer s H E) :=
    { fct := hF _ rfl rfl rfl rfl rfl
      N := rfl
      sc := rfl
      nd := S.nd
      fn := fun _ => rfl
      calm := fun _ => ⟨rfl, hr', h0⟩
      un := by have := hr'.un; show (A.deeper _).units + 200 < cLine; omega
      gd := hgd
      tk := takes_of rfl rfl rfl rfl
      xis := fun _ z => nomatch z
      no := fun z => nomatch z
      kind := S.kind
      stk := rfl
      frm := rfl
      po := fun _ => passes_of (K := fun e s'' => L2.CX P w outer H s E e s'') rfl
      xm := XM.no h0 }
  have ht := sB G k fd.body T ⟨callF G.Κ Γ n, none⟩ _ _ _ _ gs body hchk
  have I : L2.Inv (cxOf (L2.CX P w) P w K mg base N qual scope f cdv A outer s H E) [] (L2.start N vs) H s1 := inv_start S hr.hd e0 hl r x
  have hq : tSs T G.Κ ⟨callF G.Κ Γ n, none⟩ (fun cls d _ H => E cls d H) (keepM fd.keep) fd.body { nx := fun _ H' => Q .non H', rt := Q } (L2.start N vs) H := by
    obtain ⟨hvn, O, F, as, ha, f0, fin⟩ := hsp
    have ec : callF G.Κ Γ (n + 1) fid as = match execs G.Κ fd.body { Φ := callF G.Κ Γ n } (as.map some ++ List.replicate (fd.ns - fd.np) none) with
        | .ok (.ret d) ρ => .ok d (outsOf fd.keep ρ)
        | .ok .nx ρ => .ok .non (outsOf fd.keep ρ)
        | .ex e ρ => .ex e (outsOf fd.keep ρ)
        | _ => .no := by
      rw [callF, hg]
      dsimp only
      rewrite [if_pos ha]
      cases execs G.Κ fd.body { Φ := callF G.Κ Γ n } (as.map some ++ List.replicate (fd.ns - fd.np) none) with
      | ok f r => cases f <;> rfl
      | ex e r => rfl
      | no => rfl
    rw [ec] at fin
    have es : L2.start N vs = vs.map some ++ List.replicate (fd.ns - fd.np) none := by unfold L2.start; rw [hns, hnp, hl]
    refine ⟨(fun z e => by cases h0.symm.trans e), O, F, as.map some ++ List.replicate (fd.ns - fd.np) none, by rw [es]; exact f0.pad _, ?_⟩
    have hvl : (vs.map some).length = fd.np := by rw [List.length_map, hvn]
    have st : ∀ {σ' : L2.St}, Unch (keepM fd.keep) (L2.start N vs) σ' → ∀ i, fd.keep[i]? = some true → σ'[i]?.join = (vs.map some)[i]?.join := fun u i hi => by
      have hlt : i < fd.keep.length := (List.getElem?_eq_some_iff.mp hi).1
      rw [u.2 i (by unfold keepM; rw [hi]; rfl), es, List.getElem?_append_left (by omega)]
    have ll : ∀ {σ' : L2.St} {ρ' : Env}, Unch (keepM fd.keep) (L2.start N vs) σ' → ρ'.length = σ'.length → fd.np ≤ ρ'.length := fun u e => by
      rw [e, u.1, es, List.length_append]; omega
    cases q : execs G.Κ fd.body { Φ := callF G.Κ Γ n } (as.map some ++ List.replicate (fd.ns - fd.np) none) with
    | no => rw [q] at fin; exact fin
    | ex e ρ' => rw [q] at fin; exact fun cls dx σ' H' O' u k' f' x' => fin cls dx H' O' k' (f'.outs hks hvl (ll u f'.length) (st u)) x'
    | ok fl ρ' =>
      rw [q] at fin
      cases fl with
      | nx => exact fun σ' H' O' u k' f' => fin .non H' O' k' ((f'.outs hks hvl (ll u f'.length) (st u)).add rfl .non)
      | cont => exact fin.elim
      | ret d => exact fun v σ' H' O' u k' f' => fin v H' O' k' (f'.outs1 hks hvl (ll u f'.top) (st u))
  refine wpAny_mono (ht.run [] s1 (L2.start N vs) H _ I hq) (fun fl s' hs => ?_) fun e s' hs => hs
  have fin : ∀ {σ' : L2.St} {H' : Hp} {v : V} {u : Value}, L2.Inv (cxOf (L2.CX P w) P w K mg base N qual scope f cdv A outer s H E) [] σ' H' s' → RelV v u → Q v H' → CE outer P w H s Q u s' :=
    fun {σ' H' v u} J rv q => ⟨v, H', J.os, J.bare, J.base, J.hok, rv, q⟩
  cases fl with
  | ret u =>
    obtain ⟨v, σ', H', J, rv, q⟩ := hs
    exact fin J rv q
  | next =>
    obtain ⟨σ', H', J, q⟩ := hs
    exact fin (v := V.non) (u := Value.none) J rfl q
  | brk =>
    obtain ⟨_, _, _, q⟩ := hs
    exact False.elim q
  | cont =>
    obtain ⟨_, _, _, q⟩ := hs
    exact False.elim q
end Vm
/-! #### part Vi2 -/
namespace Vm
open PySem PySem.Spec PyProof.Rows L2
/-! ### the law's end -/
/-- where the script alone is tracked -/
def scrH (a : Addr) (vs : List Value) (ns : List Int) : Hp := fun b => if b = a then some (.frz { cls := .type "list", data := .seq vs.toArray } (.lst (ns.map V.int))) else none
theorem scrH_at (a : Addr) (vs : List Value) (ns : List Int) : scrH a vs ns a = some (.frz { cls := .type "list", data := .seq vs.toArray } (.lst (ns.map V.int))) := if_pos rfl
theorem scrH_ne {a b : Addr} (vs : List Value) (ns : List Int) (h : b ≠ a) : scrH a vs ns b = none := if_neg h
theorem repL_ints {T : Tab} {O : AS} {H : Hp} : ∀ ns : List Int, RepL T O H (ns.map V.int) (ns.map Vm.D.int)
  | [] => .nil
  | n :: ns => .cons (.int n) (repL_ints ns)
theorem law_callG {P : Program} {w : World} {K : PySem.W.Frag} {mg mb : PySem.Str → Option Value} {k : Nat} {fa a : Addr} {fd : FuncData} {x : PySem.Str} {T : Tab} {Φ : Nat → List D → R D} {fid : Nat} {s₁ : Shared} {vs : List Value} {ns : List Int}
    (KX : K.In s₁.heap) (hns : s₁.heap.Ns mainGlobals mg) (hb : s₁.heap.Ns builtinsNs mb) (hbb : ∀ x : PySem.Str, x ≠ "__name__" → mb x = bootBuiltins x) (hlim : s₁.heap.NoLimit) (hg : s₁.gens = #[])
    (ha : s₁.heap.get? a = some { cls := .type "list", data := .seq vs.toArray }) (hi : IntsAre vs ns) (hl : ns.length ≤ sizeLine) (hr : Room k callerA) (hK : K.lookup a = none) (h0 : T.ξ = none)
    (F : ∀ base : Heap, K.In base → base.Ns mainGlobals mg → FnG P w K mg base k fa fd [x] (spF T Φ fid 1)) (hbind : Binds K fd [x] [])
    (hΦ : ∃ o, Φ fid [.scr (ns.map Vm.D.int)] = .ok (.bl true) o) :
    codeAny (model P w) callerA (.call (.ref fa) ⟨[.ref a], []⟩) (fun r s' => r = .ok (.ret (.bool true)) ∧ OldK s₁.heap s'.heap ∧ s'.os = s₁.os ∧ AllBare s'.gens) s₁ := by
  have rv := vals_ints hi
  have sa := scrH_at a vs ns
  have off : ∀ {b : Addr}, scrH a vs ns b ≠ none → b = a := fun {b} h => Classical.byContradiction fun n => h (scrH_ne vs ns n)
  have hok : HOk P w (scrH a vs ns) s₁.heap := fun b u z => by
    obtain rfl : b = a := off (by rw [z]; simp)
    cases sa.symm.trans z
    exact ⟨ha, by rw [List.length_map]; exact hl, vs, _, rv, ha⟩
  have other : ∀ {b : Addr} {o : Obj}, s₁.heap.get? b = some o → b ≠ a → (hidT s₁.heap (scrH a vs ns)).get? b = some o := fun e n => hidT_get e (scrH_ne vs ns n)
  have dic : ∀ {b : Addr} {o : Obj} {es : Array DictEntry} {ep : Nat}, s₁.heap.get? b = some o → o.data = .dict es ep → b ≠ a := fun e d z => by
    subst z
    rw [ha] at e
    cases e
    cases d
  have nsK : ∀ {b : Addr} {m : PySem.Str → Option Value}, s₁.heap.Ns b m → (hidT s₁.heap (scrH a vs ns)).Ns b m := fun ⟨o, es, ep, e, d, r⟩ => ⟨o, es, ep, other e (dic e d), d, r⟩
  have hKb : K.In (hidT s₁.heap (scrH a vs ns)) := fun b o e => other (KX b o e) fun z => by
    subst z
    rw [hK] at e
    cases e
  have hM : Mod K mg (hidT s₁.heap (scrH a vs ns)) := ⟨hKb, nsK hns, ⟨mb, nsK hb, hbb⟩, hlim.imp fun mc q => ⟨nsK q.1, q.2⟩⟩
  have e0 : Env0 P w K mg (hidT s₁.heap (scrH a vs ns)) callerA [] s₁ (scrH a vs ns) := ⟨rfl, hM, fun b o e => of_hidT e, Nat.le_of_eq (hidT_size _ _), trivial, fun b hb => absurd (show b ∈ ([] : List Addr) from hb) (by simp), hok, .of_eq hg⟩
  obtain ⟨outs, hΦ⟩ := hΦ
  have sp : spF T Φ fid 1 [.ref a] (scrH a vs ns) (fun v _ => v = .bl true) fun _ _ _ => False := by
    refine ⟨rfl, fun _ => False, fun _ => False, [.scr (ns.map Vm.D.int)], rfl, ?_, ?_⟩
    · have f0 : FR T (fun _ => False) (fun _ => False) (scrH a vs ns) [] [] := ⟨fun _ _ => False, rfl, fun i => SlotR.none, fun i b z => z.elim, fun _ _ _ _ z => z.elim, fun b z => z, fun b z => z.elim, fun z e => by cases h0.symm.trans e⟩
      exact f0.add rfl (.scr sa (fun z => z) (repL_ints ns))
    · rw [hΦ]
      intro v H' O' k' f'
      have := f'.get (i := outs.length) (d := .bl true) (by rw [slot_app_ge (Nat.le_refl _), Nat.sub_self]; rfl)
      exact f'.topPk.bl
  refine codeAny_mono ((F _ hKb (nsK hns)).run callerA [] s₁ (scrH a vs ns) ⟨[.ref a], []⟩ [.ref a] [.ref a] _ _ rfl hr e0 (hbind s₁ [.ref a] KX rfl) (.cons rfl .nil) sp) fun r s' h => ?_
  match r, h with
  | .error e, h =>
    obtain ⟨_, _, _, _, _, _, _, _, _, _, _, _, z⟩ := (show L2.CX P w [] _ s₁ (fun _ _ _ => False) e s' from h)
    exact z.elim
  | .ok (.ret u), h =>
    obtain ⟨v, H', os, bare, un, hok', r', q⟩ := (show CE [] P w _ s₁ _ u s' from h)
    have q : v = .bl true := q
    subst q
    obtain rfl : u = Value.bool true := r'
    refine ⟨rfl, OldK.of_keep fun b o e => ?_, os, bare⟩
    by_cases hz : b = a
    · subst hz
      obtain ⟨e2, _⟩ := hok' b _ (un.frzs b _ _ sa)
      rw [ha] at e
      cases e
      exact e2
    · exact un.keep b o e (scrH_ne vs ns hz) (by intro z; exact absurd (show b ∈ ([] : List Addr) from z) (by simp)) (by simp)
  | .ok .next, h => exact False.elim h
  | .ok .brk, h => exact False.elim h
  | .ok .cont, h => exact False.elim h
/-- the walk of a law: facts of the written part, the def's promise over every base, and what V's call gives -/
theorem walk_G {l : PySem.W.OpenLaw} {n k : Nat} {q : Program} {loose : List PySem.Str} {XP : (PySem.Str → Option Value) → Heap → Prop} {YP : World → Heap → Prop} {d : DefRec} {Φ : Nat → List D → R D} {fid : Nat}
    (hn : l.most = some n) (hn2 : n ≤ sizeLine) (hdf : d.params.defaults = []) (hr : Room k callerA)
    (F : ∀ (w : World) (mg : PySem.Str → Option Value) (fa : Addr) (h : Heap), YP w h → h.Ns mainGlobals mg → mg d.name = some (.ref fa) →
      ∃ (K : PySem.W.Frag) (fd : FuncData) (T : Tab) (x : PySem.Str), K.In h ∧ T.ξ = none ∧ (∀ a o, K.lookup a = some o → o.cls ≠ .type "list") ∧ Binds K fd [x] [] ∧
        ∀ base : Heap, K.In base → base.Ns mainGlobals mg → FnG l.prog w K mg base k fa fd [x] (spF T Φ fid 1))
    (hΦ : ∀ ns : List Int, ns.length ≤ n → ∃ o, Φ fid [.scr (ns.map Vm.D.int)] = .ok (.bl true) o) :
    PySem.W.WalkO q loose XP YP l.row.toRowW d [] (fun f vs => PySem.call f vs) := by
  refine Att.attach_call hn hdf fun w s₀ s₁ mg mb fa o pm cd doc a vs ns G Y ho hd hcd hmg hobj hints hlen hg => ?_
  obtain ⟨K, fd, T, x, KX, h0, hL, hb, hF⟩ := F w mg fa _ Y G.T.g hmg
  have hK : K.lookup a = none := by
    cases e : K.lookup a with
    | none => rfl
    | some o =>
      have e2 := KX a o e
      rw [hobj] at e2
      cases e2
      exact absurd rfl (hL a _ e)
  exact law_callG KX G.T.g G.T.b G.T.builtins G.T.nolimit hg hobj hints (Nat.le_trans hlen hn2) hr hK h0 hF hb (hΦ ns hlen)
end Vm
/-! #### part Vi3 -/
namespace Vm
open PySem PySem.Spec PyProof.Rows L2
/-! ### all defs, level by level -/
def FnsAt (G : Gt) (T : Tab) (P : Program) (w : World) (K : PySem.W.Frag) (mg : PySem.Str → Option Value) (base : Heap) (k : Nat) (Φ : Nat → List D → R D) : Prop :=
  ∀ f a, T.fns f = some a → ∃ fd ps, FnG P w K mg base k a fd ps (spF T Φ f (G.ar f)) ∧ ps.length = G.ar f ∧ Binds K fd ps []
/-- a def lies at a and is what the core says -/
structure DefAt (G : Gt) (Γ : Nat → Option FD) (K : PySem.W.Frag) (f : Nat) (a : Addr) : Prop where
  at_ : ∃ (name qual : PySem.Str) (params : Arguments) (body : List Stmt) (scope : Scope) (dV kV doc pm cdv ct oc : Value) (an od : Option Addr) (osl : Array (Option Value)) (N ps : List PySem.Str) (fd : FD),
    K.lookup a = some ⟨oc, od, .func (PySem.W.fnOf name qual params body scope dV kV doc pm an cdv ct), osl⟩ ∧ PySem.W.codeIn K cdv qual = true ∧ FnScope N ps scope ∧ Γ f = some fd ∧ fd.np = ps.length ∧ fd.ns = N.length ∧ fd.keep.length = fd.np ∧
    chkB G { N := N, sc := scope } (keepM fd.keep) fd.body body = true ∧ G.ar f = fd.np ∧ Binds K (PySem.W.fnOf name qual params body scope dV kV doc pm an cdv ct) ps []
theorem all_fns {G : Gt} {T : Tab} {P : Program} {w : World} {K : PySem.W.Frag} {mg : PySem.Str → Option Value} {base : Heap} {Γ : Nat → Option FD} (h0 : T.ξ = none) (hd : ∀ f a, T.fns f = some a → DefAt G Γ K f a)
    (hF : ∀ (k : Nat) (Φ : Nat → List D → R D) (X : Cx), X.prog = P → X.w = w → X.K = K → X.mg = mg → X.base = base → FnsAt G T P w K mg base k Φ → Fct G T k Φ X) : ∀ n, FnsAt G T P w K mg base (2 * n) (callF G.Κ Γ n)
  | 0, f, a, e => by
    obtain ⟨name, qual, params, body, scope, dV, kV, doc, pm, cdv, ct, oc, an, od, osl, N, ps, fd, h1, h2, h3, h4, h5, h6, h7, h8, h9, h10⟩ := (hd f a e).at_
    exact ⟨_, ps, ⟨fun vs H Q E sp => by obtain ⟨_, _, _, _, _, _, z⟩ := sp; exact z.elim, fun _ _ _ _ _ _ _ _ _ _ _ _ _ _ sp => by obtain ⟨_, _, _, _, _, _, z⟩ := sp; exact z.elim⟩, by rw [h9, h5], h10⟩
  | n + 1, f, a, e => by
    obtain ⟨name, qual, params, body, scope, dV, kV, doc, pm, cdv, ct, oc, an, od, osl, N, ps, fd, h1, h2, h3, h4, h5, h6, h7, h8, h9, h10⟩ := (hd f a e).at_
    have ih := all_fns h0 hd hF n
    have := fnG_of (P := P) (w := w) (mg := mg) (base := base) (k := 2 * n) (n := n) (Γ := Γ) h1 h2 h3 h0 h4 h5 h6 h7 h8 fun X e1 e2 e3 e4 e5 => hF _ _ X e1 e2 e3 e4 e5 ih
    rw [← h9] at this
    exact ⟨_, ps, this, by rw [h9, h5], h10⟩
end Vm
/-! #### part Vi4 -/
namespace Vm
open PySem PySem.Spec PyProof.Rows L2
/-- an own exception class without own __init__, made of nothing -/
theorem mkEx0 {T : Tab} {P : Program} {w : World} {K : PySem.W.Frag} {mg : PySem.Str → Option Value} {base : Heap} {k c : Nat} {D : Addr} {bmB : List Value} {B newId initId : String} (F : ExcBaseFacts B newId initId bmB) (q : PySem.W.excIn K D bmB newId = true) (hD : T.xcl c = some D)
    (h1 : PySem.W.subIn K (.ref D) (.type "BaseException") = some true) (h2 : PySem.W.typeIn K (.ref D) = some (.type "type")) : MkEx T P w K mg base k c D 0 := by
  refine ⟨fun X pins s σ H O Fo ρ us vs ds Q e1 e2 e3 e4 e5 hc hr hg I rv hl f r hq => ?_⟩
  subst e1 e2 e3 e4 e5
  have : vs = [] := List.length_eq_zero_iff.mp hl
  subst this
  cases rv
  cases r
  obtain ⟨bm, N, nm, qn, bs, hdct, sn, sub, ab, col, dd, k0, k1, k2, k3, k5, mN, hC, hN, hni, Tl⟩ := exc_obj I.kIn q
  refine wpAny_call_exc_subT F Tl hC hN hni (fun h' e hm => ?_) (by show 0 ≤ sizeLine; omega)
  exact mk_of I hm (raises_own h1 h2) (hq none H O (Keep.refl ..) f ⟨c, [], D, rfl, hD, rfl, .inl ⟨rfl, rfl⟩⟩) (I.hok.gone hm.new)
end Vm
/-! #### part Vj1 -/
namespace Vm
open PySem PySem.Spec PyProof.Rows
open PySem.W (Frag Looks kxs_mw)
/-! ### an own exception over ValueError whose __init__ says super().__init__(x) and keeps x -/
section
variable {prog : Program} {w : World} {A : Around} {E : Value → Shared → Prop} {h : Heap} {g : Array GenState} {d : Drawn} {t : Nat} {os : OsState}
variable {nm q : PySem.Str} {C N : Addr} {bs bm : List Value} {hdct : Bool} {sn : List PySem.Str} {sub : List Value} {ab : Bool} {col : Option Bool} {dd : Option Addr} {k0 k1 k2 k3 k5 : Option Value}
/-- the bound ValueError.__init__, called -/
theorem call_mwV {u e t0 : Addr} {rest : List Value} {Q : Value → Shared → Prop} (hC : h.get? C = some (excClassObj nm q C N bs bm hdct sn sub ab col dd k0 k1 k2 k3 k5 "ValueError.__new__")) (he : h.get? e = some (HandSPX.excO C t0)) (hu : h.get? u = some (kxs_mw "ValueError.__init__" e)) (hz : rest.length ≤ sizeLine)
    (hq : ∀ h' t1, (∀ b o, b ≠ e → h.get? b = some o → h'.get? b = some o) → h'.get? e = some (HandSPX.excO C t1) → Q .none ⟨h', g, d, t, os⟩) : wpAny (model prog w) A (call (.ref u) rest) Q E ⟨h, g, d, t, os⟩ := by
  refine wpAny_call (codeAny_of_tree ?_)
  show wpAny _ A.in1 (callAny (.ref u) ⟨rest, []⟩) _ _ _
  simp only [callAny]
  refine wpAny_bind (wpAny_load hu ?_)
  have e1 : (Value.type "method-wrapper" == Value.type "method" || Value.type "method-wrapper" == Value.type "builtin_function_or_method" || Value.type "method-wrapper" == Value.type "method-wrapper") = true := by decide
  simp only [kxs_mw, e1, if_true]
  refine W.KFB.if_so (by decide) ?_
  refine wpAny_bind (W.check_bound_init F.excBase_ValueError.toExcCallFacts hC he rfl ?_)
  refine wpAny_bind (wpAny_pure (wpAny_pure ?_))
  refine ⟨plainId_quiet F.excBase_ValueError.init.plain _, codeAny_builtin F.excBase_ValueError.initEntry ?_⟩
  exact W.exc_init_tree (cls := .ref C) (t0 := t0) (dv := none) (c2 := .none) (c3 := .none) (b4 := .bool false) he hz fun h' k e' _ => hq h' _ k e'
end
end Vm
namespace Vm
open PySem PySem.Spec PyProof.Rows
open PySem.W (Frag Looks kxs_mw)
/-- what lies in the written part of such an __init__ -/
structure SupD (prog : Program) (K : Frag) (C f : Addr) (fd : FuncData) (sf ag fs : PySem.Str) : Prop where
  lk : ∃ o, K.lookup f = some o ∧ o.data = .func fd
  bd : ∃ p1 p2 p3 p4 p5 p6 p7 p8 p9 p10, (p3.endLine == p5.line) = true ∧ fd.body = .stmts [.Expr (.Call (.Attribute (.Call (.Name "super" p1) [] [] p2) "__init__" p3) [.Name ag p4] [] p5) p6, .Assign [.Attribute (.Name sf p7) fs p8] (.Name ag p9) p10]
  nm : fd.scope.names = [(sf, .local), (ag, .local), ("__class__", .free), ("super", .globalImplicit)]
  kd : fd.scope.kind = .function
  co : fd.scope.isCoroutine = false
  gn : fd.scope.isGenerator = false
  pr : ∃ ar, (fd.params.posonlyargs ++ fd.params.args).head? = some ar ∧ ar.arg = sf
  gl : fd.globals = mainGlobals
  bl : fd.builtins = builtinsNs
  cl : ∃ c o, fd.closure.lookup ("__class__" : PySem.Str) = some c ∧ K.lookup c = some o ∧ o.data = .cell (some (.ref C))
  cd : ∃ cc oc vs file tf, fd.code = .ref cc ∧ K.lookup cc = some oc ∧ oc.data = .fields vs ∧ vs[2]? = some (.str file tf) ∧ ((prog.main.file : PySem.Str) == file) = true
  cq : PySem.W.codeIn K fd.code fd.qualname = true
  top : (prog.main.scope.names.lookup ("super" : PySem.Str)).isSome = false
  ex : L2.OexC K C
  no : PySem.W.findIn K (.ref C) fs = some none
  op : PySem.W.nsIn K cStatics "thirdparty.any" = some none
  su : PySem.W.ks_superIn K C C "__init__" = some (some (.builtin "ValueError.__init__"))
  ve : PySem.W.subIn K (.ref C) (.type "ValueError") = some true
  me : PySem.W.subIn K (.ref C) (.ref C) = some true
  n1 : sf ≠ ag ∧ sf ≠ "__class__" ∧ sf ≠ "super" ∧ ag ≠ "__class__" ∧ ag ≠ "super" ∧ (sf == ("__debug__" : PySem.Str)) = false ∧ (ag == ("__debug__" : PySem.Str)) = false
section
variable {prog : Program} {w : World} {A : Around} {R : Result → Shared → Prop} {K : Frag} {C f x t0 : Addr} {fd : FuncData} {fs : PySem.Str} {s : Shared} {args : Args} {u : Value} {mg mb : PySem.Str → Option Value}
theorem meth_treeS {env : PySem.Env} {o y : Expr} {m : PySem.Str} {apos pos : Pos} (hs : isStar y = false) (hl : (apos.endLine == pos.line) = true) : eval (.Call (.Attribute o m apos) [y] [] pos) env = (do
    let ov ← attributeBase o m env (eval o env)
    standAt apos.atName
    let (f, first) ← holding [ov] (getMethod ov m (do return (← importBound o env).getD true))
    callWith pos f first (backTo pos (starEach [y] env)) []) := by
  rw [arm_eval_Call]
  have hf : methodCallForm (([y] : List Expr).length + ([] : List Keyword).length) (backTo pos (starEach [y] env)) (backToKw pos (keywordEach [] env)) = true := by
    unfold methodCallForm
    rw [star_all (by simpa using hs)]
    rfl
  unfold methodCall
  rw [hf]
  have hp : methodCallPos true o env apos pos = pure pos := by
    unfold methodCallPos
    rw [hl]
    rfl
  rw [hp]
  rfl
theorem ldNameG {M : Model} {A : Around} {E : Value → Shared → Prop} {s : Shared} {env : PySem.Env} {y : PySem.Str} {Q : Value → Shared → Prop} (hk : env.scope.kind = .function) (hx : env.kindOf y = some .globalImplicit) (h : wpAny M A (loadGlobal env y) Q E s) : wpAny M A (loadName env y) Q E s := by
  unfold loadName
  simp only [Env.blockKind, hk, hx, ScopeKind.isAnnotationScope, Bool.false_and, Bool.false_eq_true, if_false]
  exact h
theorem oneArg {M : Model} {A : Around} {E : Value → Shared → Prop} {s : Shared} {env : PySem.Env} {e : Expr} {pos : Pos} {fv : Value} {Q : Args → Shared → Prop} (h : wpAny M A (eval e env) (fun v s1 => Q ⟨[v], []⟩ s1) E s) (he : starEach [e] env = (false, eval e env) :: starEach [] env) :
    wpAny M A (evalArgs fv true (backTo pos (starEach [e] env)) []) Q E s := by
  have h' : wpAny M A (spliced (backTo pos (starEach [e] env))) (fun vs s' => Q ⟨vs, []⟩ s') E s := spliced_more (wpAny_mono h (fun v s1 q => spliced_none q) fun _ _ y => y) he
  rw [he] at h' ⊢
  exact Calls.evalArgs_plain h'
theorem supInit {h : Heap} {g : Array GenState} {d : Drawn} {t : Nat} {os : OsState} {sf ag : PySem.Str} (S : SupD prog K C f fd sf ag fs) (X : K.In h) (hroom : A.depth < recursionLimit) (hlim : h.NoLimit) (hx : h.get? x = some (HandSPX.excO C t0)) (hxK : K.lookup x = none)
    (hmg : h.Ns mainGlobals mg) (hm : mg "super" = none) (hmb : h.Ns builtinsNs mb) (hms : mb "super" = some (.type "super")) (hb : BindsTo ⟨h, g, d, t, os⟩ fd args [(sf, .ref x), (ag, u)])
    (hR : ∀ h' t' dx t1, (∀ b o, b ≠ x → h.get? b = some o → h'.get? b = some o) → h.get? dx = none → dx ≠ x → h'.get? x = some { cls := .ref C, dict := some dx, data := .fields #[.ref t1, .none, .none, .none, .bool false, .none] } → h'.Ns1 dx (fun y => if y = fs then some u else none) → R (.ok (.ret .none)) ⟨h', g, d, t', os⟩) :
    codeAny (model prog w) A (.call (.ref f) args) R ⟨h, g, d, t, os⟩ := by
  obtain ⟨of, kof, dof⟩ := S.lk
  have hof := X _ _ kof
  obtain ⟨p1, p2, p3, p4, p5, p6, p7, p8, p9, p10, hp3, hbd⟩ := S.bd
  obtain ⟨n1, n2, n3, n4, n5, n6, n7⟩ := S.n1
  have ea : (ag == sf) = false := beq_eq_false_iff_ne.mpr (Ne.symm n1)
  have ls : fd.scope.names.lookup sf = some .local := by rw [S.nm]; simp [List.lookup]
  have la : fd.scope.names.lookup ag = some .local := by rw [S.nm]; simp [List.lookup, ea]
  have hcell : ∀ y ∈ fd.scope.names, y.2 ≠ .cell := by rw [S.nm]; simp
  have hloc : ∀ y ∈ ([(sf, .ref x), (ag, u)] : List (PySem.Str × Value)), fd.scope.names.lookup y.1 = some .local := by
    intro y hy
    rcases List.mem_cons.1 hy with rfl | hy
    · exact ls
    · rcases List.mem_cons.1 hy with rfl | hy
      · exact la
      · cases hy
  refine ks_codeAny_call_defAt hroom hof dof hlim (PySem.W.codeRec_of X S.cq) hbd hb hcell hloc (fun h0 hns hk => ?_) S.co S.gn S.kd
  generalize hL : h.objs.size = L at hns ⊢
  have X0 : K.In h0 := X.keeps hk
  have hx0 := hk _ _ hx
  have hxL : x < L := hL ▸ Heap.lt_size hx
  generalize hE : callEnv fd L f = env
  have eS : env.scope = fd.scope := by subst hE; rfl
  have eG : env.globals = mainGlobals := by subst hE; exact S.gl
  have eB : env.builtins = builtinsNs := by subst hE; exact S.bl
  have eL : env.locals = L := by subst hE; rfl
  have eC : env.cells = fd.closure := by subst hE; rfl
  have eF : env.func = some f := by subst hE; rfl
  have eD : env.code = fd.code := by subst hE; rfl
  have kd : env.scope.kind = .function := by rw [eS]; exact S.kd
  have kS : env.kindOf "super" = some .globalImplicit := by
    have e1 : (("super" : PySem.Str) == sf) = false := beq_eq_false_iff_ne.mpr (Ne.symm n3)
    have e2 : (("super" : PySem.Str) == ag) = false := beq_eq_false_iff_ne.mpr (Ne.symm n5)
    have e3 : (("super" : PySem.Str) == ("__class__" : PySem.Str)) = false := by decide
    unfold Env.kindOf
    rw [eS, S.nm]
    simp [List.lookup, e1, e2, e3]
  have kC : env.kindOf "__class__" = some .free := by
    have e1 : (("__class__" : PySem.Str) == sf) = false := beq_eq_false_iff_ne.mpr (Ne.symm n2)
    have e2 : (("__class__" : PySem.Str) == ag) = false := beq_eq_false_iff_ne.mpr (Ne.symm n4)
    unfold Env.kindOf
    rw [eS, S.nm]
    simp [List.lookup, e1, e2]
  have kX : env.kindOf sf = some .local := by
    unfold Env.kindOf
    rw [eS]
    exact ls
  have kA : env.kindOf ag = some .local := by
    unfold Env.kindOf
    rw [eS]
    exact la
  have mS : ([(sf, Value.ref x), (ag, u)] : List (PySem.Str × Value)).reverse.lookup sf = some (.ref x) := by
    have e1 : (sf == ag) = false := beq_eq_false_iff_ne.mpr n1
    simp [List.lookup, e1]
  have mA : ([(sf, Value.ref x), (ag, u)] : List (PySem.Str × Value)).reverse.lookup ag = some u := by
    simp [List.lookup]
  have hLx : L ≠ x := fun z => by rw [z] at hxL; exact absurd hxL (Nat.lt_irrefl _)
  have hgl0 : h0.Ns mainGlobals mg := hmg.keeps hk
  have hbl0 : h0.Ns builtinsNs mb := hmb.keeps hk
  obtain ⟨nm, q, N, bs, bm, sn, sub, ab, col, dd, k0, k1, k2, k3, k5, hCl, hbm⟩ := S.ex.cls
  obtain ⟨cl, oc, ec1, ec2, ec3⟩ := S.cl
  obtain ⟨cc, od, vs, file, tf, e1, e2, e3, e4, e5⟩ := S.cd
  obtain ⟨ar, har, hars⟩ := S.pr
  refine ks_wpAt_execs_cons ?_
  refine ks_wpAt_Expr_any ?_ ?_ rfl
  · refine ks_wpAt_MethodCall ?_ (meth_treeS rfl hp3)
    have hcc := X0 _ _ e2
    refine ks_wpAt_super_base kS kC (by decide) eF (hk _ _ hof) dof har (eD.trans e1) hcc e3 e4 e5 S.top ?_
    refine ldNameG kd kS ?_
    refine Calls.loadGlobal_builtin (by rw [eG]; exact hgl0) hm (by rw [eB]; exact hbl0) hms ⟨rfl, ?_⟩
    refine wpAny_loadName_free (v := .ref C) kd kC (by rw [eC]; exact ec1) ⟨_, X0 _ _ ec2, ec3⟩ ?_
    rw [hars]
    refine wpAny_loadName_local kd kX (by rw [eL]; exact hns) mS ?_
    refine ks_wpAny_isType_cls (X0 _ _ hCl) rfl ⟨rfl, ?_⟩
    refine ks_wpAny_call_super (X0 _ _ hCl) rfl hx0 rfl (fun c => by simp [HandSPX.excO]) (W.looks_subIn X0 S.me) (fun h1 hs1 hk1 => ?_)
    have X1 : K.In h1 := X0.keeps hk1
    have hx1 := hk1 _ _ hx0
    have hcl : PySem.W.clsIn K C = some { name := nm, bases := bs, mro := .ref C :: bm, ns := N, qualname := q, hasDict := true, slotNames := sn, subclasses := sub, abstract := ab, collection := col, hasDel := false } := by unfold PySem.W.clsIn; rw [hCl] <;> rfl
    have hsu := S.su
    unfold W.ks_superIn at hsu
    rw [hcl] at hsu
    have hxC : x ≠ C := fun z => by
      have y1 := X0 _ _ hCl
      rw [← z, hx0] at y1
      cases y1
    have hI : W.Looks (model prog w) h1 (isInstance (.ref x) (.type "ValueError")) true := (show W.InstAt h1 x (HandSPX.excO C t0) C none from ⟨hx1, rfl, rfl, trivial⟩).type.andThen (W.looks_subIn X1 S.ve)
    refine W.kxs_getMethod W.kxs_ValueError hs1 (W.looks_opaque X1 S.op) (l₀ := .ref C :: bm) ((W.looks_clsIn X1 hcl).andThen .now) rfl X1 hsu hI hxC (by decide) ?_
    have hk2 : ∀ b o, h0.get? b = some o → (h1.push (kxs_mw "ValueError.__init__" x)).get? b = some o := fun b o e => Heap.get?_push_of_some _ (hk1 _ _ e)
    have hu2 : (h1.push (kxs_mw "ValueError.__init__" x)).get? h1.objs.size = some (kxs_mw "ValueError.__init__" x) := Heap.get?_push_at rfl rfl
    have hns2 : (h1.push (kxs_mw "ValueError.__init__" x)).Ns env.locals (fun y => ([(sf, Value.ref x), (ag, u)] : List (PySem.Str × Value)).reverse.lookup y) := by rw [eL]; exact hns.keeps hk2
    refine W.kxs_callWith (i := "ValueError.__init__") (x := x) rfl ?_
    refine oneArg (wpAny_Name (wpAny_loadName_local kd kA hns2 mA ⟨hu2, ?_⟩) n7) rfl
    refine call_mwV (hk2 _ _ (X0 _ _ hCl)) (hk2 _ _ hx0) hu2 (by rw [sizeLine_eq]; simp) (fun h3 t1 hk3 hx3 => ?_)
    have hk13 : ∀ b o, b ≠ x → h0.get? b = some o → h3.get? b = some o := fun b o hb e => hk3 _ _ hb (hk2 _ _ e)
    refine ks_wpAt_execs_cons (wpAt_of_wpAny (plainObj_wpAny_Assign_Attribute ?_ rfl))
    have hns3 : h3.Ns env.locals (fun y => ([(sf, Value.ref x), (ag, u)] : List (PySem.Str × Value)).reverse.lookup y) := by
      rw [eL]
      obtain ⟨o, es, ep, z1, z2⟩ := hns
      exact ⟨o, es, ep, hk13 _ _ hLx z1, z2⟩
    refine wpAny_Name (wpAny_loadName_local kd kA hns3 mA ?_) n7
    refine wpAny_Name (wpAny_loadName_local kd kX hns3 mS ?_) n6
    have X3 : K.In h3 := fun b o e => hk13 _ _ (fun z => by
      rw [z, hxK] at e
      cases e) (X0 _ _ e)
    refine W.set_plain X3 (ox := { cls := .ref C, dict := none, data := .fields #[.ref t1, .none, .none, .none, .bool false, .none] }) (od := none) ⟨hx3, rfl, rfl, trivial⟩ S.ex.sa ?_
    refine HandSPX.exc_osa X3 hx3 hcl (show HandSPX.refsVE (.ref C :: bm) = true from hbm) rfl S.no (fun h4 tk' dx k4 dn dne hx4 hn4 => ?_)
    refine wpAt_of_wpAny (wpAny_execs_nil ?_)
    exact hR h4 _ dx t1 (fun b o hb e => k4 _ _ hb (hk13 _ _ hb (hk _ _ e))) (by
      cases z : h.get? dx with
      | none => rfl
      | some o => exact absurd (Heap.lt_size (hk13 _ _ dne (hk _ _ z))) (Nat.not_lt.2 dn)) dne hx4 hn4
  · unfold interactive
    rw [kd]
    rfl
end
end Vm
/-! #### part Vj2 -/
namespace Vm
open PySem PySem.Spec PyProof.Rows L2
/-- an own exception class over ValueError whose __init__ says super().__init__(x) and keeps x -/
theorem mkEx1 {T : Tab} {P : Program} {w : World} {K : PySem.W.Frag} {mg : PySem.Str → Option Value} {base : Heap} {k c : Nat} {C fI : Addr} {fd : FuncData} {sf ag : PySem.Str} (hD : T.xcl c = some C) (S : SupD P K C fI fd sf ag (fname (xfOf c)))
    (iC : PySem.W.findIn K (.ref C) "__init__" = some (some (.ref fI))) (tI : PySem.W.typeIn K (.ref fI) = some (.type "function")) (hsup : mg "super" = none) (hbd : Binds K fd [sf, ag] []) : MkEx T P w K mg base k c C 1 := by
  refine ⟨fun X pins s σ H O Fo ρ us vs ds Q e1 e2 e3 e4 e5 hc hr hg I rv hl f r hq => ?_⟩
  subst e1 e2 e3 e4 e5
  obtain ⟨y, rfl⟩ : ∃ y, vs = [y] := by
    match vs, hl with
    | [y], _ => exact ⟨y, rfl⟩
  cases rv with
  | @cons _ u _ ur ra rb =>
  cases rb
  obtain ⟨d0, rfl⟩ : ∃ d0, ds = [d0] := by
    cases r with
    | cons r1 r2 => cases r2; exact ⟨_, rfl⟩
  have ry : Rep T O H y d0 := by
    cases r with
    | cons r1 r2 => exact r1
  obtain ⟨nm, q, N, bs, bm, sn, sub, ab, col, dd, k0, k1, k2, k3, k5, hC, hbm⟩ := S.ex.cls
  obtain ⟨hp, g, dr, tk, os⟩ := s
  have hsz : hp.objs.size ≤ hp.objs.size + 1 := Nat.le_succ _
  have hn : H (hp.objs.size + 1) = none := I.hok.fresh hsz
  have kk : ∀ b o, hp.get? b = some o → ((hp.push (PySem.W.kdv_tup [u])).push (PySem.HandSPX.excO C hp.objs.size)).get? b = some o := fun b o e => Heap.get?_push_of_some _ (Heap.get?_push_of_some _ e)
  have hget : ((hp.push (PySem.W.kdv_tup [u])).push (PySem.HandSPX.excO C hp.objs.size)).get? (hp.objs.size + 1) = some (PySem.HandSPX.excO C hp.objs.size) := by heap_get
  have I2 : Inv X pins σ (upd H (hp.objs.size + 1) (exo (hp.objs.size + 1) C none)) ⟨(hp.push (PySem.W.kdv_tup [u])).push (PySem.HandSPX.excO C hp.objs.size), g, dr, tk, os⟩ :=
    I.laid (t' := tk) (a := hp.objs.size + 1) (o := exo (hp.objs.size + 1) C none) (h' := (hp.push (PySem.W.kdv_tup [u])).push (PySem.HandSPX.excO C hp.objs.size)) kk hsz (exo_ok hget)
  have hxK : X.K.lookup (hp.objs.size + 1) = none := by
    cases z : X.K.lookup (hp.objs.size + 1) with
    | none => rfl
    | some o => exact absurd (Heap.lt_size (I.kIn _ _ z)) (Nat.not_lt.2 (Nat.le_succ _))
  obtain ⟨mb, hb1, hb2⟩ := I.mod.blt
  have hs : PySem.HandSPX.refsVE bm = true := hbm
  refine wpAny_call (PySem.HandSPX.call_own F.excBase_ValueError (fun Y => PySem.HandSPX.refsVE_contains Y bm hbm) (I.kIn _ _ hC) (PySem.W.looks_findIn I.kIn iC) (fun self => PySem.W.bind_fn I.kIn self tI) (by rw [sizeLine_eq]; simp)
    (supInit (u := u) (t0 := hp.objs.size) (mb := mb) S I2.kIn (hr.make C [u] []).depth I2.nolimit hget hxK (I.mod.glob.keeps I2.bk) hsup (hb1.keeps I2.bk) ((hb2 _ (by decide)).trans PyProof.Rows.Boot.«super») ?_ ?_))
  · exact hbd _ [.ref (hp.objs.size + 1), u] I2.kIn rfl
  intro h' t' dx t1 k4 dn dne hx hn4
  have hnd : (upd H (hp.objs.size + 1) (exo (hp.objs.size + 1) C none)) dx = none := I2.hok.gone dn
  have nd : ∀ {b : Addr} {o : Obj}, ((hp.push (PySem.W.kdv_tup [u])).push (PySem.HandSPX.excO C hp.objs.size)).get? b = some o → b ≠ dx := fun {b o} q z => by
    rw [z, dn] at q
    cases q
  have hd1 : H dx = none := by rw [upd_ne dne] at hnd; exact hnd
  have ea : (upd H (hp.objs.size + 1) (exo (hp.objs.size + 1) C none)) (hp.objs.size + 1) = some (exo (hp.objs.size + 1) C none) := upd_same
  generalize hA : hp.objs.size + 1 = a at *
  generalize hH : upd H a (exo a C none) = H1 at *
  have na : ∀ {b : Addr}, H1 b = none → b ≠ a := fun {b} n z => by
    rw [z, ea] at n
    cases n
  have Un1 : ∀ fs, Un fs [] H1 (upd (upd H1 dx (exd dx [(fname (xfOf c), y)])) a (exo a C (some dx))) ((hp.push (PySem.W.kdv_tup [u])).push (PySem.HandSPX.excO C hp.objs.size)) h' := fun fs => {
    keep := fun b o q n _ _ => k4 b o (na n) q
    slot := fun b o q n _ _ => ⟨o.slots, k4 b o (na n) q⟩
    free := fun b o q n _ => by rw [upd_ne (na n), upd_ne (nd q)]; exact n
    there := fun b o q _ => by
      by_cases hb : b = a
      · exact ⟨_, by rw [hb]; exact hx⟩
      · exact ⟨o, k4 b o hb q⟩
    tups := fun b xs q => by rw [upd_ne (at_ne ea q exo_tup), upd_ne (ne_of_none q hnd)]; exact q
    frzs := fun b o v q => by rw [upd_ne (at_ne ea q exo_frz), upd_ne (ne_of_none q hnd)]; exact q
    tbls := fun b ps q => ⟨#[], by rw [upd_ne (at_ne ea q exo_tbl), upd_ne (ne_of_none q hnd), q]; simp⟩ }
  have I3 : Inv X pins σ (upd (upd H1 dx (exd dx [(fname (xfOf c), y)])) a (exo a C (some dx))) ⟨h', g, dr, t', os⟩ := by
    refine I2.un (t' := t') (Un1 X.fs) fun b o q => ?_
    by_cases hb : b = a
    · subst hb
      rw [upd_same] at q
      cases q
      exact exo_ok hx
    · rw [upd_ne hb] at q
      by_cases hd : b = dx
      · subst hd
        rw [upd_same] at q
        cases q
        exact exd_ok hn4 (relO_put (fs := []) ra fun g => True.intro)
      · rw [upd_ne hd] at q
        exact (I2.hok b o q).stay (fun c v hc z => k4 c v (by
            rcases hc with hc | hc
            · rw [hc]
              exact hb
            · exact at_ne ea hc exo_own) z)
          (fun c hc => by rw [upd_ne (at_ne ea hc exo_own), upd_ne (ne_of_none hc hnd)]; exact hc) (fun c xs hc => by rw [upd_ne (at_ne ea hc exo_tup), upd_ne (ne_of_none hc hnd)]; exact hc)
  have ed : (upd (upd H1 dx (exd dx [(fname (xfOf c), y)])) a (exo a C (some dx))) dx = some (exd dx [(fname (xfOf c), y)]) := by rw [upd_ne dne, upd_same]
  refine ⟨rfl, ?_⟩
  refine mk_end (raises_own S.ex.exC S.ex.tyC) I (by omega) kk (by rw [hH]; exact Un1 _) I3.hok rfl I.bare (ea := upd_same) (ed := ed) hd1 ?_
  have eH : upd (del (upd (upd H1 dx (exd dx [(fname (xfOf c), y)])) a (exo a C (some dx))) a) dx (.xd [(fname (xfOf c), y)]) = upd H dx (.xd [(fname (xfOf c), y)]) := by
    funext b
    by_cases hb : b = dx
    · rw [hb, upd_same, upd_same]
    · rw [upd_ne hb, upd_ne hb]
      by_cases hba : b = a
      · rw [hba, del_same, hn]
      · rw [del_ne hba, upd_ne hba, upd_ne hb, ← hH, upd_ne hba]
  rw [eH]
  obtain ⟨f1, k1⟩ := f.grow (o := .xd [(fname (xfOf c), y)]) hd1
  refine hq (some dx) _ O k1 f1 ⟨c, [d0], C, rfl, hD, rfl, .inr ⟨d0, y, dx, rfl, rfl, upd_same, f.free hd1, Rep.keep k1.sh _ _ ry⟩⟩
end Vm
/-! #### part Vk1 -/
namespace Vm
open PySem
theorem lk_zip {β : Type} : ∀ (ns : List PySem.Str) (us : List β), us.length = ns.length → ∀ n ∈ ns, ((ns.zip us).lookup n).isNone = false
  | [], _, _, n, h => nomatch h
  | m :: ns, [], h, _, _ => by simp at h
  | m :: ns, u :: us, h, n, hn => by
    simp only [List.zip_cons_cons, List.lookup]
    cases e : n == m with
    | true => rfl
    | false =>
      rcases List.mem_cons.1 hn with rfl | hn
      · simp at e
      · exact lk_zip ns us (by simpa using h) n hn
theorem fm_zip {β : Type} : ∀ (ns : List PySem.Str) (us : List β) (pre : List (PySem.Str × β)), us.length = ns.length → ns.Nodup → (∀ n ∈ ns, pre.lookup n = none) → ns.filterMap (fun n => ((pre ++ ns.zip us).lookup n).map (fun x => (n, x))) = ns.zip us
  | [], us, pre, _, _, _ => by cases us <;> rfl
  | m :: ns, [], _, h, _, _ => by simp at h
  | m :: ns, u :: us, pre, h, hn, hp => by
    have hl : ∀ (l : List (PySem.Str × β)) (k : PySem.Str) (r : List (PySem.Str × β)), l.lookup k = none → (l ++ r).lookup k = r.lookup k := by
      intro l k r h
      induction l with
      | nil => rfl
      | cons p l ih =>
        obtain ⟨a, b⟩ := p
        simp only [List.cons_append, List.lookup] at h ⊢
        cases e : k == a with
        | true => rw [e] at h; cases h
        | false => rw [e] at h; exact ih h
    have e1 : (pre ++ (m :: ns).zip (u :: us)).lookup m = some u := by
      rw [hl _ _ _ (hp m (by simp))]
      simp [List.lookup]
    rw [List.filterMap_cons, e1]
    simp only [Option.map_some, List.zip_cons_cons, List.cons.injEq, true_and]
    have := fm_zip ns us (pre ++ [(m, u)]) (by simpa using h) (List.nodup_cons.1 hn).2 (fun n hn' => by
      rw [hl _ _ _ (hp n (by simp [hn']))]
      have : n ≠ m := fun e => (List.nodup_cons.1 hn).1 (e ▸ hn')
      simp [List.lookup, beq_eq_false_iff_ne.2 this])
    simpa using this
/-- only plain parameters -/
structure PlainPar (p : Arguments) (ps : List PySem.Str) : Prop where
  h1 : p.posonlyargs = []
  h2 : p.args.map (·.arg) = ps
  h3 : p.vararg.isNone = true
  h4 : p.kwonlyargs = []
  h5 : p.kwarg.isNone = true
theorem binds_plain {fd : FuncData} {ps : List PySem.Str} (P : PlainPar fd.params ps) (hn : ps.Nodup) (hd : fd.defaults = .none) (us : List Value) (hl : us.length = ps.length) : bindArgs fd ⟨us, []⟩ = pure (ps.zip us) := by
  obtain ⟨h1, h2, h3, h4, h5⟩ := P
  have h3 := Option.isNone_iff_eq_none.1 h3
  have h5 := Option.isNone_iff_eq_none.1 h5
  have e0 : seqItems? Value.none = pure none := by rfl
  have e1 : ps.filter (fun n => ((ps.zip us).lookup n).isNone) = [] := by
    rw [List.filter_eq_nil_iff]
    intro n hn
    rw [lk_zip ps us hl n hn]
    simp
  have e2 := fm_zip ps us [] hl hn (fun _ _ => rfl)
  unfold bindArgs
  simp only [h1, h2, h3, h4, h5, hd, e0, List.map_nil, List.nil_append, List.append_nil, pure_bind, List.forIn_nil, Option.getD_none, hl, Array.toList_empty, List.length_nil, Nat.zero_sub, List.drop_nil, Nat.sub_zero, gt_iff_lt, Nat.lt_irrefl, decide_false, Bool.false_and, Bool.false_eq_true, if_false, List.take_length, e1, List.isEmpty_nil, Bool.not_true, List.zip_nil_right]
  exact congrArg pure e2
end Vm
/-! #### part Vk2 -/
namespace Vm
open PySem PySem.Spec PyProof.Rows L2
/-! ### the facts of the text, as one test of its written part -/
/-- where what stands: defs, classes of instances, of exceptions -/
structure Tb where
  fns : List (Nat × Addr)
  cls : List (Nat × Addr)
  xcl : List (Nat × Addr)
def Tb.tab (B : Tb) (K : PySem.W.Frag) : Tab := { K := K, cls := fun c => B.cls.lookup c, xcl := fun c => B.xcl.lookup c, fns := fun f => B.fns.lookup f }
theorem mem_look {α β : Type} [BEq α] [LawfulBEq α] : ∀ {l : List (α × β)} {a : α} {b : β}, l.lookup a = some b → (a, b) ∈ l
  | [], _, _, h => nomatch h
  | (x, y) :: l, a, b, h => by
    simp only [List.lookup] at h
    cases e : a == x with
    | true =>
      rw [e] at h
      cases h
      rw [eq_of_beq e]
      exact List.mem_cons_self
    | false =>
      rw [e] at h
      exact List.mem_cons_of_mem _ (mem_look h)
def fdB (G : Gt) (Γ : Nat → Option FD) (N : List PySem.Str) (K : PySem.W.Frag) (f : Nat) (fd : FuncData) : Bool := match fd.body, Γ f with
  | .stmts body, some d =>
    decide (fd.globals = mainGlobals) && (decide (fd.builtins = builtinsNs) && (fd.closure.isEmpty && (decide (fd.defaults = .none) && (PySem.W.codeIn K fd.code fd.qualname && (decide (fd.scope.kind = .function) && (!fd.scope.isCoroutine && (!fd.scope.isGenerator &&
    (decide N.Nodup && ((N.take d.np).all (fun x => decide (fd.scope.names.lookup x = some .local) || decide (fd.scope.names.lookup x = some .cell)) && (fd.scope.names.all (fun y => decide (y.2 ≠ .free)) &&
    (decide (d.np ≤ N.length) && (decide (d.ns = N.length) && (decide (d.keep.length = d.np) && (chkB G { N := N, sc := fd.scope } (keepM d.keep) d.body body && (decide (G.ar f = d.np) &&
    (fd.params.posonlyargs.isEmpty && (decide (fd.params.args.map (·.arg) = N.take d.np) && (fd.params.vararg.isNone && (fd.params.kwonlyargs.isEmpty && fd.params.kwarg.isNone)))))))))))))))))))
  | _, _ => false
def defB (G : Gt) (Γ : Nat → Option FD) (SN : Nat → List PySem.Str) (K : PySem.W.Frag) (f : Nat) (a : Addr) : Bool := match K.lookup a with
  | some ⟨_, _, .func fd, _⟩ => fdB G Γ (SN f) K f fd
  | _ => false
theorem defAt_of {G : Gt} {Γ : Nat → Option FD} {SN : Nat → List PySem.Str} {K : PySem.W.Frag} {f : Nat} {a : Addr} (h : defB G Γ SN K f a = true) : DefAt G Γ K f a := by
  unfold defB at h
  split at h
  · rename_i oc od fd osl hk
    unfold fdB at h
    split at h
    · rename_i body d hb hd
      simp only [Bool.and_eq_true, decide_eq_true_eq, Bool.not_eq_true', List.isEmpty_iff] at h
      obtain ⟨h1, h2, h3, h4, h5, h6, h7, h8, h9, h10, h11, h12, h13, h14, h15, h16, h17, h18, h19, h20, h21⟩ := h
      obtain ⟨name, qual, params, bd, scope, gl, clo, dV, kV, doc, pm, an, cdv, ct, bl⟩ := fd
      simp only at hb h1 h2 h3 h4 h5 h6 h7 h8 h10 h11 h15 h17 h18 h19 h20 h21
      subst hb h1 h2 h3 h4
      have hl : (List.take d.np (SN f)).length = d.np := by rw [List.length_take]; omega
      refine ⟨name, qual, params, body, scope, .none, kV, doc, pm, cdv, ct, oc, an, od, osl, SN f, (SN f).take d.np, d, hk, h5, ⟨h6, h7, h8, h9, by rw [hl], fun x hx => ?_, fun y hy => ?_⟩, hd, hl.symm, h13, h14, h15, h16, ?_⟩
      · have := List.all_eq_true.1 h10 x hx
        simp only [Bool.or_eq_true, decide_eq_true_eq] at this
        exact this
      · simpa using List.all_eq_true.1 h11 y hy
      · exact .all fun us hl' => binds_plain ⟨h17, h18, h19, h20, h21⟩ (h9.sublist (List.take_sublist _ _)) rfl us hl'
    · cases h
  · cases h
section
variable (G : Gt) (B : Tb) (K : PySem.W.Frag)
def mgFB : Bool := G.fnm.all fun p => match B.fns.lookup p.2 with
  | some a => decide (PySem.W.nsIn K mainGlobals p.1 = some (some (.ref a))) && PySem.W.keepIn K (.ref a)
  | none => false
def mgCB : Bool := G.clm.all fun p => match (B.cls.lookup p.2 <|> B.xcl.lookup p.2) with
  | some a => decide (PySem.W.nsIn K mainGlobals p.1 = some (some (.ref a)))
  | none => false
def mgIB : Bool := G.cst.all fun p => match PySem.W.nsIn K mainGlobals p.1 with
  | some (some (.int i _)) => decide (i = p.2)
  | _ => false
def mgBB : Bool := bnames.all fun x => decide (PySem.W.nsIn K mainGlobals x = some none)
def insB (C : Addr) : Bool := PySem.W.plainGet K C Str.empty && (PySem.W.hasDictIn K C && (PySem.W.plainOver K C && (decide (PySem.W.findIn K (.ref C) "__setattr__" = some (some (.builtin "object.__setattr__"))) &&
  (decide (PySem.W.findIn K (.ref C) "__class__" = some (some (.builtin "object.__class__"))) && (decide (PySem.W.specialIn K (.builtin "object.__class__") "__get__" = some (some (.builtin "getset_descriptor.__get__"))) &&
  (decide (PySem.W.takesIn K (.builtin "object.__class__") = some true) && (decide (PySem.W.mroIn K C (.type "object") = some true) && (List.range 15).all fun f => decide (PySem.W.findIn K (.ref C) (fname f) = some none))))))))
theorem insB_ok {C : Addr} (h : insB K C = true) : InsC K C := by
  simp only [insB, Bool.and_eq_true, decide_eq_true_eq] at h
  obtain ⟨h1, h2, h3, h4, h5, h6, h7, h8, h9⟩ := h
  exact ⟨⟨h1, h2, h3, h4⟩, h5, h6, h7, h8, fun f hf => by
    have := List.all_eq_true.1 h9 f (List.mem_range.2 hf)
    have t2 : PySem.W.findIn K (.ref C) (fname f) = some none := by simpa using this
    exact t2⟩
def mkB (C a : Addr) : Bool := PySem.W.makesIn K C && (decide (PySem.W.findIn K (.ref C) "__init__" = some (some (.ref a))) && (PySem.W.isFn K (.ref a) && PySem.W.keepIn K (.ref C)))
theorem mkB_ok {C a : Addr} (h : mkB K C a = true) : Mk K C a := by
  simp only [mkB, Bool.and_eq_true, decide_eq_true_eq] at h
  exact ⟨h.1, h.2.1, h.2.2.1, h.2.2.2⟩
def methB (C a : Addr) (n : PySem.Str) : Bool := decide (PySem.W.findIn K (.ref C) n = some (some (.ref a))) && (PySem.W.isFn K (.ref a) && PySem.W.keepIn K (.ref a))
theorem methB_ok {C a : Addr} {n : PySem.Str} (h : methB K C a n = true) : Meth K C n a := by
  simp only [methB, Bool.and_eq_true, decide_eq_true_eq] at h
  exact ⟨h.1, h.2.1, h.2.2⟩
def eqB (C a : Addr) : Bool := decide (PySem.W.findIn K (.ref C) "__eq__" = some (some (.ref a))) && (PySem.W.isFn K (.ref a) && (decide (PySem.W.findIn K (.ref C) "__ne__" = some (some (.builtin "object.__ne__"))) && decide (PySem.W.subIn K (.ref C) (.type "object") = some true)))
theorem eqB_ok {C a : Addr} (h : eqB K C a = true) : EqC K C a := by
  simp only [eqB, Bool.and_eq_true, decide_eq_true_eq] at h
  exact ⟨h.1, h.2.1, h.2.2.1, h.2.2.2⟩
/-- all of a class of instances -/
def clsB1 (c : Nat) (C : Addr) : Bool := insB K C && (!isExc G c && match G.Κ c with
  | none => true
  | some kc => (match kc.init with
      | none => true
      | some f => match B.fns.lookup f with
        | some a => mkB K C a
        | none => false) && ((match kc.eq with
      | none => true
      | some f => match B.fns.lookup f with
        | some a => eqB K C a && decide (G.ar f = 2)
        | none => false) && kc.meths.all fun p => match G.mts[p.1]? with
          | none => true
          | some n => match B.fns.lookup p.2 with
            | some a => methB K C a n && decide (G.ar p.2 ≥ 1)
            | none => false))
def kdList : List Kd := [.non, .bl, .int, .str, .tup, .lst, .dct] ++ B.cls.map fun p => .ins p.1
def nfB (C : Addr) : Bool := (kdList B).all fun kd => match kdV (B.tab K) kd with
  | some u => PySem.W.notFirst K C u
  | none => true
def kitB : Bool := (kdList B).all fun kd => match kdV (B.tab K) kd with
  | some u => G.asks.all fun t => match tyV (B.tab K) t with
    | some w => decide (PySem.W.kitOne K u w = some (isKd kd t))
    | none => true
  | none => true
def marB : Bool := (List.range 20).all fun c => match G.Κ c with
  | some kc => kc.meths.all fun p => decide (G.ar p.2 = G.mar p.1)
  | none => true
def exB (D : Addr) : Bool := decide (PySem.W.findIn K (.ref D) "__getattribute__" = some (some (.builtin "BaseException.__getattribute__"))) && (decide (PySem.W.findIn K (.ref D) "__getattr__" = some none) && (decide (PySem.W.subIn K (.ref D) (.type "BaseException") = some true) &&
  (PySem.W.hasDictIn K D && (decide (PySem.W.findIn K (.ref D) "__class__" = some (some (.builtin "object.__class__"))) && (decide (PySem.W.specialIn K (.builtin "object.__class__") "__get__" = some (some (.builtin "getset_descriptor.__get__"))) &&
  (decide (PySem.W.takesIn K (.builtin "object.__class__") = some true) && (decide (PySem.W.mroIn K D (.type "object") = some true) && (decide (PySem.W.typeIn K (.ref D) = some (.type "type")) && PySem.W.keepIn K (.ref D)))))))))
theorem exB_ok {X : Cx} {D : Addr} (h : exB X.K D = true) : XfC X.K D ∧ ExcC X.K D ∧ Raises X (.ref D) ∧ PySem.W.keepIn X.K (.ref D) = true := by
  simp only [exB, Bool.and_eq_true, decide_eq_true_eq] at h
  obtain ⟨h1, h2, h3, h4, h5, h6, h7, h8, h9, h10⟩ := h
  exact ⟨⟨h1, h2, h3, h4⟩, ⟨h1, h2, h3, h4, h5, h6, h7, h8⟩, raises_own h3 h9, h10⟩
def bmVE : List Value := [.type "ValueError", .type "Exception", .type "BaseException", .type "object"]
end
end Vm
/-! #### part Vk3 -/
namespace Vm
open PySem PySem.Spec PyProof.Rows L2
section
variable (P : Program) (K : PySem.W.Frag)
def oexB (C : Addr) : Bool := (match K.lookup C with
  | some ⟨cls, _, .cls cd, sl⟩ => decide (cls = .type "type") && (match cd.mro, sl.toList with
    | .ref C' :: bm, [_, _, _, _, some (.builtin n), _] => decide (C' = C) && (decide (n = "ValueError.__new__") && (cd.hasDict && (!cd.hasDel && PySem.HandSPX.refsVE bm)))
    | _, _ => false)
  | _ => false) && (decide (PySem.W.findIn K (.ref C) "__setattr__" = some (some (.builtin "object.__setattr__"))) && (decide (PySem.W.subIn K (.ref C) (.type "BaseException") = some true) && (decide (PySem.W.typeIn K (.ref C) = some (.type "type")) && PySem.W.keepIn K (.ref C))))
theorem oexB_ok {C : Addr} (h : oexB K C = true) : OexC K C := by
  simp only [oexB, Bool.and_eq_true, decide_eq_true_eq] at h
  obtain ⟨h0, h1, h2, h3, h4⟩ := h
  refine ⟨?_, h1, h2, h3, h4⟩
  split at h0
  · rename_i cls dd cd sl hk
    simp only [Bool.and_eq_true, decide_eq_true_eq] at h0
    obtain ⟨rfl, h0⟩ := h0
    split at h0
    · rename_i C' bm k0 k1 k2 k3 n k5 hm hs
      simp only [Bool.and_eq_true, decide_eq_true_eq, Bool.not_eq_true'] at h0
      obtain ⟨rfl, rfl, hd, hdel, hbm⟩ := h0
      obtain ⟨nm, bs, mro, ns, qn, hdd, sn, sb, ab, col, del⟩ := cd
      simp only at hm hd hdel
      subst hm hd hdel
      obtain ⟨sl⟩ := sl
      simp only at hs
      subst hs
      exact ⟨nm, qn, ns, bs, bm, sn, sb, ab, col, dd, k0, k1, k2, k3, k5, hk, hbm⟩
    · cases h0
  · cases h0
def supF (C f : Addr) (fd : FuncData) (fs : PySem.Str) : Bool := match fd.body with
  | .stmts [.Expr (.Call (.Attribute (.Call (.Name s1 _) [] [] _) i1 p3) [.Name ag _] [] p5) _, .Assign [.Attribute (.Name sf _) f1 _] (.Name ag2 _) _] =>
    decide (s1 = "super") && (decide (i1 = "__init__") && (decide (f1 = fs) && (decide (ag2 = ag) && (p3.endLine == p5.line &&
    (decide (fd.scope.names = [(sf, .local), (ag, .local), ("__class__", .free), ("super", .globalImplicit)]) && (decide (fd.scope.kind = .function) && (!fd.scope.isCoroutine && (!fd.scope.isGenerator &&
    ((match (fd.params.posonlyargs ++ fd.params.args).head? with | some ar => decide (ar.arg = sf) | none => false) && (decide (fd.globals = mainGlobals) && (decide (fd.builtins = builtinsNs) &&
    ((match fd.closure.lookup ("__class__" : PySem.Str) with | some c => (match K.lookup c with | some ⟨_, _, .cell (some v), _⟩ => decide (v = .ref C) | _ => false) | none => false) &&
    ((match fd.code with | .ref cc => (match K.lookup cc with | some ⟨_, _, .fields vs, _⟩ => (match (vs[2]? : Option Value) with | some (Value.str file _) => (P.main.file : PySem.Str) == file | _ => false) | _ => false) | _ => false) &&
    (PySem.W.codeIn K fd.code fd.qualname &&
    (decide (sf ≠ ag) && (decide (sf ≠ "__class__") && (decide (sf ≠ "super") && (decide (ag ≠ "__class__") && (decide (ag ≠ "super") && (!(sf == ("__debug__" : PySem.Str)) && (!(ag == ("__debug__" : PySem.Str)) &&
    (decide (fd.defaults = .none) && (fd.params.posonlyargs.isEmpty && (decide (fd.params.args.map (·.arg) = [sf, ag]) && (fd.params.vararg.isNone && (fd.params.kwonlyargs.isEmpty && fd.params.kwarg.isNone))))))))))))))))))))))))))
  | _ => false
def supB (C : Addr) (fs : PySem.Str) : Bool := (match PySem.W.findIn K (.ref C) "__init__" with
  | some (some (.ref f)) => (match K.lookup f with
    | some ⟨_, _, .func fd, _⟩ => supF P K C f fd fs && decide (PySem.W.typeIn K (.ref f) = some (.type "function"))
    | _ => false)
  | _ => false) && (!(P.main.scope.names.lookup ("super" : PySem.Str)).isSome && (oexB K C && (decide (PySem.W.findIn K (.ref C) fs = some none) && (decide (PySem.W.nsIn K cStatics "thirdparty.any" = some none) &&
    (decide (PySem.W.ks_superIn K C C "__init__" = some (some (.builtin "ValueError.__init__"))) && (decide (PySem.W.subIn K (.ref C) (.type "ValueError") = some true) && (decide (PySem.W.subIn K (.ref C) (.ref C) = some true) && decide (PySem.W.nsIn K mainGlobals "super" = some none))))))))
theorem supB_ok {C : Addr} {fs : PySem.Str} (h : supB P K C fs = true) : ∃ f fd sf ag, SupD P K C f fd sf ag fs ∧ PySem.W.findIn K (.ref C) "__init__" = some (some (.ref f)) ∧ PySem.W.typeIn K (.ref f) = some (.type "function") ∧ Binds K fd [sf, ag] [] ∧ PySem.W.nsIn K mainGlobals "super" = some none := by
  simp only [supB, Bool.and_eq_true, decide_eq_true_eq, Bool.not_eq_true'] at h
  obtain ⟨h0, h1, h2, h3, h4, h5, h6, h7, h8⟩ := h
  split at h0
  · rename_i f hf
    split at h0
    · rename_i oc od fd osl hk
      simp only [Bool.and_eq_true, decide_eq_true_eq] at h0
      obtain ⟨h0, ht⟩ := h0
      unfold supF at h0
      split at h0
      · rename_i s1 p1 p2 i1 p3 ag p4 p5 p6 sf p7 f1 p8 ag2 p9 p10 hb
        simp only [Bool.and_eq_true, decide_eq_true_eq, Bool.not_eq_true', List.isEmpty_iff] at h0
        obtain ⟨rfl, rfl, rfl, rfl, g5, g6, g7, g8, g9, g10, g11, g12, g13, g14, g15, n1, n2, n3, n4, n5, n6, n7, b1, b2, b3, b4, b5, b6⟩ := h0
        refine ⟨f, fd, sf, ag2, ⟨⟨_, hk, rfl⟩, ⟨p1, p2, p3, p4, p5, p6, p7, p8, p9, p10, g5, hb⟩, g6, g7, g8, g9, ?_, g11, g12, ?_, ?_, g15, h1, oexB_ok K h2, h3, h4, h5, h6, h7, ⟨n1, n2, n3, n4, n5, n6, n7⟩⟩, hf, ht, ?_, h8⟩
        · split at g10
          · rename_i ar har
            exact ⟨ar, har, of_decide_eq_true g10⟩
          · cases g10
        · split at g13
          · rename_i c hc
            split at g13
            · rename_i v sl4 hv
              have := of_decide_eq_true g13
              subst this
              exact ⟨c, _, hc, hv, rfl⟩
            · cases g13
          · cases g13
        · split at g14
          · rename_i cc hcc
            split at g14
            · rename_i vs sl3 hvs
              split at g14
              · rename_i file tf hft
                exact ⟨cc, _, vs, file, tf, hcc, hvs, rfl, hft, g14⟩
              · cases g14
            · cases g14
          · cases g14
        · exact .all fun us hl' => binds_plain ⟨b2, b3, b4, b5, b6⟩ (by simp [n1]) b1 us hl'
      · cases h0
    · cases h0
  · cases h0
end
end Vm
/-! #### part Vk4 -/
namespace Vm
open PySem PySem.Spec PyProof.Rows L2
section
variable (G : Gt) (B : Tb) (Γ : Nat → Option FD) (SN : Nat → List PySem.Str) (P : Program) (K : PySem.W.Frag)
def xclB1 (c : Nat) (D : Addr) : Bool := exB K D && (isExc G c && ((List.range 15).all (fun f => decide (PySem.W.findIn K (.ref D) (fname f) = some none)) && (G.asks.all (fun t => match t with
    | .cls c' => (match tyV (B.tab K) (.cls c'), isTy G.Κ (.exc c []) (.cls c') with
      | some w, some b => decide (PySem.W.kitOne K (.ref D) w = some b)
      | _, _ => true)
    | _ => true) && (G.cats.all (fun c' => match tyV (B.tab K) (.cls c'), catches G.Κ c' (.exc c []) with
      | some w, some b => decide (PySem.W.exmOne K (.ref D) w = some b)
      | _, _ => true) && (match G.xar c with
    | none => true
    | some 0 => PySem.W.excIn K D bmVE "ValueError.__new__"
    | some 1 => supB P K D (fname (xfOf c))
    | some _ => false)))))
def allB : Bool := mgFB G B K && (mgCB G B K && (mgIB G K && (mgBB K && (B.cls.all (fun p => clsB1 G B K p.1 p.2 && nfB B K p.2) && (kitB G B K && (marB G && (B.xcl.all (fun p => xclB1 G B P K p.1 p.2) && (B.fns.all (fun p => defB G Γ SN K p.1 p.2) && K.all fun p => decide (p.2.cls ≠ .type "list")))))))))
end
section
variable {G : Gt} {B : Tb} {Γ : Nat → Option FD} {SN : Nat → List PySem.Str} {P : Program} {K : PySem.W.Frag}
theorem kd_mem {kd : Kd} {u : Value} (h : kdV (B.tab K) kd = some u) : kd ∈ kdList B := by
  cases kd with
  | ins c =>
    have h : (B.cls.lookup c).map Value.ref = some u := h
    cases e : B.cls.lookup c with
    | none => rw [e] at h; cases h
    | some C => exact List.mem_append_right _ (List.mem_map.2 ⟨(c, C), mem_look e, rfl⟩)
  | _ => exact List.mem_append_left _ (by simp)
theorem facts_of (hΚ : ∀ c kc, G.Κ c = some kc → c < 20) (hall : allB G B Γ SN P K = true) {h0 : Heap} {mg : PySem.Str → Option Value} (KX : K.In h0) (Gm : h0.Ns mainGlobals mg) :
    (∀ f a, (B.tab K).fns f = some a → DefAt G Γ K f a) ∧ (∀ (w : World) (base : Heap) (k : Nat) (Φ : Nat → List D → R D) (X : Cx), X.prog = P → X.w = w → X.K = K → X.mg = mg → X.base = base → FnsAt G (B.tab K) P w K mg base k Φ → Fct G (B.tab K) k Φ X) ∧
      (∀ a o, K.lookup a = some o → o.cls ≠ .type "list") ∧ ∀ x f, G.fnm.lookup x = some f → ∃ a, B.fns.lookup f = some a ∧ mg x = some (.ref a) := by
  simp only [allB, Bool.and_eq_true] at hall
  obtain ⟨h1, h2, h3, h4, h5, h6, h7, h8, h9, h10⟩ := hall
  have c5 : ∀ {c C}, (B.tab K).cls c = some C → clsB1 G B K c C = true ∧ nfB B K C = true := fun {c C} e => by
    have := List.all_eq_true.1 h5 _ (mem_look e)
    simpa [Bool.and_eq_true] using this
  have ci : ∀ {c C}, (B.tab K).cls c = some C → InsC K C ∧ isExc G c = false := fun {c C} e => by
    have := (c5 e).1
    simp only [clsB1, Bool.and_eq_true, Bool.not_eq_true'] at this
    exact ⟨insB_ok K this.1, this.2.1⟩
  have c8 : ∀ {c D}, (B.tab K).xcl c = some D → xclB1 G B P K c D = true := fun {c C} e => List.all_eq_true.1 h8 _ (mem_look e)
  have mF : ∀ x f, G.fnm.lookup x = some f → ∃ a, B.fns.lookup f = some a ∧ mg x = some (.ref a) ∧ PySem.W.keepIn K (.ref a) = true := fun x f e => by
    have := List.all_eq_true.1 h1 _ (mem_look e)
    simp only at this
    split at this
    · rename_i a ha
      simp only [Bool.and_eq_true, decide_eq_true_eq] at this
      exact ⟨a, ha, PySem.W.mg_of KX Gm this.1, this.2⟩
    · cases this
  refine ⟨fun f a e => defAt_of (List.all_eq_true.1 h9 _ (mem_look e)), fun w base k Φ X e1 e2 e3 e4 e5 hf => ?_, fun a o e => ?_, fun x f e => ?_⟩
  · subst e1 e2 e3 e4 e5
    refine { K := rfl, mgF := mF, mgC := fun x c e => ?_, mgI := fun x i e => ?_, mgB := fun x hx => ?_, fns := hf, ins := fun c C e => (ci e).1, mks := fun c C kc f e e1 e2 => ?_, mts := fun c C kc m f n e e1 e2 e3 => ?_, eqs := fun c C kc f e e1 e2 => ?_, nf := fun c C kd u e e1 => ?_, mar := fun c kc m f e e1 => ?_,
             xex := fun c D e => ?_, xnf := fun c D e f hf => ?_, xkit := fun c D c' w b e e1 e2 e3 => ?_, kit := fun kd u t w e e1 e2 => ?_, xcc := fun c D e => ?_, xmk := fun c D n e e1 => ?_, xno := fun c e => ?_, xct := fun c D c' w b e e1 e2 e3 => ?_ }
    · have := List.all_eq_true.1 h2 _ (mem_look e)
      simp only at this
      split at this
      · rename_i a ha
        exact ⟨a, ha, PySem.W.mg_of KX Gm (of_decide_eq_true this)⟩
      · cases this
    · have := List.all_eq_true.1 h3 _ (mem_look e)
      simp only at this
      split at this
      · rename_i j t ht
        have := of_decide_eq_true this
        subst this
        exact ⟨t, PySem.W.mg_of KX Gm ht⟩
      · cases this
    · have := List.all_eq_true.1 h4 _ hx
      exact PySem.W.mg_none_of KX Gm (of_decide_eq_true this)
    · have := (c5 e).1
      simp only [clsB1, e1, e2, Bool.and_eq_true] at this
      have this := this.2.2.1
      split at this
      · rename_i a ha
        exact ⟨a, ha, mkB_ok _ this⟩
      · cases this
    · have := (c5 e).1
      simp only [clsB1, e1, Bool.and_eq_true] at this
      have this := List.all_eq_true.1 this.2.2.2.2 _ (mem_look e2)
      simp only [e3] at this
      split at this
      · rename_i a ha
        simp only [Bool.and_eq_true, decide_eq_true_eq] at this
        exact ⟨this.2, a, ha, methB_ok _ this.1⟩
      · cases this
    · have := (c5 e).1
      simp only [clsB1, e1, e2, Bool.and_eq_true] at this
      have this := this.2.2.2.1
      split at this
      · rename_i a ha
        simp only [Bool.and_eq_true, decide_eq_true_eq] at this
        exact ⟨this.2, a, ha, eqB_ok _ this.1⟩
      · cases this
    · have := List.all_eq_true.1 (c5 e).2 _ (kd_mem e1)
      rw [e1] at this
      exact this
    · have := List.all_eq_true.1 h7 c (List.mem_range.2 (hΚ c kc e))
      rw [e] at this
      exact of_decide_eq_true (List.all_eq_true.1 this _ (mem_look e1))
    · have := c8 e
      simp only [xclB1, Bool.and_eq_true] at this
      exact this.2.1
    · have := c8 e
      simp only [xclB1, Bool.and_eq_true] at this
      exact of_decide_eq_true (List.all_eq_true.1 this.2.2.1 f (List.mem_range.2 hf))
    · have := c8 e
      simp only [xclB1, Bool.and_eq_true] at this
      have this := List.all_eq_true.1 this.2.2.2.1 _ e1
      simp only [e2, e3] at this
      exact of_decide_eq_true this
    · have := List.all_eq_true.1 h6 _ (kd_mem e)
      simp only [e] at this
      have this := List.all_eq_true.1 this _ e1
      simp only [e2] at this
      exact of_decide_eq_true this
    · have := c8 e
      simp only [xclB1, Bool.and_eq_true] at this
      exact exB_ok this.1
    · have := c8 e
      simp only [xclB1, Bool.and_eq_true] at this
      obtain ⟨hx, _, _, _, _, hm⟩ := this
      simp only [exB, Bool.and_eq_true, decide_eq_true_eq] at hx
      rw [e1] at hm
      match n, hm with
      | 0, hm => exact mkEx0 F.excBase_ValueError hm e hx.2.2.1 hx.2.2.2.2.2.2.2.2.1
      | 1, hm =>
        obtain ⟨f, fd, sf, ag, S, iC, tI, hb, hs⟩ := supB_ok _ _ hm
        exact mkEx1 e S iC tI (PySem.W.mg_none_of KX Gm hs) hb
      | n + 2, hm => cases hm
    · cases e' : (B.tab X.K).cls c with
      | none => rfl
      | some C =>
        rw [(ci e').2] at e
        cases e
    · have := c8 e
      simp only [xclB1, Bool.and_eq_true] at this
      have this := List.all_eq_true.1 this.2.2.2.2.1 _ e1
      simp only [e2, e3] at this
      exact of_decide_eq_true this
  · have := List.all_eq_true.1 h10 _ (mem_look e)
    simpa using this
  · obtain ⟨a, ha, hm, _⟩ := mF x f e
    exact ⟨a, ha, hm⟩
/-- the promise of the law's def -/
theorem law_of (hΚ : ∀ c kc, G.Κ c = some kc → c < 20) (hall : allB G B Γ SN P K = true) {h0 : Heap} {mg : PySem.Str → Option Value} {x : PySem.Str} {fid : Nat} {fa : Addr} {w : World} (KX : K.In h0) (Gm : h0.Ns mainGlobals mg) (hx : G.fnm.lookup x = some fid) (ha : G.ar fid = 1) (hmg : mg x = some (.ref fa)) (n : Nat) :
    ∃ (K : PySem.W.Frag) (fd : FuncData) (T : Tab) (x : PySem.Str), K.In h0 ∧ T.ξ = none ∧ (∀ a o, K.lookup a = some o → o.cls ≠ .type "list") ∧ Binds K fd [x] [] ∧
        ∀ base : Heap, K.In base → base.Ns mainGlobals mg → FnG P w K mg base (2 * n + 2) fa fd [x] (spF T (callF G.Κ Γ (n + 1)) fid 1) := by
  obtain ⟨f1, f2, f3, f4⟩ := facts_of hΚ hall KX Gm
  obtain ⟨a, e1, e2⟩ := f4 x fid hx
  have e3 := e2.symm.trans hmg
  cases e3
  obtain ⟨name, qual, params, body, scope, dV, kV, doc, pm, cdv, ct, oc, an, od, osl, N, ps, fd, h1, h2, h3, h4, h5, h6, h7, h8, h9, h10⟩ := (f1 fid fa e1).at_
  obtain ⟨x1, rfl⟩ : ∃ y, ps = [y] := by
    match ps, h5.symm.trans (h9.symm.trans ha) with
    | [y], _ => exact ⟨y, rfl⟩
  refine ⟨K, _, B.tab K, x1, KX, rfl, f3, h10, fun base _ _ => ?_⟩
  have ih : FnsAt G (B.tab K) P w K mg base (2 * n) (callF G.Κ Γ n) := all_fns rfl f1 (fun k Φ X a b c d e => f2 w base k Φ X a b c d e) n
  have := fnG_of (P := P) (w := w) (mg := mg) (base := base) (k := 2 * n) (n := n) (Γ := Γ) (fid := fid) h1 h2 h3 rfl h4 h5 h6 h7 h8 fun X e1 e2 e3 e4 e5 => f2 w base _ _ X e1 e2 e3 e4 e5 ih
  rw [← h9, ha] at this
  exact this
end
end Vm
/-! #### part T01a -/
namespace Vm
open PySem
/-- is_integer -- slots thing -/
def fd0 : FD := { np := 1, ns := 1, keep := [true], body := [.ret (.and (.isi (.rd (.loc 0)) [.int]) (.not (.isi (.rd (.loc 0)) [.bool])))] }
/-- is_from_to -- slots thing least most -/
def fd1 : FD := { np := 3, ns := 3, keep := [true, true, true], body := [.ret (.and (.call 0 [(.rd (.loc 0))]) (.cmp2 .le .le (.rd (.loc 1)) (.rd (.loc 0)) (.rd (.loc 2))))] }
/-- choices -- slots many some found at -/
def fd3 : FD := { np := 2, ns := 4, keep := [true, true], body := [.if_ (.or (.cmp .lt (.rd (.loc 1)) (.lit (.int 0))) (.cmp .gt (.rd (.loc 1)) (.rd (.loc 0)))) [.ret (.lit (.int 0))] [], .asg (.nm 2) (.lit (.int 1)), .for_ (.nm 3) (.rng [(.rd (.loc 1))]) [.asg (.nm 2) (.bin .fdiv (.bin .mul (.rd (.loc 2)) (.bin .sub (.rd (.loc 0)) (.rd (.loc 3)))) (.bin .add (.rd (.loc 3)) (.lit (.int 1))))], .ret (.rd (.loc 2))] }
/-- check_sizes -- slots persons size -/
def fd4 : FD := { np := 2, ns := 2, keep := [true, true], body := [.if_ (.not (.call 1 [(.rd (.loc 0)), (.lit (.int 1)), (.lit (.int 9))])) [.raise_ 1 [(.lit (.str "persons"))]] [], .if_ (.not (.call 1 [(.rd (.loc 1)), (.lit (.int 1)), (.rd (.loc 0))])) [.raise_ 1 [(.lit (.str "size"))]] []] }
/-- are_classes -- slots thing many one -/
def fd5 : FD := { np := 2, ns := 3, keep := [true, true], body := [.if_ (.or (.not (.isi (.rd (.loc 0)) [.tuple])) (.not (.bi .all (.comp false (.call 1 [(.rd (.loc 2)), (.lit (.int 1)), (.rd (.loc 1))]) (.nm 2) (.seq (.rd (.loc 0))) none [2])))) [.ret (.lit (.bl false))] [], .ret (.cmp .eq (.bi .sum (.rd (.loc 0))) (.rd (.loc 1)))] }
/-- Plan.__init__ -- slots self persons size classes -/
def fd6 : FD := { np := 4, ns := 4, keep := [true, true, true, true], body := [.ex (.call 4 [(.rd (.loc 1)), (.rd (.loc 2))]), .if_ (.not (.call 5 [(.rd (.loc 3)), (.call 3 [(.rd (.loc 1)), (.rd (.loc 2))])])) [.raise_ 1 [(.lit (.str "classes"))]] [], .setF (.loc 0) 0 (.rd (.loc 1)), .setF (.loc 0) 1 (.rd (.loc 2)), .setF (.loc 0) 2 (.rd (.loc 3))] }
/-- Plan.parts -- slots self -/
def fd7 : FD := { np := 1, ns := 1, keep := [true], body := [.ret (.tup [(.rd (.fld (.loc 0) 0)), (.rd (.fld (.loc 0) 1)), (.rd (.fld (.loc 0) 2))])] }
/-- Plan.__eq__ -- slots self other -/
def fd8 : FD := { np := 2, ns := 2, keep := [true, true], body := [.ret (.and (.isi (.rd (.loc 1)) [(.cls 15)]) (.cmp .eq (.meth 0 [(.rd (.loc 0))]) (.meth 0 [(.rd (.loc 1))])))] }
/-- lots_of -- slots many some found turn later lot one -/
def fd9 : FD := { np := 2, ns := 7, keep := [true, true], body := [.asg (.nm 2) (.lst false [(.tup [])]), .for_ (.nm 3) (.rng [(.rd (.loc 1))]) [.asg (.nm 4) (.lst false []), .for_ (.nm 5) (.seq (.rd (.loc 2))) [.ex (.ext (.loc 4) (.comp false (.bin .add (.rd (.loc 5)) (.tup [(.rd (.loc 6))])) (.nm 6) (.rng [(.ite (.cmp .gt (.bi .len (.rd (.loc 5))) (.lit (.int 0))) (.bin .add (.rd (.at_ (.loc 5) (.neg (.lit (.int 1))))) (.lit (.int 1))) (.lit (.int 0))), (.rd (.loc 0))]) none [6]))], .asg (.nm 2) (.rd (.loc 4))], .ret (.rd (.loc 2))] }
/-- all_groups -- slots plan -/
def fd10 : FD := { np := 1, ns := 1, keep := [true], body := [.ret (.bi .tuple (.call 9 [(.rd (.fld (.loc 0) 0)), (.rd (.fld (.loc 0) 1))]))] }
/-- check_class -- slots plan place -/
def fd11 : FD := { np := 2, ns := 2, keep := [true, true], body := [.if_ (.not (.call 1 [(.rd (.loc 1)), (.lit (.int 0)), (.bin .sub (.bi .len (.rd (.fld (.loc 0) 2))) (.lit (.int 1)))])) [.raise_ 2 []] []] }
/-- raw_stands -- slots plan place total -/
def fd12 : FD := { np := 2, ns := 3, keep := [true, true], body := [.asg (.nm 2) (.bin .mul (.rd (.at_ (.fld (.loc 0) 2) (.rd (.loc 1)))) (.rd (.fld (.loc 0) 1))), .ret (.tup [(.bin .fdiv (.rd (.loc 2)) (.rd (.fld (.loc 0) 0))), (.bin .fdiv (.bin .sub (.bin .add (.rd (.loc 2)) (.rd (.fld (.loc 0) 0))) (.lit (.int 1))) (.rd (.fld (.loc 0) 0)))])] }
/-- stands -- slots plan place -/
def fd13 : FD := { np := 2, ns := 2, keep := [true, true], body := [.ex (.call 11 [(.rd (.loc 0)), (.rd (.loc 1))]), .ret (.call 12 [(.rd (.loc 0)), (.rd (.loc 1))])] }
/-- _law_tape -- slots script cells cell -/
def fd100 : FD := { np := 1, ns := 3, keep := [true], body := [.asg (.nm 1) (.comp false (.bi .abs (.bi .int (.rd (.loc 2)))) (.nm 2) (.seq (.slc (.rd (.loc 0)) none (some (.lit (.int 63))))) none [2]), .ret (.lst false [(.rd (.loc 1)), (.lit (.int 0)), (.lit (.int 0)), (.bin .add (.lit (.int 31)) (.bi .len (.rd (.loc 1)))), (.lit (.int 0))])] }
/-- _law_pick -- slots tape many cell digit number -/
def fd101 : FD := { np := 2, ns := 5, keep := [true, true], body := [.if_ (.and (.cmp .eq (.rd (.at_ (.loc 0) (.lit (.int 2)))) (.lit (.int 0))) (.cmp .lt (.rd (.at_ (.loc 0) (.lit (.int 1)))) (.bi .len (.rd (.at_ (.loc 0) (.lit (.int 0))))))) [.asg (.nm 2) (.rd (.at_ (.at_ (.loc 0) (.lit (.int 0))) (.rd (.at_ (.loc 0) (.lit (.int 1)))))), .setI (.loc 0) (.lit (.int 1)) (.bin .add (.rd (.at_ (.loc 0) (.lit (.int 1)))) (.lit (.int 1))), .setI (.loc 0) (.lit (.int 3)) (.bin .mod (.bi .int (.bin .add (.bin .add (.bin .mul (.rd (.at_ (.loc 0) (.lit (.int 3)))) (.lit (.int 69621))) (.rd (.loc 2))) (.lit (.int 11)))) (.lit (.int 2147483629))), .if_ (.cmp .ge (.rd (.loc 2)) (.bin .pow (.lit (.int 10)) (.lit (.int 18)))) [.setI (.loc 0) (.lit (.int 2)) (.rd (.loc 2))] []] [], .if_ (.cmp .gt (.rd (.at_ (.loc 0) (.lit (.int 2)))) (.lit (.int 0))) [.asg (.nm 3) (.bin .mod (.bi .int (.rd (.at_ (.loc 0) (.lit (.int 2))))) (.rd (.loc 1))), .setI (.loc 0) (.lit (.int 2)) (.bin .fdiv (.rd (.at_ (.loc 0) (.lit (.int 2)))) (.rd (.loc 1))), .ret (.rd (.loc 3))] [], .setI (.loc 0) (.lit (.int 4)) (.bin .add (.rd (.at_ (.loc 0) (.lit (.int 4)))) (.lit (.int 1))), .asg (.nm 4) (.bin .mod (.bi .int (.bin .mul (.bi .int (.bin .add (.rd (.at_ (.loc 0) (.lit (.int 3)))) (.bin .mul (.lit (.int 7919)) (.rd (.at_ (.loc 0) (.lit (.int 4))))))) (.lit (.int 48271)))) (.lit (.int 2147483647))), .asg (.nm 4) (.bin .mod (.bi .int (.bin .mul (.rd (.loc 4)) (.bin .add (.bin .fdiv (.rd (.loc 4)) (.lit (.int 1009))) (.lit (.int 69621))))) (.lit (.int 2147483647))), .asg (.nm 4) (.bin .mod (.bi .int (.bin .mul (.rd (.loc 4)) (.bin .add (.bin .fdiv (.rd (.loc 4)) (.lit (.int 2003))) (.lit (.int 40692))))) (.lit (.int 2147483399))), .ret (.bin .mod (.bi .int (.bin .fdiv (.rd (.loc 4)) (.lit (.int 16)))) (.rd (.loc 1)))] }
/-- _law_any -- slots tape things -/
def fd102 : FD := { np := 2, ns := 2, keep := [true, true], body := [.ret (.sub (.rd (.loc 1)) (.call 101 [(.rd (.loc 0)), (.bi .len (.rd (.loc 1)))]))] }
/-- _law_mixed -- slots tape things left found -/
def fd103 : FD := { np := 2, ns := 4, keep := [true, true], body := [.par [2, 3] [(.bi .list (.rd (.loc 1))), (.lst false [])], .while_ (.cmp .gt (.bi .len (.rd (.loc 2))) (.lit (.int 0))) [.ex (.app (.loc 3) (.popA (.loc 2) (.call 101 [(.rd (.loc 0)), (.bi .len (.rd (.loc 2)))])))], .ret (.rd (.loc 3))] }
/-- _law_groups -- slots persons size found turn longer row one -/
def fd104 : FD := { np := 2, ns := 7, keep := [true, true], body := [.asg (.nm 2) (.lst false [(.tup [])]), .for_ (.nm 3) (.rng [(.rd (.loc 1))]) [.asg (.nm 4) (.lst false []), .for_ (.nm 5) (.seq (.rd (.loc 2))) [.ex (.ext (.loc 4) (.comp false (.bin .add (.rd (.loc 5)) (.tup [(.rd (.loc 6))])) (.nm 6) (.rng [(.ite (.cmp .gt (.bi .len (.rd (.loc 5))) (.lit (.int 0))) (.bin .add (.rd (.at_ (.loc 5) (.neg (.lit (.int 1))))) (.lit (.int 1))) (.lit (.int 0))), (.rd (.loc 0))]) none [6]))], .asg (.nm 2) (.rd (.loc 4))], .ret (.rd (.loc 2))] }
/-- _law_choices -- slots many some found turn -/
def fd105 : FD := { np := 2, ns := 4, keep := [true, true], body := [.asg (.nm 2) (.lit (.int 1)), .for_ (.nm 3) (.rng [(.rd (.loc 1))]) [.asg (.nm 2) (.bin .fdiv (.bin .mul (.rd (.loc 2)) (.bin .sub (.rd (.loc 0)) (.rd (.loc 3)))) (.bin .add (.rd (.loc 3)) (.lit (.int 1))))], .ret (.rd (.loc 2))] }
/-- _law_classes -- slots tape whole kind found left most some -/
def fd106 : FD := { np := 2, ns := 7, keep := [true, true], body := [.par [2, 3, 4] [(.call 101 [(.rd (.loc 0)), (.lit (.int 5))]), (.lst false []), (.rd (.loc 1))], .if_ (.cmp .eq (.rd (.loc 2)) (.lit (.int 0))) [.ret (.tup [(.rd (.loc 1))])] [], .if_ (.cmp .eq (.rd (.loc 2)) (.lit (.int 1))) [.ret (.bin .mul (.tup [(.lit (.int 1))]) (.rd (.loc 1)))] [], .asg (.nm 5) (.call 102 [(.rd (.loc 0)), (.lst false [(.lit (.int 2)), (.lit (.int 3)), (.lit (.int 5)), (.rd (.loc 1))])]), .while_ (.cmp .gt (.rd (.loc 4)) (.lit (.int 0))) [.asg (.nm 6) (.bin .add (.lit (.int 1)) (.call 101 [(.rd (.loc 0)), (.bi2 .min2 (.rd (.loc 4)) (.rd (.loc 5)))])), .ex (.app (.loc 3) (.rd (.loc 6))), .asg (.nm 4) (.bin .sub (.rd (.loc 4)) (.rd (.loc 6)))], .ret (.bi .tuple (.call 103 [(.rd (.loc 0)), (.rd (.loc 3))]))] }
/-- _law_is_number -- slots thing least below -/
def fd107 : FD := { np := 3, ns := 3, keep := [true, true, true], body := [.ret (.and (.isi (.rd (.loc 0)) [.int]) (.and (.not (.isi (.rd (.loc 0)) [.bool])) (.cmp2 .le .lt (.rd (.loc 1)) (.rd (.loc 0)) (.rd (.loc 2)))))] }
/-- _law_bad -- slots persons size classes one -/
def fd108 : FD := { np := 3, ns := 4, keep := [true, true, true], body := [.if_ (.not (.call 107 [(.rd (.loc 0)), (.lit (.int 1)), (.lit (.int 10))])) [.ret (.lit (.str "persons"))] [], .if_ (.not (.call 107 [(.rd (.loc 1)), (.lit (.int 1)), (.bin .add (.rd (.loc 0)) (.lit (.int 1)))])) [.ret (.lit (.str "size"))] [], .if_ (.or (.not (.isi (.rd (.loc 2)) [.tuple])) (.not (.bi .all (.comp false (.call 107 [(.rd (.loc 3)), (.lit (.int 1)), (.bin .pow (.lit (.int 10)) (.lit (.int 40)))]) (.nm 3) (.seq (.rd (.loc 2))) none [3])))) [.ret (.lit (.str "classes"))] [], .ret (.ite (.cmp .eq (.bi .sum (.rd (.loc 2))) (.call 105 [(.rd (.loc 0)), (.rd (.loc 1))])) (.lit .non) (.lit (.str "classes")))] }
/-- _law_bent -- slots tape parts persons size classes odd at kind some -/
def fd109 : FD := { np := 2, ns := 9, keep := [true, true], body := [.asg (.tp [(.nm 2), (.nm 3), (.nm 4)]) (.rd (.loc 1)), .asg (.nm 5) (.call 102 [(.rd (.loc 0)), (.lst false [(.lit .non), (.lit (.bl true)), (.lit (.bl false)), (.lit (.int 0)), (.neg (.lit (.int 1))), (.lit (.int 10)), (.bin .pow (.lit (.int 10)) (.lit (.int 30))), (.lit (.str "2")), (.tup [(.lit (.int 2))]), (.lst false [(.lit (.int 2))]), (.dct [] []), (.bin .add (.rd (.loc 2)) (.lit (.int 1))), (.rd (.loc 3)), (.rd (.loc 2))])]), .par [6, 7] [(.call 101 [(.rd (.loc 0)), (.bi .len (.rd (.loc 4)))]), (.call 101 [(.rd (.loc 0)), (.lit (.int 6))])], .if_ (.cmp .eq (.rd (.loc 7)) (.lit (.int 0))) [.ret (.tup [(.rd (.loc 5)), (.rd (.loc 3)), (.rd (.loc 4))])] [], .if_ (.cmp .eq (.rd (.loc 7)) (.lit (.int 1))) [.ret (.tup [(.rd (.loc 2)), (.rd (.loc 5)), (.rd (.loc 4))])] [], .asg (.nm 8) (.lst false [(.bi .list (.rd (.loc 4))), (.lit .non), (.lit (.int 0)), (.lit (.str "classes")), (.dct [] []), (.tup []), (.bin .add (.rd (.loc 4)) (.tup [(.lit (.int 1))])), (.slc (.rd (.loc 4)) (some (.lit (.int 1))) none), (.rev (.rd (.loc 4))), (.tup [(.rd (.loc 4))])]), .asg (.nm 8) (.bin .add (.rd (.loc 8)) (.lst false [(.bin .add (.bin .add (.slc (.rd (.loc 4)) none (some (.rd (.loc 6)))) (.tup [(.rd (.loc 5))])) (.slc (.rd (.loc 4)) (some (.bin .add (.rd (.loc 6)) (.lit (.int 1)))) none)), (.bin .add (.bin .add (.slc (.rd (.loc 4)) none (some (.rd (.loc 6)))) (.tup [(.bin .add (.rd (.at_ (.loc 4) (.rd (.loc 6)))) (.lit (.int 1)))])) (.slc (.rd (.loc 4)) (some (.bin .add (.rd (.loc 6)) (.lit (.int 1)))) none))])), .asg (.nm 8) (.bin .add (.rd (.loc 8)) (.lst false [(.bin .add (.bin .add (.slc (.rd (.loc 4)) none (some (.rd (.loc 6)))) (.tup [(.bin .sub (.rd (.at_ (.loc 4) (.rd (.loc 6)))) (.lit (.int 1))), (.lit (.int 1))])) (.slc (.rd (.loc 4)) (some (.bin .add (.rd (.loc 6)) (.lit (.int 1)))) none)), (.bin .add (.rd (.loc 4)) (.tup [(.lit (.int 0))])), (.bin .add (.rd (.loc 4)) (.tup [(.neg (.lit (.int 1))), (.lit (.int 1))]))])), .ret (.tup [(.rd (.loc 2)), (.rd (.loc 3)), (.call 102 [(.rd (.loc 0)), (.rd (.loc 8))])])] }
/-- _law_told -- slots parts plan e -/
def fd110 : FD := { np := 1, ns := 3, keep := [true], body := [.try_ [.asg (.nm 1) (.new 15 [(.rd (.at_ (.loc 0) (.lit (.int 0)))), (.rd (.at_ (.loc 0) (.lit (.int 1)))), (.rd (.at_ (.loc 0) (.lit (.int 2))))]), .ret (.tup [(.lit (.str "plan")), (.tup [(.rd (.fld (.loc 1) 0)), (.rd (.fld (.loc 1) 1)), (.rd (.fld (.loc 1) 2))])])] 0 (some 2) [.ret (.ite (.and (.xis 1) (.xis 19)) (.tup [(.lit (.str "bad")), (.xfld 13)]) (.tup [(.lit (.str "other")), (.lit .non)]))]] }
/-- _law_is_told -- slots parts copy due -/
def fd111 : FD := { np := 1, ns := 3, keep := [true], body := [.par [1, 2] [(.bi .repr (.rd (.loc 0))), (.call 108 [(.rd (.at_ (.loc 0) (.lit (.int 0)))), (.rd (.at_ (.loc 0) (.lit (.int 1)))), (.rd (.at_ (.loc 0) (.lit (.int 2))))])], .if_ (.cmp .ne (.bi .repr (.call 110 [(.rd (.loc 0))])) (.bi .repr (.ite (.cmp .is_ (.rd (.loc 2)) (.lit .non)) (.tup [(.lit (.str "plan")), (.rd (.loc 0))]) (.tup [(.lit (.str "bad")), (.rd (.loc 2))])))) [.ret (.lit (.bl false))] [], .ret (.cmp .eq (.bi .repr (.rd (.loc 0))) (.rd (.loc 1)))] }
/-- _law_is_refused -- slots plan place found e -/
def fd112 : FD := { np := 2, ns := 4, keep := [true, true], body := [.asg (.nm 2) (.lit (.bl false)), .try_ [.ex (.call 13 [(.rd (.loc 0)), (.rd (.loc 1))])] 0 (some 3) [.asg (.nm 2) (.and (.xis 2) (.xis 19))], .ret (.rd (.loc 2))] }
/-- _law_groups_right -- slots tape parts persons size classes plan due place times odd turn -/
def fd113 : FD := { np := 2, ns := 11, keep := [true, true], body := [.asg (.tp [(.nm 2), (.nm 3), (.nm 4)]) (.rd (.loc 1)), .par [5, 6] [(.new 15 [(.rd (.loc 2)), (.rd (.loc 3)), (.rd (.loc 4))]), (.bi .tuple (.call 104 [(.rd (.loc 2)), (.rd (.loc 3))]))], .if_ (.or (.cmp .ne (.bi .repr (.call 10 [(.rd (.loc 5))])) (.bi .repr (.rd (.loc 6)))) (.cmp .ne (.bi .len (.rd (.loc 6))) (.call 105 [(.rd (.loc 2)), (.rd (.loc 3))]))) [.ret (.lit (.bl false))] [], .for_ (.nm 7) (.seq (.comp false (.call 101 [(.rd (.loc 0)), (.bi .len (.rd (.loc 4)))]) (.nm 10) (.rng [(.lit (.int 4))]) none [10])) [.asg (.nm 8) (.bin .mul (.rd (.at_ (.loc 4) (.rd (.loc 7)))) (.rd (.loc 3))), .if_ (.cmp .ne (.bi .repr (.call 13 [(.rd (.loc 5)), (.rd (.loc 7))])) (.bi .repr (.tup [(.bin .fdiv (.rd (.loc 8)) (.rd (.loc 2))), (.bin .sub (.lit (.int 0)) (.bin .fdiv (.bin .sub (.lit (.int 0)) (.rd (.loc 8))) (.rd (.loc 2))))]))) [.ret (.lit (.bl false))] []], .asg (.nm 9) (.call 102 [(.rd (.loc 0)), (.lst false [(.lit .non), (.lit (.bl true)), (.lit (.bl false)), (.neg (.lit (.int 1))), (.bi .len (.rd (.loc 4))), (.lit (.str "0")), (.tup [(.lit (.int 0))]), (.lst false [(.lit (.int 0))]), (.dct [] []), (.bin .pow (.lit (.int 10)) (.lit (.int 30)))])]), .ret (.and (.call 112 [(.rd (.loc 5)), (.rd (.loc 9))]) (.cmp .eq (.tup [(.rd (.fld (.loc 5) 0)), (.rd (.fld (.loc 5) 1)), (.rd (.fld (.loc 5) 2))]) (.rd (.loc 1))))] }
/-- _law_equal_right -- slots one other here there flags -/
def fd114 : FD := { np := 2, ns := 5, keep := [true, true], body := [.par [2, 3] [(.new 15 [(.rd (.at_ (.loc 0) (.lit (.int 0)))), (.rd (.at_ (.loc 0) (.lit (.int 1)))), (.rd (.at_ (.loc 0) (.lit (.int 2))))]), (.new 15 [(.rd (.at_ (.loc 1) (.lit (.int 0)))), (.rd (.at_ (.loc 1) (.lit (.int 1)))), (.rd (.at_ (.loc 1) (.lit (.int 2))))])], .asg (.nm 4) (.lst false [(.cmp .eq (.rd (.loc 2)) (.rd (.loc 3))), (.cmp .ne (.rd (.loc 2)) (.rd (.loc 3))), (.cmp .eq (.rd (.loc 2)) (.rd (.loc 0))), (.cmp .ne (.rd (.loc 2)) (.rd (.loc 0))), (.cmp .eq (.rd (.loc 2)) (.lit (.int 0))), (.cmp .eq (.rd (.loc 2)) (.new 15 [(.rd (.at_ (.loc 0) (.lit (.int 0)))), (.rd (.at_ (.loc 0) (.lit (.int 1)))), (.rd (.at_ (.loc 0) (.lit (.int 2))))]))]), .ret (.cmp .eq (.bi .repr (.rd (.loc 4))) (.bi .repr (.lst false [(.cmp .eq (.rd (.loc 0)) (.rd (.loc 1))), (.cmp .ne (.rd (.loc 0)) (.rd (.loc 1))), (.lit (.bl false)), (.lit (.bl true)), (.lit (.bl false)), (.lit (.bl true))])))] }
/-- _law_known_right -- slots cases plan told parts due place -/
def fd115 : FD := { np := 0, ns := 6, keep := [], body := [.asg (.nm 0) (.lst false [(.tup [(.tup [(.lit (.int 4)), (.lit (.int 2)), (.tup [(.lit (.int 2)), (.lit (.int 2)), (.lit (.int 2))])]), (.lit .non)]), (.tup [(.tup [(.lit (.int 1)), (.lit (.int 1)), (.tup [(.lit (.int 1))])]), (.lit .non)]), (.tup [(.tup [(.lit (.int 9)), (.lit (.int 4)), (.tup [(.lit (.int 126))])]), (.lit .non)]), (.tup [(.tup [(.lit (.int 9)), (.lit (.int 9)), (.tup [(.lit (.int 1))])]), (.lit .non)])]), .ex (.app (.loc 0) (.tup [(.tup [(.lit (.int 3)), (.lit (.int 1)), (.tup [(.lit (.int 1)), (.lit (.int 2))])]), (.lit .non)])), .asg (.nm 0) (.bin .add (.rd (.loc 0)) (.lst false [(.tup [(.tup [(.lit (.int 0)), (.lit (.int 1)), (.tup [])]), (.lit (.str "persons"))]), (.tup [(.tup [(.lit (.int 10)), (.lit (.int 1)), (.tup [(.lit (.int 10))])]), (.lit (.str "persons"))]), (.tup [(.tup [(.lit (.int 4)), (.lit (.int 5)), (.tup [])]), (.lit (.str "size"))]), (.tup [(.tup [(.lit (.int 4)), (.lit (.int 0)), (.tup [(.lit (.int 1))])]), (.lit (.str "size"))])])), .asg (.nm 0) (.bin .add (.rd (.loc 0)) (.lst false [(.tup [(.tup [(.lit (.int 4)), (.lit (.int 2)), (.tup [(.lit (.int 2)), (.lit (.int 2))])]), (.lit (.str "classes"))]), (.tup [(.tup [(.lit (.int 4)), (.lit (.int 2)), (.tup [(.lit (.int 6)), (.lit (.int 0))])]), (.lit (.str "classes"))]), (.tup [(.tup [(.lit (.int 4)), (.lit (.int 2)), (.lst false [(.lit (.int 6))])]), (.lit (.str "classes"))])])), .asg (.nm 0) (.bin .add (.rd (.loc 0)) (.lst false [(.tup [(.tup [(.lit (.bl true)), (.lit (.int 1)), (.tup [(.lit (.int 1))])]), (.lit (.str "persons"))]), (.tup [(.tup [(.lit (.int 4)), (.lit (.bl true)), (.tup [(.lit (.int 4))])]), (.lit (.str "size"))]), (.tup [(.tup [(.lit (.int 1)), (.lit (.int 1)), (.tup [(.lit (.bl true))])]), (.lit (.str "classes"))])])), .asg (.nm 0) (.bin .add (.rd (.loc 0)) (.lst false [(.tup [(.tup [(.lit .non), (.lit .non), (.lit .non)]), (.lit (.str "persons"))]), (.tup [(.tup [(.lit (.int 4)), (.lit (.int 2)), (.tup [(.lit (.int 7)), (.neg (.lit (.int 1)))])]), (.lit (.str "classes"))])])), .if_ (.not (.bi .all (.comp false (.and (.cmp .eq (.call 108 [(.rd (.at_ (.loc 3) (.lit (.int 0)))), (.rd (.at_ (.loc 3) (.lit (.int 1)))), (.rd (.at_ (.loc 3) (.lit (.int 2))))]) (.rd (.loc 4))) (.call 111 [(.rd (.loc 3))])) (.tp [(.nm 3), (.nm 4)]) (.seq (.rd (.loc 0))) none [3, 4]))) [.ret (.lit (.bl false))] [], .asg (.nm 1) (.new 15 [(.lit (.int 4)), (.lit (.int 2)), (.tup [(.lit (.int 2)), (.lit (.int 3)), (.lit (.int 1))])]), .asg (.nm 2) (.bin .add (.comp false (.call 13 [(.rd (.loc 1)), (.rd (.loc 5))]) (.nm 5) (.seq (.tup [(.lit (.int 0)), (.lit (.int 1)), (.lit (.int 2))])) none [5]) (.lst false [(.call 10 [(.rd (.loc 1))])])), .ret (.cmp .eq (.rd (.loc 2)) (.lst false [(.tup [(.lit (.int 1)), (.lit (.int 1))]), (.tup [(.lit (.int 1)), (.lit (.int 2))]), (.tup [(.lit (.int 0)), (.lit (.int 1))]), (.tup [(.tup [(.lit (.int 0)), (.lit (.int 1))]), (.tup [(.lit (.int 0)), (.lit (.int 2))]), (.tup [(.lit (.int 0)), (.lit (.int 3))]), (.tup [(.lit (.int 1)), (.lit (.int 2))]), (.tup [(.lit (.int 1)), (.lit (.int 3))]), (.tup [(.lit (.int 2)), (.lit (.int 3))])])]))] }
/-- law -- slots script tape again persons size parts other place -/
def fd116 : FD := { np := 1, ns := 8, keep := [true], body := [.asg (.nm 1) (.call 100 [(.rd (.loc 0))]), .if_ (.not (.call 115 [])) [.ret (.lit (.bl false))] [], .for_ (.nm 2) (.rng [(.lit (.int 4))]) [.asg (.nm 3) (.bin .add (.lit (.int 1)) (.call 101 [(.rd (.loc 1)), (.lit (.int 9))])), .asg (.nm 4) (.bin .add (.lit (.int 1)) (.call 101 [(.rd (.loc 1)), (.rd (.loc 3))])), .asg (.nm 5) (.tup [(.rd (.loc 3)), (.rd (.loc 4)), (.call 106 [(.rd (.loc 1)), (.call 105 [(.rd (.loc 3)), (.rd (.loc 4))])])]), .if_ (.or (.not (.call 111 [(.rd (.loc 5))])) (.not (.call 113 [(.rd (.loc 1)), (.rd (.loc 5))]))) [.ret (.lit (.bl false))] [], .asg (.nm 6) (.tup [(.rd (.loc 3)), (.rd (.loc 4)), (.call 106 [(.rd (.loc 1)), (.call 105 [(.rd (.loc 3)), (.rd (.loc 4))])])]), .if_ (.not (.call 114 [(.rd (.loc 5)), (.call 102 [(.rd (.loc 1)), (.lst false [(.rd (.loc 5)), (.rd (.loc 6)), (.tup [(.lit (.int 1)), (.lit (.int 1)), (.tup [(.lit (.int 1))])])])])])) [.ret (.lit (.bl false))] [], .for_ (.nm 7) (.rng [(.lit (.int 6))]) [.if_ (.not (.call 111 [(.call 109 [(.rd (.loc 1)), (.rd (.loc 5))])])) [.ret (.lit (.bl false))] []]], .ret (.lit (.bl true))] }
def kls : Nat → Option Cls
  | 0 => some { exc := true, up := [19] }
  | 19 => some { exc := true }
  | 1 => some { exc := true, up := [0, 19] }
  | 2 => some { exc := true, up := [0, 19] }
  | 3 => some { exc := true, up := [0, 19] }
  | 4 => some { exc := true, up := [0, 19] }
  | 5 => some { exc := true, up := [0, 19] }
  | 6 => some { exc := true, up := [0, 19] }
  | 7 => some { exc := true, up := [0, 19] }
  | 8 => some { exc := true, up := [0, 19] }
  | 9 => some { exc := true, up := [0, 19] }
  | 10 => some { exc := true, up := [0, 19] }
  | 11 => some { exc := true, up := [0, 19] }
  | 12 => some { exc := true, up := [0, 19] }
  | 13 => some { exc := true, up := [0, 19] }
  | 14 => some { exc := true, up := [0, 19] }
  | 15 => some { init := some 6, eq := some 8, meths := [(0, 7)] }
  | 16 => some { init := some 48, eq := some 49, meths := [(1, 50), (2, 51), (3, 52), (4, 53), (5, 54), (6, 55), (7, 56)] }
  | 17 => some { init := some 71, meths := [(8, 72), (9, 73)] }
  | 18 => some { init := some 30, meths := [(10, 31), (11, 32), (12, 33), (13, 34), (14, 35), (15, 36)] }
  | _ => none

def gam : Nat → Option FD
  | 0 => some fd0
  | 1 => some fd1
  | 3 => some fd3
  | 4 => some fd4
  | 5 => some fd5
  | 6 => some fd6
  | 7 => some fd7
  | 8 => some fd8
  | 9 => some fd9
  | 10 => some fd10
  | 11 => some fd11
  | 12 => some fd12
  | 13 => some fd13
  | 100 => some fd100
  | 101 => some fd101
  | 102 => some fd102
  | 103 => some fd103
  | 104 => some fd104
  | 105 => some fd105
  | 106 => some fd106
  | 107 => some fd107
  | 108 => some fd108
  | 109 => some fd109
  | 110 => some fd110
  | 111 => some fd111
  | 112 => some fd112
  | 113 => some fd113
  | 114 => some fd114
  | 115 => some fd115
  | 116 => some fd116
  | _ => none

end Vm
/-! #### part T01 -/
namespace Vm
open PySem
def gt : Gt where
  Κ := kls
  fnm := [("is_integer", 0), ("is_from_to", 1), ("choices", 3), ("check_sizes", 4), ("are_classes", 5), ("lots_of", 9), ("all_groups", 10), ("check_class", 11), ("raw_stands", 12), ("stands", 13), ("_law_tape", 100), ("_law_pick", 101), ("_law_any", 102), ("_law_mixed", 103), ("_law_groups", 104), ("_law_choices", 105), ("_law_classes", 106), ("_law_is_number", 107), ("_law_bad", 108), ("_law_bent", 109), ("_law_told", 110), ("_law_is_told", 111), ("_law_is_refused", 112), ("_law_groups_right", 113), ("_law_equal_right", 114), ("_law_known_right", 115), ("law", 116)]
  clm := [("DealError", 0), ("BadPlan", 1), ("NoClass", 2), ("Plan", 15)]
  cst := [("MOST_PERSONS", 9)]
  asks := [(.cls 1), (.cls 15), (.cls 19), (.cls 2), .bool, .int, .tuple]
  mts := ["parts", "count", "now", "check_more", "come", "take", "back", "copy", "row_text", "tell", "move", "give", "shift", "fill", "pull", "begin"]
  ar := fun f => match f with
    | 0 => 1
    | 1 => 3
    | 3 => 2
    | 4 => 2
    | 5 => 2
    | 6 => 4
    | 7 => 1
    | 8 => 2
    | 9 => 2
    | 10 => 1
    | 11 => 2
    | 12 => 2
    | 13 => 2
    | 100 => 1
    | 101 => 2
    | 102 => 2
    | 103 => 2
    | 104 => 2
    | 105 => 2
    | 106 => 2
    | 107 => 3
    | 108 => 3
    | 109 => 2
    | 110 => 1
    | 111 => 1
    | 112 => 2
    | 113 => 2
    | 114 => 2
    | 115 => 0
    | 116 => 1
    | _ => 0
  mar := fun m => match m with
    | 0 => 1
    | _ => 0
  xar := fun c => if c = 1 ∨ c = 13 then some 1 else if c < 15 then some 0 else none
  cats := [0]
def slotN : Nat → List PySem.Str
  | 0 => ["thing"]
  | 1 => ["thing", "least", "most"]
  | 3 => ["many", "some", "found", "at"]
  | 4 => ["persons", "size"]
  | 5 => ["thing", "many", "one"]
  | 6 => ["self", "persons", "size", "classes"]
  | 7 => ["self"]
  | 8 => ["self", "other"]
  | 9 => ["many", "some", "found", "turn", "later", "lot", "one"]
  | 10 => ["plan"]
  | 11 => ["plan", "place"]
  | 12 => ["plan", "place", "total"]
  | 13 => ["plan", "place"]
  | 100 => ["script", "cells", "cell"]
  | 101 => ["tape", "many", "cell", "digit", "number"]
  | 102 => ["tape", "things"]
  | 103 => ["tape", "things", "left", "found"]
  | 104 => ["persons", "size", "found", "turn", "longer", "row", "one"]
  | 105 => ["many", "some", "found", "turn"]
  | 106 => ["tape", "whole", "kind", "found", "left", "most", "some"]
  | 107 => ["thing", "least", "below"]
  | 108 => ["persons", "size", "classes", "one"]
  | 109 => ["tape", "parts", "persons", "size", "classes", "odd", "at", "kind", "some"]
  | 110 => ["parts", "plan", "e"]
  | 111 => ["parts", "copy", "due"]
  | 112 => ["plan", "place", "found", "e"]
  | 113 => ["tape", "parts", "persons", "size", "classes", "plan", "due", "place", "times", "odd", "turn"]
  | 114 => ["one", "other", "here", "there", "flags"]
  | 115 => ["cases", "plan", "told", "parts", "due", "place"]
  | 116 => ["script", "tape", "again", "persons", "size", "parts", "other", "place"]
  | _ => []
end Vm
/-! #### part T02 -/
namespace Vm
open PySem
def tbl : Tb := { fns := [(0, 21), (1, 28), (3, 35), (4, 88), (5, 93), (9, 133), (10, 140), (11, 147), (12, 154), (13, 161), (100, 166), (101, 173), (102, 180), (103, 187), (104, 192), (105, 199), (106, 206), (107, 213), (108, 218), (109, 225), (110, 232), (111, 239), (112, 246), (113, 251), (114, 258), (115, 263), (116, 270), (6, 107), (8, 121), (7, 114)], cls := [(15, 124)], xcl := [(0, 45), (1, 67), (2, 79)] }
theorem kls_lt : ∀ c kc, gt.Κ c = some kc → c < 20 := by
  intro c kc h
  have h : kls c = some kc := h
  unfold kls at h
  split at h <;> first | (cases h; done) | (clear h; omega)
end Vm
/-! #### part P01 -/
namespace Vm
open PySem
/-- so that simp leaves the rest alone -/
inductive Dep {γ : Type} (f : γ) : Type where
  | mk
def R.bnd {α β : Type} (r : R α) (f : α → Env → R β) (u : Dep f) : R β := match u with
  | .mk => r.bind f
theorem to_bnd {α β : Type} (r : R α) (f : α → Env → R β) : r.bind f = r.bnd f .mk := Eq.trans rfl rfl
theorem bnd_ok {α β : Type} (a : α) (ρ : Env) (f : α → Env → R β) (u) : (R.ok a ρ).bnd f u = f a ρ := by cases u; rfl
theorem bnd_ex {α β : Type} (a : D) (ρ : Env) (f : α → Env → R β) (u) : (R.ex a ρ : R α).bnd f u = .ex a ρ := by cases u; rfl
theorem fuel_gt : 100000 < fuel := by unfold fuel; decide
def R.sq (r : R Fl) (k : Env → R Fl) : R Fl := match r with
  | .ok .nx ρ => k ρ
  | r => r
theorem sq_nx (ρ : Env) (k) : (R.ok Fl.nx ρ).sq k = k ρ := Eq.trans rfl rfl
theorem sq_cont (ρ : Env) (k) : (R.ok Fl.cont ρ).sq k = .ok .cont ρ := Eq.trans rfl rfl
theorem sq_ret (d) (ρ : Env) (k) : (R.ok (Fl.ret d) ρ).sq k = .ok (.ret d) ρ := Eq.trans rfl rfl
theorem sq_ex (d) (ρ : Env) (k) : (R.ex d ρ).sq k = .ex d ρ := Eq.trans rfl rfl
theorem sq_no (k) : (R.no).sq k = .no := Eq.trans rfl rfl
theorem xc_cons (s ss) (C : Cf) (ρ : Env) : execs kls (s :: ss) C ρ = (exec kls s C ρ).sq (execs kls ss C) := by
  simp only [execs, R.sq]
  try rfl
theorem xc_nil (C : Cf) (ρ : Env) : execs kls [] C ρ = .ok .nx ρ := Eq.trans rfl rfl
/-- the end of a call -/
def fin (ks : List Bool) : R Fl → R D
  | .ok (.ret d) ρ => .ok d (outsOf ks ρ)
  | .ok .nx ρ => .ok .non (outsOf ks ρ)
  | .ex e ρ => .ex e (outsOf ks ρ)
  | _ => .no
theorem fin_ret (ks d ρ) : fin ks (.ok (.ret d) ρ) = .ok d (outsOf ks ρ) := Eq.trans rfl rfl
theorem fin_nx (ks ρ) : fin ks (.ok .nx ρ) = .ok .non (outsOf ks ρ) := Eq.trans rfl rfl
theorem fin_ex (ks d ρ) : fin ks (.ex d ρ) = .ex d (outsOf ks ρ) := Eq.trans rfl rfl
theorem call_eq {f : Nat} {args : List D} {fd : FD} (n : Nat) (h : gam f = some fd) (hl : args.length = fd.np) : callF kls gam (n + 1) f args = fin fd.keep (execs kls fd.body { Φ := callF kls gam n } (args.map some ++ List.replicate (fd.ns - fd.np) none)) := by
  simp only [callF, h, hl, if_true]
  cases execs kls fd.body { Φ := callF kls gam n } (args.map some ++ List.replicate (fd.ns - fd.np) none) with
  | ok a ρ => cases a <;> rfl
  | ex => rfl
  | no => rfl
def brl {α : Type} (r : R D) (a b : Env → R α) : R α := r.bind fun d ρ1 => match d with
    | .bl true => a ρ1
    | .bl false => b ρ1
    | _ => .no
section
variable {α : Type} (ρ : Env) (a b : Env → R α)
theorem brl_t : brl (.ok (.bl true) ρ) a b = a ρ := Eq.trans rfl rfl
theorem brl_f : brl (.ok (.bl false) ρ) a b = b ρ := Eq.trans rfl rfl
theorem brl_ex (d) : brl (.ex d ρ) a b = .ex d ρ := Eq.trans rfl rfl
theorem brl_d (p : Prop) [Decidable p] : brl (.ok (.bl (decide p)) ρ) a b = if p then a ρ else b ρ := by
  by_cases h : p <;> simp [h, brl]
end
theorem x_if (c a b) (C : Cf) (ρ : Env) : exec kls (.if_ c a b) C ρ = brl (ev kls C c ρ) (execs kls a C) (execs kls b C) := by
  first
    | (simp only [exec, brl]; done)
    | (simp only [exec, brl]
       cases ev kls C c ρ with
       | ok d _ => cases d <;> first | rfl | (rename_i q; cases q <;> rfl)
       | ex => rfl
       | no => rfl)
def fls (ρ : Env) : R D := .ok (.bl false) ρ
def trs (ρ : Env) : R D := .ok (.bl true) ρ
theorem e_and (c a) (C : Cf) (ρ : Env) : ev kls C (.and c a) ρ = brl (ev kls C c ρ) (ev kls C a) fls := by
  first
    | (simp only [ev, brl]; done)
    | (simp only [ev, brl]
       cases ev kls C c ρ with
       | ok d _ => cases d <;> first | rfl | (rename_i q; cases q <;> rfl)
       | ex => rfl
       | no => rfl)
theorem e_or (c a) (C : Cf) (ρ : Env) : ev kls C (.or c a) ρ = brl (ev kls C c ρ) trs (ev kls C a) := by
  first
    | (simp only [ev, brl]; done)
    | (simp only [ev, brl]
       cases ev kls C c ρ with
       | ok d _ => cases d <;> first | rfl | (rename_i q; cases q <;> rfl)
       | ex => rfl
       | no => rfl)
theorem e_ite (c a b) (C : Cf) (ρ : Env) : ev kls C (.ite c a b) ρ = brl (ev kls C c ρ) (ev kls C a) (ev kls C b) := by
  first
    | (simp only [ev, brl]; done)
    | (simp only [ev, brl]
       cases ev kls C c ρ with
       | ok d _ => cases d <;> first | rfl | (rename_i q; cases q <;> rfl)
       | ex => rfl
       | no => rfl)
theorem e_not (c) (C : Cf) (ρ : Env) : ev kls C (.not c) ρ = brl (ev kls C c ρ) fls trs := by
  first
    | (simp only [ev, brl]; done)
    | (simp only [ev, brl]
       cases ev kls C c ρ with
       | ok d _ => cases d <;> first | rfl | (rename_i q; cases q <;> rfl)
       | ex => rfl
       | no => rfl)
section
variable (C : Cf) (ρ : Env)
theorem e_lit (d) : ev kls C (.lit d) ρ = .ok d ρ := Eq.trans rfl rfl
theorem e_loc (i) : ev kls C (.rd (.loc i)) ρ = (match slot ρ i with
    | some d => .ok d.un (ρ.set i (some d.un))
    | none => .no) := Eq.trans rfl rfl
theorem e_fld (p f) : ev kls C (.rd (.fld p f)) ρ = R.of (plain (rp (.fld p f) ρ)) ρ := Eq.trans rfl rfl
theorem e_at (p q) : ev kls C (.rd (.at_ p q)) ρ = R.of (plain (rp (.at_ p q) ρ)) ρ := Eq.trans rfl rfl
theorem e_tup (es) : ev kls C (.tup es) ρ = (evL kls C es ρ).bind fun ds ρ1 => .ok (.tup (ds.map D.un)) ρ1 := Eq.trans rfl rfl
theorem e_lst (es) : ev kls C (.lst false es) ρ = (evL kls C es ρ).bind fun ds ρ1 => .ok (.own (.lst (ds.map D.un))) ρ1 := Eq.trans rfl rfl
theorem e_dct : ev kls C (.dct [] []) ρ = .ok (.own (.dct [] [])) ρ := Eq.trans rfl rfl
theorem e_bin (o a b) : ev kls C (.bin o a b) ρ = (pkB2 a (ev kls C a) b (ev kls C b) ρ).bind fun xy ρ1 => R.of (bop o xy.1 xy.2) ρ1 := Eq.trans rfl rfl
theorem e_neg (i) : ev kls C (.neg (.lit (.int i))) ρ = .ok (.int (-i)) ρ := Eq.trans rfl rfl
theorem e_cmp (o a b) : ev kls C (.cmp o a b) ρ = (pkB2 a (ev kls C a) b (ev kls C b) ρ).bind fun xy ρ1 => cmpV kls C.Φ o xy.1 xy.2 ρ1 := Eq.trans rfl rfl
theorem e_cmp2 (o o' a b c) : ev kls C (.cmp2 o o' a b c) ρ = (ev kls C a ρ).bind fun x ρ1 => (ev kls C b ρ1).bind fun y ρ2 => match cop o x.un y.un with
    | some (.bl true) => (ev kls C c ρ2).bind fun z ρ3 => R.of (cop o' y.un z.un) ρ3
    | some (.bl false) => .ok (.bl false) ρ2
    | _ => .no := Eq.trans rfl rfl
theorem e_sub (a i) : ev kls C (.sub a i) ρ = (pkB2 a (ev kls C a) i (ev kls C i) ρ).bind fun xy ρ1 => R.of (plain (itemD xy.1 xy.2)) ρ1 := Eq.trans rfl rfl
theorem e_slc (a lo hi) : ev kls C (.slc a lo hi) ρ = (pkB a (ev kls C a) ρ).bind fun x ρ1 => match evO kls C lo ρ1 with
    | some l => match evO kls C hi ρ1 with
      | some h => R.of (sliceD x l h) ρ1
      | none => .no
    | none => .no := Eq.trans rfl rfl
theorem e_rev (a) : ev kls C (.rev a) ρ = (pkB a (ev kls C a) ρ).bind fun x ρ1 => R.of (revD x) ρ1 := Eq.trans rfl rfl
theorem e_bi (b a) : ev kls C (.bi b a) ρ = (pkB a (ev kls C a) ρ).bind fun x ρ1 => R.of (b1 b x) ρ1 := Eq.trans rfl rfl
theorem e_bi2 (b a c) : ev kls C (.bi2 b a c) ρ = (pkB2 a (ev kls C a) c (ev kls C c) ρ).bind fun xy ρ1 => R.of (b2 b xy.1 xy.2) ρ1 := Eq.trans rfl rfl
theorem e_isi (a ts) : ev kls C (.isi a ts) ρ = (pkB a (ev kls C a) ρ).bind fun x ρ1 => R.of ((isAny kls x ts).map .bl) ρ1 := Eq.trans rfl rfl
theorem e_call (f args) : ev kls C (.call f args) ρ = (evA kls C args ρ).bind fun as ρ1 => calls C.Φ f as ρ1 := Eq.trans rfl rfl
theorem l_nil : evL kls C [] ρ = .ok [] ρ := Eq.trans rfl rfl
theorem l_cons (e es) : evL kls C (e :: es) ρ = (ev kls C e ρ).bind fun d ρ1 => (evL kls C es ρ1).bind fun ds ρ2 => .ok (d :: ds) ρ2 := Eq.trans rfl rfl
theorem a_nil : evA kls C [] ρ = .ok [] ρ := Eq.trans rfl rfl
theorem a_cons (e es) : evA kls C (e :: es) ρ = (match recvOf e with
    | some i => if (slot ρ i).isSome then (evA kls C es ρ).bind fun as ρ1 => .ok (.s i :: as) ρ1 else .no
    | none => (ev kls C e ρ).bind fun d ρ1 => (evA kls C es ρ1).bind fun as ρ2 => .ok (.v d :: as) ρ2) := Eq.trans rfl rfl
theorem x_nm (i e) : exec kls (.asg (.nm i) e) C ρ = (ev kls C e ρ).bind fun d ρ1 => if i < ρ1.length then .ok .nx (ρ1.set i (some d)) else .no := by
  simp only [exec, bindT]
  cases ev kls C e ρ with
  | ok d ρ1 => simp only [R.bind_ok]; split <;> rfl
  | ex => rfl
  | no => rfl
theorem x_ret0 (i) : exec kls (.ret (.rd (.loc i))) C ρ = (match slot ρ i with
      | some d => .ok (.ret d) (ρ.set i none)
      | none => .no) := Eq.trans rfl rfl
theorem x_setI (j i e) : exec kls (.setI (.loc j) i e) C ρ = (ev kls C e ρ).bind fun v ρ1 => if isOL (slot ρ1 j) then (ev kls C i ρ1).bind fun k ρ2 => match olOf (slot ρ2 j), k with
        | some xs, .int n => match ixN xs.length n with
          | some q => .ok .nx (ρ2.set j (some (.own (.lst (xs.set q v.un)))))
          | none => .no
        | _, _ => .no
      else .no := Eq.trans rfl rfl
end
theorem x_ret (e) (h : (match e with | .rd (.loc _) => false | _ => true) = true) (C : Cf) (ρ : Env) : exec kls (.ret e) C ρ = (ev kls C e ρ).bind fun d ρ1 => .ok (.ret d) ρ1 := by
  unfold exec
  split
  · exact absurd h (by simp)
  · rfl
theorem slot0 (x) (ρ : Env) : slot (x :: ρ) 0 = x := by simp [slot]
theorem slotS (x) (ρ : Env) (i : Nat) : slot (x :: ρ) (i + 1) = slot ρ i := by simp [slot]
theorem ixN_lit (n : Nat) (k : Nat) (h : k < n) : ixN n (k : Int) = some k := by
  simp [ixN, h]
theorem it0 (a xs) : itemD (.lst (a :: xs)) (.int 0) = some a := by simp [itemD, ixN]
theorem it1 (a b xs) : itemD (.lst (a :: b :: xs)) (.int 1) = some b := by simp only [itemD]; rw [show (1 : Int) = ((1 : Nat) : Int) from rfl, ixN_lit _ _ (by simp)]; rfl
theorem it2 (a b c xs) : itemD (.lst (a :: b :: c :: xs)) (.int 2) = some c := by simp only [itemD]; rw [show (2 : Int) = ((2 : Nat) : Int) from rfl, ixN_lit _ _ (by simp)]; rfl
theorem it3 (a b c d xs) : itemD (.lst (a :: b :: c :: d :: xs)) (.int 3) = some d := by simp only [itemD]; rw [show (3 : Int) = ((3 : Nat) : Int) from rfl, ixN_lit _ _ (by simp)]; rfl
theorem it4 (a b c d e xs) : itemD (.lst (a :: b :: c :: d :: e :: xs)) (.int 4) = some e := by simp only [itemD]; rw [show (4 : Int) = ((4 : Nat) : Int) from rfl, ixN_lit _ _ (by simp)]; rfl
theorem tt0 (a xs) : itemD (.tup (a :: xs)) (.int 0) = some a := by simp [itemD, ixN]
theorem tt1 (a b xs) : itemD (.tup (a :: b :: xs)) (.int 1) = some b := by simp only [itemD]; rw [show (1 : Int) = ((1 : Nat) : Int) from rfl, ixN_lit _ _ (by simp)]; rfl
theorem tt2 (a b c xs) : itemD (.tup (a :: b :: c :: xs)) (.int 2) = some c := by simp only [itemD]; rw [show (2 : Int) = ((2 : Nat) : Int) from rfl, ixN_lit _ _ (by simp)]; rfl
theorem ix51 : ixN 5 1 = some 1 := by decide
theorem ix52 : ixN 5 2 = some 2 := by decide
theorem ix53 : ixN 5 3 = some 3 := by decide
theorem ix54 : ixN 5 4 = some 4 := by decide
theorem eqD_ii (i j : Int) : eqD (.int i) (.int j) = some (decide (i = j)) := by
  simp [eqD, eqOk, D.isData, D.py, PyData.canLay0, PyData.depth, PyData.eqv]
  by_cases h : i = j <;> simp [h]
theorem cv_eq {i j : Int} {ρ : Env} {Φ} : cmpV kls Φ .eq (.int i) (.int j) ρ = .ok (.bl (decide (i = j))) ρ := by simp [cmpV, cop, eqD_ii]
theorem cv_lt {i j : Int} {ρ : Env} {Φ} : cmpV kls Φ .lt (.int i) (.int j) ρ = .ok (.bl (decide (i < j))) ρ := Eq.trans rfl rfl
theorem cv_le {i j : Int} {ρ : Env} {Φ} : cmpV kls Φ .le (.int i) (.int j) ρ = .ok (.bl (decide (i ≤ j))) ρ := Eq.trans rfl rfl
theorem cv_gt {i j : Int} {ρ : Env} {Φ} : cmpV kls Φ .gt (.int i) (.int j) ρ = .ok (.bl (decide (j < i))) ρ := Eq.trans rfl rfl
theorem cv_ge {i j : Int} {ρ : Env} {Φ} : cmpV kls Φ .ge (.int i) (.int j) ρ = .ok (.bl (decide (j ≤ i))) ρ := Eq.trans rfl rfl
theorem bop_add (i j : Int) : bop .add (.int i) (.int j) = some (.int (i + j)) := Eq.trans rfl rfl
theorem bop_sub (i j : Int) : bop .sub (.int i) (.int j) = some (.int (i - j)) := Eq.trans rfl rfl
theorem bop_mul (i j : Int) (h : (small64 i || small64 j) = true) : bop .mul (.int i) (.int j) = some (.int (i * j)) := by simp only [bop, h, if_true]
theorem bop_mulL (i j : Int) (h : small64 i = true) : bop .mul (.int i) (.int j) = some (.int (i * j)) := by simp only [bop, h, if_true, Bool.true_or]
theorem bop_mulR (i j : Int) (h : small64 j = true) : bop .mul (.int i) (.int j) = some (.int (i * j)) := by simp only [bop, h, if_true, Bool.or_true]
theorem small_of {i : Int} (h : -(2 ^ 64) < i) (h2 : i < 2 ^ 64) : small64 i = true := by simp [small64, decide_eq_true h, decide_eq_true h2] ; omega
theorem small_mod (y : Int) : small64 (y % 2147483647) = true := small_of (by omega) (by omega)
theorem bop_pow10 (k : Int) (h : 0 ≤ k) (h2 : k ≤ 1000000) : bop .pow (.int 10) (.int k) = some (.int (10 ^ k.toNat)) := by simp [bop, h, h2]
theorem bop_mod (i j : Int) (h : 0 < j) : bop .mod (.int i) (.int j) = some (.int (i % j)) := by simp [bop, h]
theorem bop_fdiv (i j : Int) (h : 0 < j) (h2 : j < 1073741824) : bop .fdiv (.int i) (.int j) = some (.int (i / j)) := by simp [bop, h, h2]
theorem b_len (xs) : b1 .len (.lst xs) = some (.int xs.length) := Eq.trans rfl rfl
theorem b_len2 (xs) : b1 .len (.tup xs) = some (.int xs.length) := Eq.trans rfl rfl
theorem b_int (i) : b1 .int (.int i) = some (.int i) := Eq.trans rfl rfl
theorem un_ow1 (d) : (D.own d).un = d := Eq.trans rfl rfl
theorem un_int (i) : (D.int i).un = .int i := Eq.trans rfl rfl
theorem un_bl (i) : (D.bl i).un = .bl i := Eq.trans rfl rfl
theorem un_str (i) : (D.str i).un = .str i := Eq.trans rfl rfl
theorem un_tup (i) : (D.tup i).un = .tup i := Eq.trans rfl rfl
theorem un_lst (i) : (D.lst i).un = .lst i := Eq.trans rfl rfl
theorem un_scr (i) : (D.scr i).un = .scr i := Eq.trans rfl rfl
theorem un_non : D.non.un = .non := Eq.trans rfl rfl
theorem un_ins (c f v) : (D.ins c f v).un = .ins c f v := Eq.trans rfl rfl
theorem un_dct (k v) : (D.dct k v).un = .dct k v := Eq.trans rfl rfl
theorem un_exc (k v) : (D.exc k v).un = .exc k v := Eq.trans rfl rfl
theorem ow_own (d) : (D.own d).isOwn = true := Eq.trans rfl rfl
theorem ow_int (i) : (D.int i).isOwn = false := Eq.trans rfl rfl
theorem ow_bl (i) : (D.bl i).isOwn = false := Eq.trans rfl rfl
theorem ow_str (i) : (D.str i).isOwn = false := Eq.trans rfl rfl
theorem ow_tup (i) : (D.tup i).isOwn = false := Eq.trans rfl rfl
theorem ow_lst (i) : (D.lst i).isOwn = false := Eq.trans rfl rfl
theorem ow_scr (i) : (D.scr i).isOwn = false := Eq.trans rfl rfl
theorem ow_non : D.non.isOwn = false := Eq.trans rfl rfl
theorem ow_ins (c f v) : (D.ins c f v).isOwn = false := Eq.trans rfl rfl
theorem ow_dct (k v) : (D.dct k v).isOwn = false := Eq.trans rfl rfl
theorem ow_exc (k v) : (D.exc k v).isOwn = false := Eq.trans rfl rfl
structure Tp where
  cells : List Int
  at_ : Nat
  dig : Int
  num : Int
  cnt : Int
def Tp.d (t : Tp) : D := .own (.lst [.lst (t.cells.map .int), .int t.at_, .int t.dig, .int t.num, .int t.cnt])
def PickG (m : Int) (R : R D) : Prop := ∃ r t', 0 ≤ r ∧ r < m ∧ R = .ok (.int r) [some (Tp.d t'), some (.int m)]
theorem pick_end {m : Int} (hm : 0 < m) (y : Int) (t : Tp) (a b c) {R : R D} (h : R = fin [true, true] (.ok (.ret (.int (y % m))) [some t.d, some (.int m), a, b, c])) : PickG m R := ⟨y % m, t, Int.emod_nonneg _ (by omega), Int.emod_lt_of_pos _ hm, h⟩
theorem c_pick (n : Nat) (t : Tp) (m : Int) (hm : 0 < m) (hm2 : m < 1073741824) : PickG m (callF kls gam (n+1) 101 [t.d, .int m]) := by
  have last : ∀ (t : Tp) (x : Option D), PickG m (fin [true, true] (execs kls fd101.body.tail { Φ := callF kls gam n } [some t.d, some (.int m), x, none, none])) := by
    intro t x
    simp only [fd101, Tp.d, List.map, List.replicate, List.cons_append, List.nil_append, List.length_cons, List.length_nil, List.set_cons_zero, List.set_cons_succ, List.tail, e_lit, e_loc, e_fld, e_at, e_tup, e_lst, e_dct, e_bin, e_neg, e_cmp, e_cmp2, e_sub, e_slc, e_rev, e_bi, e_bi2, e_isi, e_call, l_nil, l_cons, a_nil, a_cons, e_and, e_or, e_not, e_ite, brl_t, brl_f, fls, trs, x_nm, x_ret0, x_ret, x_setI, xc_cons, xc_nil, x_if, sq_nx, sq_ret, sq_ex, sq_cont, pkB2, pkB, rp, qe, slot0, slotS, un_ow1, un_int, un_bl, un_str, un_tup, un_lst, un_scr, un_non, un_ins, un_dct, un_exc, ow_own, ow_int, ow_bl, ow_str, ow_tup, ow_lst, ow_scr, ow_non, ow_ins, ow_dct, ow_exc, plain,  ↓to_bnd, bnd_ok, bnd_ex, R.of_some, it0, it1, it2, it3, it4, tt0, tt1, tt2, Option.map_some, olOf, isOL, Option.isSome, Bool.false_eq_true, if_false, if_true, cv_gt, brl_d]
    by_cases h : 0 < t.dig
    · simp only [h, e_lit, e_loc, e_fld, e_at, e_tup, e_lst, e_dct, e_bin, e_neg, e_cmp, e_cmp2, e_sub, e_slc, e_rev, e_bi, e_bi2, e_isi, e_call, l_nil, l_cons, a_nil, a_cons, e_and, e_or, e_not, e_ite, brl_t, brl_f, fls, trs, x_nm, x_ret0, x_ret, x_setI, xc_cons, xc_nil, x_if, sq_nx, sq_ret, sq_ex, sq_cont, pkB2, pkB, rp, qe, slot0, slotS, un_ow1, un_int, un_bl, un_str, un_tup, un_lst, un_scr, un_non, un_ins, un_dct, un_exc, ow_own, ow_int, ow_bl, ow_str, ow_tup, ow_lst, ow_scr, ow_non, ow_ins, ow_dct, ow_exc, plain,  ↓to_bnd, bnd_ok, bnd_ex, R.of_some, it0, it1, it2, it3, it4, tt0, tt1, tt2, Option.map_some, olOf, isOL, Option.isSome, Bool.false_eq_true, if_false, if_true, List.map, List.replicate, List.cons_append, List.nil_append, List.length_cons, List.length_nil, List.set_cons_zero, List.set_cons_succ, b_int, bop_mod _ _ hm, bop_fdiv _ _ hm hm2, Nat.reduceAdd, Nat.reduceLT, ix52]
      exact pick_end hm t.dig { t with dig := t.dig / m } _ _ _ rfl
    · simp only [h, e_lit, e_loc, e_fld, e_at, e_tup, e_lst, e_dct, e_bin, e_neg, e_cmp, e_cmp2, e_sub, e_slc, e_rev, e_bi, e_bi2, e_isi, e_call, l_nil, l_cons, a_nil, a_cons, e_and, e_or, e_not, e_ite, brl_t, brl_f, fls, trs, x_nm, x_ret0, x_ret, x_setI, xc_cons, xc_nil, x_if, sq_nx, sq_ret, sq_ex, sq_cont, pkB2, pkB, rp, qe, slot0, slotS, un_ow1, un_int, un_bl, un_str, un_tup, un_lst, un_scr, un_non, un_ins, un_dct, un_exc, ow_own, ow_int, ow_bl, ow_str, ow_tup, ow_lst, ow_scr, ow_non, ow_ins, ow_dct, ow_exc, plain,  ↓to_bnd, bnd_ok, bnd_ex, R.of_some, it0, it1, it2, it3, it4, tt0, tt1, tt2, Option.map_some, olOf, isOL, Option.isSome, Bool.false_eq_true, if_false, if_true, List.map, List.replicate, List.cons_append, List.nil_append, List.length_cons, List.length_nil, List.set_cons_zero, List.set_cons_succ, b_int, bop_mod _ _ hm, bop_fdiv _ _ hm hm2, Nat.reduceAdd, Nat.reduceLT, ix54, bop_add, bop_mulL 7919 _ (by decide), bop_mulR _ 48271 (by decide), bop_mulL _ _ (small_mod _), bop_mod _ 2147483647 (by decide), bop_mod _ 2147483399 (by decide), bop_fdiv _ 1009 (by decide) (by decide), bop_fdiv _ 2003 (by decide) (by decide), bop_fdiv _ 16 (by decide) (by decide)]
      exact pick_end hm _ { t with cnt := t.cnt + 1 } _ _ _ rfl
  rw [call_eq n (fd := fd101) rfl rfl]
  change PickG m (fin [true, true] (execs kls (fd101.body.headD .pass :: fd101.body.tail) { Φ := callF kls gam n } [some t.d, some (.int m), none, none, none]))
  rw [xc_cons]
  generalize hK : execs kls fd101.body.tail { Φ := callF kls gam n } = K at last
  simp only [fd101, List.headD, Tp.d, List.map, List.replicate, List.cons_append, List.nil_append, List.length_cons, List.length_nil, List.set_cons_zero, List.set_cons_succ, e_lit, e_loc, e_fld, e_at, e_tup, e_lst, e_dct, e_bin, e_neg, e_cmp, e_cmp2, e_sub, e_slc, e_rev, e_bi, e_bi2, e_isi, e_call, l_nil, l_cons, a_nil, a_cons, e_and, e_or, e_not, e_ite, brl_t, brl_f, fls, trs, x_nm, x_ret0, x_ret, x_setI, xc_cons, xc_nil, x_if, sq_nx, sq_ret, sq_ex, sq_cont, pkB2, pkB, rp, qe, slot0, slotS, un_ow1, un_int, un_bl, un_str, un_tup, un_lst, un_scr, un_non, un_ins, un_dct, un_exc, ow_own, ow_int, ow_bl, ow_str, ow_tup, ow_lst, ow_scr, ow_non, ow_ins, ow_dct, ow_exc, plain,  ↓to_bnd, bnd_ok, bnd_ex, R.of_some, it0, it1, it2, it3, it4, tt0, tt1, tt2, Option.map_some, olOf, isOL, Option.isSome, Bool.false_eq_true, if_false, if_true, cv_eq, cv_lt, brl_d, b_len]
  have l0 := last t none
  by_cases h : t.dig = 0
  · simp only [h, e_lit, e_loc, e_fld, e_at, e_tup, e_lst, e_dct, e_bin, e_neg, e_cmp, e_cmp2, e_sub, e_slc, e_rev, e_bi, e_bi2, e_isi, e_call, l_nil, l_cons, a_nil, a_cons, e_and, e_or, e_not, e_ite, brl_t, brl_f, fls, trs, x_nm, x_ret0, x_ret, x_setI, xc_cons, xc_nil, x_if, sq_nx, sq_ret, sq_ex, sq_cont, pkB2, pkB, rp, qe, slot0, slotS, un_ow1, un_int, un_bl, un_str, un_tup, un_lst, un_scr, un_non, un_ins, un_dct, un_exc, ow_own, ow_int, ow_bl, ow_str, ow_tup, ow_lst, ow_scr, ow_non, ow_ins, ow_dct, ow_exc, plain,  ↓to_bnd, bnd_ok, bnd_ex, R.of_some, it0, it1, it2, it3, it4, tt0, tt1, tt2, Option.map_some, olOf, isOL, Option.isSome, Bool.false_eq_true, if_false, if_true, List.map, List.replicate, List.cons_append, List.nil_append, List.length_cons, List.length_nil, List.set_cons_zero, List.set_cons_succ, brl_d, List.length_map]
    by_cases h2 : t.at_ < t.cells.length
    · have e : itemD (.lst (t.cells.map .int)) (.int t.at_) = some (.int t.cells[t.at_]) := by
        simp only [itemD, List.length_map, ixN_lit _ _ h2]
        simp [h2]
      simp only [Int.ofNat_lt.2 h2, e_lit, e_loc, e_fld, e_at, e_tup, e_lst, e_dct, e_bin, e_neg, e_cmp, e_cmp2, e_sub, e_slc, e_rev, e_bi, e_bi2, e_isi, e_call, l_nil, l_cons, a_nil, a_cons, e_and, e_or, e_not, e_ite, brl_t, brl_f, fls, trs, x_nm, x_ret0, x_ret, x_setI, xc_cons, xc_nil, x_if, sq_nx, sq_ret, sq_ex, sq_cont, pkB2, pkB, rp, qe, slot0, slotS, un_ow1, un_int, un_bl, un_str, un_tup, un_lst, un_scr, un_non, un_ins, un_dct, un_exc, ow_own, ow_int, ow_bl, ow_str, ow_tup, ow_lst, ow_scr, ow_non, ow_ins, ow_dct, ow_exc, plain,  ↓to_bnd, bnd_ok, bnd_ex, R.of_some, it0, it1, it2, it3, it4, tt0, tt1, tt2, Option.map_some, olOf, isOL, Option.isSome, Bool.false_eq_true, if_false, if_true, List.map, List.replicate, List.cons_append, List.nil_append, List.length_cons, List.length_nil, List.set_cons_zero, List.set_cons_succ, e, bop_add, bop_mulR _ 69621 (by decide), bop_mod _ 2147483629 (by decide), b_int, ix51, ix52, ix53, Nat.reduceAdd, Nat.reduceLT, cv_ge, brl_d, bop_pow10 18 (by decide) (by decide)]
      by_cases h3 : (10 : Int) ^ (18 : Int).toNat ≤ t.cells[t.at_]
      · simp only [h3, e_lit, e_loc, e_fld, e_at, e_tup, e_lst, e_dct, e_bin, e_neg, e_cmp, e_cmp2, e_sub, e_slc, e_rev, e_bi, e_bi2, e_isi, e_call, l_nil, l_cons, a_nil, a_cons, e_and, e_or, e_not, e_ite, brl_t, brl_f, fls, trs, x_nm, x_ret0, x_ret, x_setI, xc_cons, xc_nil, x_if, sq_nx, sq_ret, sq_ex, sq_cont, pkB2, pkB, rp, qe, slot0, slotS, un_ow1, un_int, un_bl, un_str, un_tup, un_lst, un_scr, un_non, un_ins, un_dct, un_exc, ow_own, ow_int, ow_bl, ow_str, ow_tup, ow_lst, ow_scr, ow_non, ow_ins, ow_dct, ow_exc, plain,  ↓to_bnd, bnd_ok, bnd_ex, R.of_some, it0, it1, it2, it3, it4, tt0, tt1, tt2, Option.map_some, olOf, isOL, Option.isSome, Bool.false_eq_true, if_false, if_true, List.map, List.replicate, List.cons_append, List.nil_append, List.length_cons, List.length_nil, List.set_cons_zero, List.set_cons_succ, ix52, Nat.reduceAdd]
        exact last { t with at_ := t.at_ + 1, num := _, dig := _ } _
      · simp only [h3, e_lit, e_loc, e_fld, e_at, e_tup, e_lst, e_dct, e_bin, e_neg, e_cmp, e_cmp2, e_sub, e_slc, e_rev, e_bi, e_bi2, e_isi, e_call, l_nil, l_cons, a_nil, a_cons, e_and, e_or, e_not, e_ite, brl_t, brl_f, fls, trs, x_nm, x_ret0, x_ret, x_setI, xc_cons, xc_nil, x_if, sq_nx, sq_ret, sq_ex, sq_cont, pkB2, pkB, rp, qe, slot0, slotS, un_ow1, un_int, un_bl, un_str, un_tup, un_lst, un_scr, un_non, un_ins, un_dct, un_exc, ow_own, ow_int, ow_bl, ow_str, ow_tup, ow_lst, ow_scr, ow_non, ow_ins, ow_dct, ow_exc, plain,  ↓to_bnd, bnd_ok, bnd_ex, R.of_some, it0, it1, it2, it3, it4, tt0, tt1, tt2, Option.map_some, olOf, isOL, Option.isSome, Bool.false_eq_true, if_false, if_true, List.map, List.replicate, List.cons_append, List.nil_append, List.length_cons, List.length_nil, List.set_cons_zero, List.set_cons_succ, ← h]
        exact last { t with at_ := t.at_ + 1, num := _ } _
    · simp only [show ¬ (t.at_ : Int) < t.cells.length by omega, e_lit, e_loc, e_fld, e_at, e_tup, e_lst, e_dct, e_bin, e_neg, e_cmp, e_cmp2, e_sub, e_slc, e_rev, e_bi, e_bi2, e_isi, e_call, l_nil, l_cons, a_nil, a_cons, e_and, e_or, e_not, e_ite, brl_t, brl_f, fls, trs, x_nm, x_ret0, x_ret, x_setI, xc_cons, xc_nil, x_if, sq_nx, sq_ret, sq_ex, sq_cont, pkB2, pkB, rp, qe, slot0, slotS, un_ow1, un_int, un_bl, un_str, un_tup, un_lst, un_scr, un_non, un_ins, un_dct, un_exc, ow_own, ow_int, ow_bl, ow_str, ow_tup, ow_lst, ow_scr, ow_non, ow_ins, ow_dct, ow_exc, plain,  ↓to_bnd, bnd_ok, bnd_ex, R.of_some, it0, it1, it2, it3, it4, tt0, tt1, tt2, Option.map_some, olOf, isOL, Option.isSome, Bool.false_eq_true, if_false, if_true, ← h]
      exact l0
  · simp only [h, e_lit, e_loc, e_fld, e_at, e_tup, e_lst, e_dct, e_bin, e_neg, e_cmp, e_cmp2, e_sub, e_slc, e_rev, e_bi, e_bi2, e_isi, e_call, l_nil, l_cons, a_nil, a_cons, e_and, e_or, e_not, e_ite, brl_t, brl_f, fls, trs, x_nm, x_ret0, x_ret, x_setI, xc_cons, xc_nil, x_if, sq_nx, sq_ret, sq_ex, sq_cont, pkB2, pkB, rp, qe, slot0, slotS, un_ow1, un_int, un_bl, un_str, un_tup, un_lst, un_scr, un_non, un_ins, un_dct, un_exc, ow_own, ow_int, ow_bl, ow_str, ow_tup, ow_lst, ow_scr, ow_non, ow_ins, ow_dct, ow_exc, plain,  ↓to_bnd, bnd_ok, bnd_ex, R.of_some, it0, it1, it2, it3, it4, tt0, tt1, tt2, Option.map_some, olOf, isOL, Option.isSome, Bool.false_eq_true, if_false, if_true]
    exact l0
end Vm

/-! #### part P02 -/
namespace Vm
open PySem
/-! what repr tells of small data -/
def txOk (k : Nat) (s : Str) : Prop := s.length ≤ k ∧ PyData.strOk s = true
theorem strOk_app (a b : Str) : PyData.strOk (a ++ b) = (PyData.strOk a && PyData.strOk b) := by
  show (Array.all (a.cps ++ b.cps) _) = _
  simp [PyData.strOk, Array.all_append]
theorem txOk.app {k l : Nat} {a b : Str} (h : txOk k a) (h2 : txOk l b) : txOk (k + l) (a ++ b) := ⟨by rw [strLen_append]; exact Nat.add_le_add h.1 h2.1, by rw [strOk_app, h.2, h2.2]; rfl⟩
theorem txOk.le {k l : Nat} {a : Str} (h : txOk k a) (h2 : k ≤ l) : txOk l a := ⟨Nat.le_trans h.1 h2, h.2⟩
theorem txOk_of (s : String) (k : Nat) (h : (Str.ofString s).length ≤ k) : txOk k (Str.ofString s) := by
  refine ⟨h, ?_⟩
  rw [Str.ofString_eq_toList]
  simp only [PyData.strOk, List.all_toArray, List.all_map, List.all_eq_true, Function.comp]
  intro c _
  have := c.valid
  simp only [UInt32.isValidChar, Nat.isValidChar] at this
  have e : c.toNat = c.val.toNat := rfl
  simp only [decide_eq_true_eq, e]
  omega
mutual
def wt : D → Nat
  | .int _ => 1921
  | .tup xs | .lst xs => wtL xs + 3
  | _ => 20
def wtL : List D → Nat
  | [] => 0
  | x :: xs => wt x + 2 + wtL xs
end
mutual
def okD : D → Bool
  | .non | .bl _ => true
  | .int i => decide (i.natAbs.log2 < 1920)
  | .str s => PyData.strOk (reprText s) && (PyData.strOk s && decide ((reprText s).length ≤ 20))
  | .tup xs | .lst xs => okDL xs
  | .dct [] [] => true
  | _ => false
def okDL : List D → Bool
  | [] => true
  | x :: xs => okD x && okDL xs
end
theorem join_ok : ∀ (ts : List Str) (_ : ∀ t ∈ ts, PyData.strOk t = true), PyData.strOk (Str.join ", " ts) = true
  | [], _ => by decide +kernel
  | [x], h => h x (by simp)
  | x :: y :: r, h => by
    show PyData.strOk (x ++ ", " ++ Str.join ", " (y :: r)) = true
    rw [strOk_app, strOk_app, h x (by simp), join_ok (y :: r) fun t ht => h t (by simp [ht])]
    decide +kernel
theorem from_ok : ∀ (ts : List Str) (j : Nat) (acc : Str) (_ : PyData.strOk acc = true) (_ : ∀ t ∈ ts, PyData.strOk t = true), PyData.strOk (textFrom j acc ts) = true
  | [], _, _, h, _ => h
  | t :: r, j, acc, h, h2 => by
    refine from_ok r (j + 1) _ ?_ fun t ht => h2 t (by simp [ht])
    rw [strOk_app, strOk_app, h, h2 t (by simp)]
    by_cases hj : j > 0
    · rw [if_pos hj]; decide +kernel
    · rw [if_neg hj]; decide +kernel
theorem piled_le {l : List Str} : ∀ (xs : List D) (_ : l.length = xs.length) (_ : ∀ p ∈ l.zip xs, p.1.length ≤ wt p.2), piled l ≤ wtL xs := by
  induction l with
  | nil => intro xs h _; simp [piled]
  | cons t l ih =>
    intro xs h h2
    cases xs with
    | nil => simp at h
    | cons x xs =>
      have := ih xs (by simpa using h) fun p hp => h2 p (by simp [hp])
      have h3 := h2 (t, x) (by simp)
      rw [piled_cons, wtL]
      simp only at h3
      omega
theorem tupT_ok {ts : List Str} {k : Nat} (h : ∀ t ∈ ts, PyData.strOk t = true) (hk : piled ts ≤ k) : txOk (k + 3) (tupleText ts) := by
  refine ⟨?_, ?_⟩
  · unfold tupleText
    rw [strLen_append, strLen_append]
    have e1 : ((("(" : String) : Str)).length = 1 := by decide +kernel
    have e3 : (((if ts.length == 1 then ",)" else ")" : String) : Str)).length ≤ 2 := by split <;> decide +kernel
    have e4 : (Str.join ", " ts).length ≤ k := by
      by_cases hn : ts = []
      · subst hn; exact Nat.zero_le _
      · have := join_length_add ts hn; omega
    rw [e1]; omega
  · unfold tupleText
    rw [strOk_app, strOk_app, join_ok ts h]
    split <;> decide +kernel
theorem lstT_ok {ts : List Str} {k : Nat} (h : ∀ t ∈ ts, PyData.strOk t = true) (hk : piled ts ≤ k) : txOk (k + 3) (listText ts) := by
  refine ⟨?_, ?_⟩
  · unfold listText
    rw [strLen_append]
    have e1 : ((("]" : String) : Str)).length = 1 := by decide +kernel
    rw [e1]
    cases ts with
    | nil => have : (textFrom 0 "[" []).length = 1 := (by decide +kernel); omega
    | cons t r =>
      have hY : (textFrom 0 "[" (t :: r)).length = (textFrom 1 (("[" : Str) ++ (if (0 : Nat) > 0 then ", " else "" : String) ++ t) r).length := rfl
      rw [hY, textFrom_length_pos _ _ _ (by decide), strLen_append, strLen_append]
      have e2 : ((("[" : String) : Str)).length = 1 := by decide +kernel
      have e3 : ((((if (0 : Nat) > 0 then ", " else "" : String)) : Str)).length = 0 := by decide +kernel
      rw [e2, e3]
      rw [piled_cons] at hk
      omega
  · unfold listText
    rw [strOk_app, from_ok ts 0 _ (by decide +kernel) h]
    decide +kernel
mutual
theorem shown_ok : ∀ d : D, okD d = true → txOk (wt d) d.py.shown ∧ d.py.showable = true ∧ d.isData true = true
  | .non, _ => ⟨⟨by decide +kernel, by decide +kernel⟩, by decide +kernel, by decide +kernel⟩
  | .bl true, _ => ⟨⟨by decide +kernel, by decide +kernel⟩, by decide +kernel, by decide +kernel⟩
  | .bl false, _ => ⟨⟨by decide +kernel, by decide +kernel⟩, by decide +kernel, by decide +kernel⟩
  | .int i, h => by
    have h' : i.natAbs.log2 < 1920 := by simpa [okD] using h
    exact ⟨txOk_of (toString i) _ (by rw [PySem.ofString_length]; exact PySem.int_text_length_le (k := 1920) (by decide) h'), by simp [D.py, PyData.showable, h'], rfl⟩
  | .str s, h => by
    simp only [okD, Bool.and_eq_true, decide_eq_true_eq] at h
    exact ⟨⟨h.2.2, h.1⟩, by simp [D.py, PyData.showable], rfl⟩
  | .tup xs, h => by
    have h' := shownL_ok xs (by simpa [okD] using h)
    exact ⟨tupT_ok h'.2.1 h'.1, by simpa [D.py, PyData.showable] using h'.2.2.1, by simpa [D.isData] using h'.2.2.2⟩
  | .lst xs, h => by
    have h' := shownL_ok xs (by simpa [okD] using h)
    exact ⟨lstT_ok h'.2.1 h'.1, by simpa [D.py, PyData.showable] using h'.2.2.1, by simpa [D.isData] using h'.2.2.2⟩
  | .dct [] [], _ => ⟨⟨by decide +kernel, by decide +kernel⟩, by decide +kernel, by decide +kernel⟩
  | .dct (_ :: _) _, h => by simp [okD] at h
  | .dct [] (_ :: _), h => by simp [okD] at h
  | .lsto _, h => by simp [okD] at h
  | .scr _, h => by simp [okD] at h
  | .ins _ _ _, h => by simp [okD] at h
  | .exc _ _, h => by simp [okD] at h
  | .fn _, h => by simp [okD] at h
  | .clo _ _ _, h => by simp [okD] at h
  | .own _, h => by simp [okD] at h
theorem shownL_ok : ∀ xs : List D, okDL xs = true → piled (PyData.shownAll (pyL xs)) ≤ wtL xs ∧ (∀ t ∈ PyData.shownAll (pyL xs), PyData.strOk t = true) ∧ PyData.showableAll (pyL xs) = true ∧ dataL true xs = true
  | [], _ => ⟨Nat.le_refl 0, (fun _ h => nomatch h), rfl, rfl⟩
  | x :: xs, h => by
    simp only [okDL, Bool.and_eq_true] at h
    have h1 := shown_ok x h.1
    have h2 := shownL_ok xs h.2
    refine ⟨?_, ?_, ?_, ?_⟩
    · show piled (x.py.shown :: PyData.shownAll (pyL xs)) ≤ _
      rw [piled_cons, wtL]
      have := h1.1.1
      omega
    · intro t ht
      rcases List.mem_cons.1 ht with rfl | ht
      · exact h1.1.2
      · exact h2.2.1 t ht
    · simp only [pyL, PyData.showableAll, h1.2.1, h2.2.2.1, Bool.and_self]
    · simp only [dataL, h1.2.2, h2.2.2.2, Bool.and_self]
end
/-- repr tells the text -/
theorem reprD_ok {d : D} (h : okD d = true) (hw : wt d ≤ line) (hd : d.py.depth ≤ 60) (hx : (!d.py.hasDict || noLst d) = true) : reprD d = some d.py.shown := by
  have h' := shown_ok d h
  simp only [reprD, h'.2.2, h'.2.1, hd, Nat.le_trans h'.1.1 hw, hx, decide_true, Bool.and_self, if_true]
theorem eqOk_str {s : Str} (h : PyData.strOk s = true) : eqOk (.str s) = true := by
  simp [eqOk, D.isData, D.py, PyData.canLay0, h, PyData.depth]
theorem eqD_self {s : Str} (h : PyData.strOk s = true) : eqD (.str s) (.str s) = some true := by
  simp [eqD, eqOk_str h, D.py, PyData.eqv]
end Vm

/-! #### part P03 -/
namespace Vm
open PySem
theorem call_eq' {f : Nat} {args : List D} {fd : FD} {n : Nat} (hn : 1 ≤ n) (h : gam f = some fd) (hl : args.length = fd.np) : callF kls gam n f args = fin fd.keep (execs kls fd.body { Φ := callF kls gam (n - 1) } (args.map some ++ List.replicate (fd.ns - fd.np) none)) := by
  obtain ⟨m, rfl⟩ : ∃ m, n = m + 1 := ⟨n - 1, by omega⟩
  exact call_eq m h hl
/-- a value that is no owner and of a kind -/
def pl (d : D) : Bool := !d.isOwn && (kdOf d).isSome
def isI : D → Bool
  | .int _ => true
  | _ => false
def inR (a b : Int) : D → Bool
  | .int i => decide (a ≤ i) && decide (i ≤ b)
  | _ => false
theorem c_isint {n : Nat} (hn : 1 ≤ n) (d : D) (h : pl d = true) : callF kls gam n 0 [d] = .ok (.bl (isI d)) [some d] := by
  rw [call_eq' hn (fd := fd0) rfl rfl]
  simp only [pl, Bool.and_eq_true] at h
  cases d <;> first | (simp [D.isOwn] at h; done) | (simp [kdOf] at h; done) | skip
  all_goals simp only [fd0, List.map, List.replicate, List.cons_append, List.nil_append, List.length_cons, List.length_nil, List.set_cons_zero, List.set_cons_succ, e_lit, e_loc, e_fld, e_at, e_tup, e_lst, e_dct, e_bin, e_neg, e_cmp, e_cmp2, e_sub, e_slc, e_rev, e_bi, e_bi2, e_isi, e_call, l_nil, l_cons, a_nil, a_cons, e_and, e_or, e_not, e_ite, brl_t, brl_f, fls, trs, x_nm, x_ret0, x_ret, x_setI, xc_cons, xc_nil, x_if, sq_nx, sq_ret, sq_ex, sq_cont, pkB2, pkB, rp, qe, slot0, slotS, un_ow1, un_int, un_bl, un_str, un_tup, un_lst, un_scr, un_non, un_ins, un_dct, un_exc, ow_own, ow_int, ow_bl, ow_str, ow_tup, ow_lst, ow_scr, ow_non, ow_ins, ow_dct, ow_exc, plain,  ↓to_bnd, bnd_ok, bnd_ex, R.of_some, it0, it1, it2, it3, it4, tt0, tt1, tt2, Option.map_some, olOf, isOL, Option.isSome, Bool.false_eq_true, if_false, if_true, isAny, isTy, kdOf, isKd, Bool.or_false, fin_ret, outsOf, isI]
theorem cop_le (i j : Int) : cop .le (.int i) (.int j) = some (.bl (decide (i ≤ j))) := Eq.trans rfl rfl
theorem cop_lt (i j : Int) : cop .lt (.int i) (.int j) = some (.bl (decide (i < j))) := Eq.trans rfl rfl
theorem c_from {n : Nat} (hn : 2 ≤ n) (d : D) (h : pl d = true) (a b : Int) : callF kls gam n 1 [d, .int a, .int b] = .ok (.bl (inR a b d)) [some d, some (.int a), some (.int b)] := by
  rw [call_eq' (by omega) (fd := fd1) rfl rfl]
  have hc := c_isint (n := n - 1) (by omega) d h
  simp only [pl, Bool.and_eq_true] at h
  cases d <;> first | (simp [D.isOwn] at h; done) | (simp [kdOf] at h; done) | skip
  all_goals simp only [fd1, List.map, List.replicate, List.cons_append, List.nil_append, List.length_cons, List.length_nil, List.set_cons_zero, List.set_cons_succ, e_lit, e_loc, e_fld, e_at, e_tup, e_lst, e_dct, e_bin, e_neg, e_cmp, e_cmp2, e_sub, e_slc, e_rev, e_bi, e_bi2, e_isi, e_call, l_nil, l_cons, a_nil, a_cons, e_and, e_or, e_not, e_ite, brl_t, brl_f, fls, trs, x_nm, x_ret0, x_ret, x_setI, xc_cons, xc_nil, x_if, sq_nx, sq_ret, sq_ex, sq_cont, pkB2, pkB, rp, qe, slot0, slotS, un_ow1, un_int, un_bl, un_str, un_tup, un_lst, un_scr, un_non, un_ins, un_dct, un_exc, ow_own, ow_int, ow_bl, ow_str, ow_tup, ow_lst, ow_scr, ow_non, ow_ins, ow_dct, ow_exc, plain,  ↓to_bnd, bnd_ok, bnd_ex, R.of_some, it0, it1, it2, it3, it4, tt0, tt1, tt2, Option.map_some, olOf, isOL, Option.isSome, Bool.false_eq_true, if_false, if_true, calls, grab, back, recvOf, List.getElem?_cons_zero, List.getElem?_cons_succ, hc, isI, fin_ret, outsOf, inR, cop_le]
  rename_i i
  by_cases h1 : a ≤ i
  · simp only [h1, decide_true, e_lit, e_loc, e_fld, e_at, e_tup, e_lst, e_dct, e_bin, e_neg, e_cmp, e_cmp2, e_sub, e_slc, e_rev, e_bi, e_bi2, e_isi, e_call, l_nil, l_cons, a_nil, a_cons, e_and, e_or, e_not, e_ite, brl_t, brl_f, fls, trs, x_nm, x_ret0, x_ret, x_setI, xc_cons, xc_nil, x_if, sq_nx, sq_ret, sq_ex, sq_cont, pkB2, pkB, rp, qe, slot0, slotS, un_ow1, un_int, un_bl, un_str, un_tup, un_lst, un_scr, un_non, un_ins, un_dct, un_exc, ow_own, ow_int, ow_bl, ow_str, ow_tup, ow_lst, ow_scr, ow_non, ow_ins, ow_dct, ow_exc, plain,  ↓to_bnd, bnd_ok, bnd_ex, R.of_some, it0, it1, it2, it3, it4, tt0, tt1, tt2, Option.map_some, olOf, isOL, Option.isSome, Bool.false_eq_true, if_false, if_true, cop_le, fin_ret, outsOf, List.map, List.replicate, List.cons_append, List.nil_append, List.length_cons, List.length_nil, List.set_cons_zero, List.set_cons_succ, Bool.true_and]
  · simp only [h1, decide_false, e_lit, e_loc, e_fld, e_at, e_tup, e_lst, e_dct, e_bin, e_neg, e_cmp, e_cmp2, e_sub, e_slc, e_rev, e_bi, e_bi2, e_isi, e_call, l_nil, l_cons, a_nil, a_cons, e_and, e_or, e_not, e_ite, brl_t, brl_f, fls, trs, x_nm, x_ret0, x_ret, x_setI, xc_cons, xc_nil, x_if, sq_nx, sq_ret, sq_ex, sq_cont, pkB2, pkB, rp, qe, slot0, slotS, un_ow1, un_int, un_bl, un_str, un_tup, un_lst, un_scr, un_non, un_ins, un_dct, un_exc, ow_own, ow_int, ow_bl, ow_str, ow_tup, ow_lst, ow_scr, ow_non, ow_ins, ow_dct, ow_exc, plain,  ↓to_bnd, bnd_ok, bnd_ex, R.of_some, it0, it1, it2, it3, it4, tt0, tt1, tt2, Option.map_some, olOf, isOL, Option.isSome, Bool.false_eq_true, if_false, if_true, cop_le, fin_ret, outsOf, List.map, List.replicate, List.cons_append, List.nil_append, List.length_cons, List.length_nil, List.set_cons_zero, List.set_cons_succ, Bool.false_and]
end Vm

/-! #### part P04 -/
namespace Vm
open PySem
theorem c_num {n : Nat} (hn : 1 ≤ n) (d : D) (h : pl d = true) (a b : Int) : callF kls gam n 107 [d, .int a, .int b] = .ok (.bl (inR a (b - 1) d)) [some d, some (.int a), some (.int b)] := by
  rw [call_eq' (by omega) (fd := fd107) rfl rfl]
  simp only [pl, Bool.and_eq_true] at h
  cases d <;> first | (simp [D.isOwn] at h; done) | (simp [kdOf] at h; done) | skip
  all_goals simp only [fd107, List.map, List.replicate, List.cons_append, List.nil_append, List.length_cons, List.length_nil, List.set_cons_zero, List.set_cons_succ, e_lit, e_loc, e_fld, e_at, e_tup, e_lst, e_dct, e_bin, e_neg, e_cmp, e_cmp2, e_sub, e_slc, e_rev, e_bi, e_bi2, e_isi, e_call, l_nil, l_cons, a_nil, a_cons, e_and, e_or, e_not, e_ite, brl_t, brl_f, fls, trs, x_nm, x_ret0, x_ret, x_setI, xc_cons, xc_nil, x_if, sq_nx, sq_ret, sq_ex, sq_cont, pkB2, pkB, rp, qe, slot0, slotS, un_ow1, un_int, un_bl, un_str, un_tup, un_lst, un_scr, un_non, un_ins, un_dct, un_exc, ow_own, ow_int, ow_bl, ow_str, ow_tup, ow_lst, ow_scr, ow_non, ow_ins, ow_dct, ow_exc, plain,  ↓to_bnd, bnd_ok, bnd_ex, R.of_some, it0, it1, it2, it3, it4, tt0, tt1, tt2, Option.map_some, olOf, isOL, Option.isSome, Bool.false_eq_true, if_false, if_true, calls, grab, back, recvOf, List.getElem?_cons_zero, List.getElem?_cons_succ, isAny, isTy, kdOf, isKd, Bool.or_false, fin_ret, outsOf, inR, cop_le]
  rename_i i
  have e : decide (i ≤ b - 1) = decide (i < b) := by
    by_cases h : i < b
    · rw [decide_eq_true h, decide_eq_true (by omega)]
    · rw [decide_eq_false h, decide_eq_false (by omega)]
  by_cases h1 : a ≤ i
  · simp only [h1, e, decide_true, e_lit, e_loc, e_fld, e_at, e_tup, e_lst, e_dct, e_bin, e_neg, e_cmp, e_cmp2, e_sub, e_slc, e_rev, e_bi, e_bi2, e_isi, e_call, l_nil, l_cons, a_nil, a_cons, e_and, e_or, e_not, e_ite, brl_t, brl_f, fls, trs, x_nm, x_ret0, x_ret, x_setI, xc_cons, xc_nil, x_if, sq_nx, sq_ret, sq_ex, sq_cont, pkB2, pkB, rp, qe, slot0, slotS, un_ow1, un_int, un_bl, un_str, un_tup, un_lst, un_scr, un_non, un_ins, un_dct, un_exc, ow_own, ow_int, ow_bl, ow_str, ow_tup, ow_lst, ow_scr, ow_non, ow_ins, ow_dct, ow_exc, plain,  ↓to_bnd, bnd_ok, bnd_ex, R.of_some, it0, it1, it2, it3, it4, tt0, tt1, tt2, Option.map_some, olOf, isOL, Option.isSome, Bool.false_eq_true, if_false, if_true, cop_lt, fin_ret, outsOf, List.map, List.replicate, List.cons_append, List.nil_append, List.length_cons, List.length_nil, List.set_cons_zero, List.set_cons_succ, Bool.true_and]
  · simp only [h1, decide_false, e_lit, e_loc, e_fld, e_at, e_tup, e_lst, e_dct, e_bin, e_neg, e_cmp, e_cmp2, e_sub, e_slc, e_rev, e_bi, e_bi2, e_isi, e_call, l_nil, l_cons, a_nil, a_cons, e_and, e_or, e_not, e_ite, brl_t, brl_f, fls, trs, x_nm, x_ret0, x_ret, x_setI, xc_cons, xc_nil, x_if, sq_nx, sq_ret, sq_ex, sq_cont, pkB2, pkB, rp, qe, slot0, slotS, un_ow1, un_int, un_bl, un_str, un_tup, un_lst, un_scr, un_non, un_ins, un_dct, un_exc, ow_own, ow_int, ow_bl, ow_str, ow_tup, ow_lst, ow_scr, ow_non, ow_ins, ow_dct, ow_exc, plain,  ↓to_bnd, bnd_ok, bnd_ex, R.of_some, it0, it1, it2, it3, it4, tt0, tt1, tt2, Option.map_some, olOf, isOL, Option.isSome, Bool.false_eq_true, if_false, if_true, cop_lt, fin_ret, outsOf, List.map, List.replicate, List.cons_append, List.nil_append, List.length_cons, List.length_nil, List.set_cons_zero, List.set_cons_succ, Bool.false_and]
/-! ### loops -/
theorem forGo_ok {tg : Tg} {body : Env → R Fl} (P : List D → Env → Prop) (h : ∀ x xs ρ, P (x :: xs) ρ → ∃ ρ1 ρ2, bindT tg x ρ = some ρ1 ∧ body ρ1 = .ok .nx ρ2 ∧ P xs ρ2) : ∀ (xs : List D) (ρ : Env), P xs ρ → ∃ ρ', forGo tg body xs ρ = .ok .nx ρ' ∧ P [] ρ'
  | [], ρ, hp => ⟨ρ, rfl, hp⟩
  | x :: xs, ρ, hp => by
    obtain ⟨ρ1, ρ2, e1, e2, hp2⟩ := h x xs ρ hp
    obtain ⟨ρ', e3, hp3⟩ := forGo_ok P h xs ρ2 hp2
    refine ⟨ρ', ?_, hp3⟩
    simp only [forGo, e1, e2, e3]
theorem compGo_ok {step : D → Env → R (Option D)} (P : List D → List D → Env → Prop) (h : ∀ x xs acc ρ, P (x :: xs) acc ρ → ∃ y ρ1, step x ρ = .ok (some y) ρ1 ∧ P xs (acc ++ [y]) ρ1) : ∀ (xs acc : List D) (ρ : Env), acc.length + xs.length ≤ line → P xs acc ρ → ∃ ys ρ', compGo step xs ρ acc = .ok ys ρ' ∧ P [] ys ρ'
  | [], acc, ρ, _, hp => ⟨acc, ρ, rfl, hp⟩
  | x :: xs, acc, ρ, hl, hp => by
    obtain ⟨y, ρ1, e1, hp2⟩ := h x xs acc ρ hp
    obtain ⟨ys, ρ', e3, hp3⟩ := compGo_ok P h xs (acc ++ [y]) ρ1 (by simp at hl ⊢; omega) hp2
    refine ⟨ys, ρ', ?_, hp3⟩
    have : acc.length < line := by simp at hl; omega
    simp only [compGo, e1, this, if_true, e3]
theorem whGo_ok {c : Env → R D} {body : Env → R Fl} {Q : Env → Prop} (P : Nat → Env → Prop) (h : ∀ k ρ, P k ρ → (∃ ρ1, c ρ = .ok (.bl false) ρ1 ∧ Q ρ1) ∨ ∃ ρ1 ρ2 j, c ρ = .ok (.bl true) ρ1 ∧ body ρ1 = .ok .nx ρ2 ∧ j < k ∧ P j ρ2) : ∀ (n k : Nat) (ρ : Env), P k ρ → k < n → ∃ ρ', whGo c body n ρ = .ok .nx ρ' ∧ Q ρ'
  | 0, _, _, _, hk => absurd hk (by omega)
  | n + 1, k, ρ, hp, hk => by
    rcases h k ρ hp with ⟨ρ1, e, q⟩ | ⟨ρ1, ρ2, j, e1, e2, hj, hp2⟩
    · exact ⟨ρ1, by simp only [whGo, e, R.bind_ok], q⟩
    · obtain ⟨ρ', e3, q⟩ := whGo_ok P h n j ρ2 hp2 (by omega)
      exact ⟨ρ', by simp only [whGo, e1, R.bind_ok, e2, e3], q⟩
section
variable (C : Cf) (ρ : Env)
theorem x_for (tg it b) : exec kls (.for_ tg it b) C ρ = (evI kls C it ρ).bind fun xs ρ1 => forGo tg (execs kls b C) xs ρ1 := by simp only [exec]
theorem x_while (c b) : exec kls (.while_ c b) C ρ = whGo (ev kls C c) (execs kls b C) fuel ρ := by simp only [exec]
theorem x_ex (e) : exec kls (.ex e) C ρ = (ev kls C e ρ).bind fun _ ρ1 => .ok .nx ρ1 := by simp only [exec]
theorem i_rng (es) : evI kls C (.rng es) ρ = (evL kls C es ρ).bind fun ds ρ1 => R.of (rngOf ds) ρ1 := Eq.trans rfl rfl
theorem i_seq (e) : evI kls C (.seq e) ρ = (ev kls C e ρ).bind fun d ρ1 => R.of ((itemsI d).map fun xs => xs.map D.un) ρ1 := Eq.trans rfl rfl
end
theorem rng1 {j : Int} (h : 0 ≤ j) (h2 : j ≤ 1000) : rngOf [.int j] = some (rangeD 0 j.toNat) := by
  have : small62 j = true := by simp [small62]; omega
  simp only [rngOf, this, if_true]
theorem rng2 {i j : Int} (h : -1000 ≤ i) (h2 : i ≤ 1000) (h3 : -1000 ≤ j) (h4 : j ≤ 1000) : rngOf [.int i, .int j] = some (rangeD i (j - i).toNat) := by
  have e1 : small62 i = true := by simp [small62]; omega
  have e2 : small62 j = true := by simp [small62]; omega
  simp only [rngOf, e1, e2, Bool.and_self, if_true]
end Vm

/-! #### part P05 -/
namespace Vm
open PySem
/-! ### choices -/
def choF (p : Int) : Int → Nat → Int → Int
  | _, 0, f => f
  | lo, k + 1, f => choF p (lo + 1) k (f * (p - lo) / (lo + 1))
/-- of p persons s -/
def cho (p s : Int) : Int := choF p 0 s.toNat 1
theorem cho_ok : ∀ p s : Int, p ≤ 9 → 0 ≤ s → s ≤ p → 1 ≤ cho p s ∧ cho p s ≤ 126 := by
  have h : ∀ p : _root_.Fin 10, ∀ s : _root_.Fin 10, s ≤ p → 1 ≤ cho ((p : Nat) : Int) ((s : Nat) : Int) ∧ cho ((p : Nat) : Int) ((s : Nat) : Int) ≤ 126 := by decide +kernel
  intro p s hp h0 hs
  obtain ⟨p, rfl⟩ : ∃ n : Nat, p = n := ⟨p.toNat, by omega⟩
  obtain ⟨s, rfl⟩ : ∃ n : Nat, s = n := ⟨s.toNat, by omega⟩
  exact h ⟨p, by omega⟩ ⟨s, by omega⟩ (show s ≤ p by omega)
theorem small_p {p lo : Int} (h0 : 0 ≤ p) (h : p ≤ 9) (h1 : 0 ≤ lo) (h2 : lo ≤ 9) : small64 (p - lo) = true := small_of (by omega) (by omega)
theorem cho_loop {C : Cf} {p s : Int} (h0 : 0 ≤ p) (hp : p ≤ 9) (hs : s ≤ 9) : ∀ (k : Nat) (lo : Int) (f : Int) (y : Option D), 0 ≤ lo → lo + k ≤ 9 → ∃ y', forGo (.nm 3) (execs kls [.asg (.nm 2) (.bin .fdiv (.bin .mul (.rd (.loc 2)) (.bin .sub (.rd (.loc 0)) (.rd (.loc 3)))) (.bin .add (.rd (.loc 3)) (.lit (.int 1))))] C) (rangeD lo k) [some (.int p), some (.int s), some (.int f), y] = .ok .nx [some (.int p), some (.int s), some (.int (choF p lo k f)), y']
  | 0, lo, f, y, _, _ => ⟨y, rfl⟩
  | k + 1, lo, f, y, h1, h => by
    obtain ⟨y', e⟩ := cho_loop (C := C) h0 hp hs k (lo + 1) (f * (p - lo) / (lo + 1)) (some (.int lo)) (by omega) (by omega)
    refine ⟨y', ?_⟩
    simp only [rangeD, forGo, bindT, List.map, List.replicate, List.cons_append, List.nil_append, List.length_cons, List.length_nil, List.set_cons_zero, List.set_cons_succ, Nat.reduceAdd, Nat.reduceLT, e_lit, e_loc, e_fld, e_at, e_tup, e_lst, e_dct, e_bin, e_neg, e_cmp, e_cmp2, e_sub, e_slc, e_rev, e_bi, e_bi2, e_isi, e_call, l_nil, l_cons, a_nil, a_cons, e_and, e_or, e_not, e_ite, brl_t, brl_f, fls, trs, x_nm, x_ret0, x_ret, x_setI, xc_cons, xc_nil, x_if, sq_nx, sq_ret, sq_ex, sq_cont, pkB2, pkB, rp, qe, slot0, slotS, un_ow1, un_int, un_bl, un_str, un_tup, un_lst, un_scr, un_non, un_ins, un_dct, un_exc, ow_own, ow_int, ow_bl, ow_str, ow_tup, ow_lst, ow_scr, ow_non, ow_ins, ow_dct, ow_exc, plain,  ↓to_bnd, bnd_ok, bnd_ex, R.of_some, it0, it1, it2, it3, it4, tt0, tt1, tt2, Option.map_some, olOf, isOL, Option.isSome, Bool.false_eq_true, if_false, if_true, bop_sub, bop_mulR _ _ (small_p h0 hp h1 (show lo ≤ 9 by omega)), bop_add, bop_fdiv _ (lo + 1) (by omega) (by omega), choF]
    exact e
theorem c_cho {n : Nat} (hn : 1 ≤ n) (p s : Int) (h0 : 0 ≤ p) (hp : p ≤ 9) (h1 : 0 ≤ s) (hs : s ≤ 9) : callF kls gam n 105 [.int p, .int s] = .ok (.int (cho p s)) [some (.int p), some (.int s)] := by
  rw [call_eq' (by omega) (fd := fd105) rfl rfl]
  obtain ⟨y', e⟩ := cho_loop (C := { Φ := callF kls gam (n - 1) }) h0 hp hs s.toNat 0 1 none (by omega) (by omega)
  simp only [fd105, List.map, List.replicate, List.cons_append, List.nil_append, List.length_cons, List.length_nil, List.set_cons_zero, List.set_cons_succ, e_lit, e_loc, e_fld, e_at, e_tup, e_lst, e_dct, e_bin, e_neg, e_cmp, e_cmp2, e_sub, e_slc, e_rev, e_bi, e_bi2, e_isi, e_call, l_nil, l_cons, a_nil, a_cons, e_and, e_or, e_not, e_ite, brl_t, brl_f, fls, trs, x_nm, x_ret0, x_ret, x_setI, xc_cons, xc_nil, x_if, sq_nx, sq_ret, sq_ex, sq_cont, pkB2, pkB, rp, qe, slot0, slotS, un_ow1, un_int, un_bl, un_str, un_tup, un_lst, un_scr, un_non, un_ins, un_dct, un_exc, ow_own, ow_int, ow_bl, ow_str, ow_tup, ow_lst, ow_scr, ow_non, ow_ins, ow_dct, ow_exc, plain,  ↓to_bnd, bnd_ok, bnd_ex, R.of_some, it0, it1, it2, it3, it4, tt0, tt1, tt2, Option.map_some, olOf, isOL, Option.isSome, Bool.false_eq_true, if_false, if_true, x_for, i_rng, Nat.reduceAdd, Nat.reduceLT, Nat.reduceSub, rng1 h1 (show s ≤ 1000 by omega)]
  rw [e]
  simp only [List.map, List.replicate, List.cons_append, List.nil_append, List.length_cons, List.length_nil, List.set_cons_zero, List.set_cons_succ, e_lit, e_loc, e_fld, e_at, e_tup, e_lst, e_dct, e_bin, e_neg, e_cmp, e_cmp2, e_sub, e_slc, e_rev, e_bi, e_bi2, e_isi, e_call, l_nil, l_cons, a_nil, a_cons, e_and, e_or, e_not, e_ite, brl_t, brl_f, fls, trs, x_nm, x_ret0, x_ret, x_setI, xc_cons, xc_nil, x_if, sq_nx, sq_ret, sq_ex, sq_cont, pkB2, pkB, rp, qe, slot0, slotS, un_ow1, un_int, un_bl, un_str, un_tup, un_lst, un_scr, un_non, un_ins, un_dct, un_exc, ow_own, ow_int, ow_bl, ow_str, ow_tup, ow_lst, ow_scr, ow_non, ow_ins, ow_dct, ow_exc, plain,  ↓to_bnd, bnd_ok, bnd_ex, R.of_some, it0, it1, it2, it3, it4, tt0, tt1, tt2, Option.map_some, olOf, isOL, Option.isSome, Bool.false_eq_true, if_false, if_true, fin_ret, outsOf, cho]
/-- the package's own -/
theorem c_cho3 {n : Nat} (hn : 1 ≤ n) (p s : Int) (h0 : 0 ≤ p) (hp : p ≤ 9) (h1 : 0 ≤ s) (hs : s ≤ p) : callF kls gam n 3 [.int p, .int s] = .ok (.int (cho p s)) [some (.int p), some (.int s)] := by
  rw [call_eq' (by omega) (fd := fd3) rfl rfl]
  obtain ⟨y', e⟩ := cho_loop (C := { Φ := callF kls gam (n - 1) }) h0 hp (show s ≤ 9 by omega) s.toNat 0 1 none (by omega) (by omega)
  simp only [fd3, List.map, List.replicate, List.cons_append, List.nil_append, List.length_cons, List.length_nil, List.set_cons_zero, List.set_cons_succ, e_lit, e_loc, e_fld, e_at, e_tup, e_lst, e_dct, e_bin, e_neg, e_cmp, e_cmp2, e_sub, e_slc, e_rev, e_bi, e_bi2, e_isi, e_call, l_nil, l_cons, a_nil, a_cons, e_and, e_or, e_not, e_ite, brl_t, brl_f, fls, trs, x_nm, x_ret0, x_ret, x_setI, xc_cons, xc_nil, x_if, sq_nx, sq_ret, sq_ex, sq_cont, pkB2, pkB, rp, qe, slot0, slotS, un_ow1, un_int, un_bl, un_str, un_tup, un_lst, un_scr, un_non, un_ins, un_dct, un_exc, ow_own, ow_int, ow_bl, ow_str, ow_tup, ow_lst, ow_scr, ow_non, ow_ins, ow_dct, ow_exc, plain,  ↓to_bnd, bnd_ok, bnd_ex, R.of_some, it0, it1, it2, it3, it4, tt0, tt1, tt2, Option.map_some, olOf, isOL, Option.isSome, Bool.false_eq_true, if_false, if_true, cv_lt, cv_gt, brl_d, show ¬ s < 0 by omega, show ¬ p < s by omega, x_for, i_rng, Nat.reduceAdd, Nat.reduceLT, Nat.reduceSub, rng1 h1 (show s ≤ 1000 by omega)]
  rw [e]
  simp only [List.map, List.replicate, List.cons_append, List.nil_append, List.length_cons, List.length_nil, List.set_cons_zero, List.set_cons_succ, e_lit, e_loc, e_fld, e_at, e_tup, e_lst, e_dct, e_bin, e_neg, e_cmp, e_cmp2, e_sub, e_slc, e_rev, e_bi, e_bi2, e_isi, e_call, l_nil, l_cons, a_nil, a_cons, e_and, e_or, e_not, e_ite, brl_t, brl_f, fls, trs, x_nm, x_ret0, x_ret, x_setI, xc_cons, xc_nil, x_if, sq_nx, sq_ret, sq_ex, sq_cont, pkB2, pkB, rp, qe, slot0, slotS, un_ow1, un_int, un_bl, un_str, un_tup, un_lst, un_scr, un_non, un_ins, un_dct, un_exc, ow_own, ow_int, ow_bl, ow_str, ow_tup, ow_lst, ow_scr, ow_non, ow_ins, ow_dct, ow_exc, plain,  ↓to_bnd, bnd_ok, bnd_ex, R.of_some, it0, it1, it2, it3, it4, tt0, tt1, tt2, Option.map_some, olOf, isOL, Option.isSome, Bool.false_eq_true, if_false, if_true, fin_ret, outsOf, cho]
end Vm

/-! #### part P06 -/
namespace Vm
open PySem
/-- one turn of a comprehension -/
def stepC (C : Cf) (tg : Tg) (elt : E) (vs : List Nat) (x : D) (ρ2 : Env) : R (Option D) := match bindT tg x (wipe ρ2 vs) with
  | none => .no
  | some ρ3 => (ev kls C elt ρ3).bind fun y ρ5 => .ok (some y.un) ρ5
section
variable (C : Cf) (ρ : Env)
theorem x_raise (c es) : exec kls (.raise_ c es) C ρ = (evL kls C es ρ).bind fun ds ρ1 => .ex (.exc c (ds.map D.un)) ρ1 := by simp only [exec]
theorem x_pass : exec kls .pass C ρ = .ok .nx ρ := by simp only [exec]
theorem x_setF (j f e) : exec kls (.setF (.loc j) f e) C ρ = (ev kls C e ρ).bind fun v ρ1 => match slot ρ1 j with
      | some (.own (.ins c gs vs)) => if gs.length < 1000 then .ok .nx (ρ1.set j (some (.own (.ins c (putF f v.un gs vs).1 (putF f v.un gs vs).2)))) else .no
      | _ => .no := by
  simp only [exec]
  try rfl
theorem e_comp (elt tg it vs) : ev kls C (.comp false elt tg it none vs) ρ = (evI kls C it ρ).bind fun xs ρ1 => if plainAt ρ1 vs then
      (compGo (stepC C tg elt vs) xs ρ1 []).bind fun ys ρ2 => .ok (.own (.lst ys)) (rest ρ1 ρ2 vs) else .no := by
  simp only [ev, evT, R.bind_ok, if_true, Bool.false_eq_true, if_false]
  rfl
theorem step_nm (i elt vs x) : stepC C (.nm i) elt vs x ρ = if i < (wipe ρ vs).length then (ev kls C elt ((wipe ρ vs).set i (some x))).bind fun y ρ5 => .ok (some y.un) ρ5 else .no := by
  by_cases h : i < (wipe ρ vs).length <;> simp only [stepC, bindT, h, if_true, if_false]
end
theorem c_sizes_ok {n : Nat} (hn : 3 ≤ n) (p s : Int) (h1 : 1 ≤ p) (h2 : p ≤ 9) (h3 : 1 ≤ s) (h4 : s ≤ p) : callF kls gam n 4 [.int p, .int s] = .ok .non [some (.int p), some (.int s)] := by
  rw [call_eq' (by omega) (fd := fd4) rfl rfl]
  have c1 := c_from (n := n - 1) (by omega) (.int p) rfl 1 9
  have c2 := c_from (n := n - 1) (by omega) (.int s) rfl 1 p
  simp only [fd4, List.map, List.replicate, List.cons_append, List.nil_append, List.length_cons, List.length_nil, List.set_cons_zero, List.set_cons_succ, e_lit, e_loc, e_fld, e_at, e_tup, e_lst, e_dct, e_bin, e_neg, e_cmp, e_cmp2, e_sub, e_slc, e_rev, e_bi, e_bi2, e_isi, e_call, l_nil, l_cons, a_nil, a_cons, e_and, e_or, e_not, e_ite, brl_t, brl_f, fls, trs, x_nm, x_ret0, x_ret, x_setI, xc_cons, xc_nil, x_if, sq_nx, sq_ret, sq_ex, sq_cont, pkB2, pkB, rp, qe, slot0, slotS, un_ow1, un_int, un_bl, un_str, un_tup, un_lst, un_scr, un_non, un_ins, un_dct, un_exc, ow_own, ow_int, ow_bl, ow_str, ow_tup, ow_lst, ow_scr, ow_non, ow_ins, ow_dct, ow_exc, plain,  ↓to_bnd, bnd_ok, bnd_ex, R.of_some, it0, it1, it2, it3, it4, tt0, tt1, tt2, Option.map_some, olOf, isOL, Option.isSome, Bool.false_eq_true, if_false, if_true, calls, grab, back, recvOf, List.getElem?_cons_zero, List.getElem?_cons_succ, c1, inR, h1, h2, decide_true, Bool.and_self, c2, h3, h4, fin_nx, outsOf]
theorem c_sizes_p {n : Nat} (hn : 3 ≤ n) (a b : D) (h1 : pl a = true) (hb : pl b = true) (h : inR 1 9 a = false) : callF kls gam n 4 [a, b] = .ex (.exc 1 [.str "persons"]) [some a, some b] := by
  rw [call_eq' (by omega) (fd := fd4) rfl rfl]
  have c1 := c_from (n := n - 1) (by omega) a h1 1 9
  simp only [pl, Bool.and_eq_true, Bool.not_eq_true'] at h1
  simp only [fd4, List.map, List.replicate, List.cons_append, List.nil_append, List.length_cons, List.length_nil, List.set_cons_zero, List.set_cons_succ, e_lit, e_loc, e_fld, e_at, e_tup, e_lst, e_dct, e_bin, e_neg, e_cmp, e_cmp2, e_sub, e_slc, e_rev, e_bi, e_bi2, e_isi, e_call, l_nil, l_cons, a_nil, a_cons, e_and, e_or, e_not, e_ite, brl_t, brl_f, fls, trs, x_nm, x_ret0, x_ret, x_setI, xc_cons, xc_nil, x_if, sq_nx, sq_ret, sq_ex, sq_cont, pkB2, pkB, rp, qe, slot0, slotS, un_ow1, un_int, un_bl, un_str, un_tup, un_lst, un_scr, un_non, un_ins, un_dct, un_exc, ow_own, ow_int, ow_bl, ow_str, ow_tup, ow_lst, ow_scr, ow_non, ow_ins, ow_dct, ow_exc, plain,  ↓to_bnd, bnd_ok, bnd_ex, R.of_some, it0, it1, it2, it3, it4, tt0, tt1, tt2, Option.map_some, olOf, isOL, Option.isSome, Bool.false_eq_true, if_false, if_true, calls, grab, back, recvOf, List.getElem?_cons_zero, List.getElem?_cons_succ, h1.1, c1, h, x_raise, fin_ex, outsOf]
theorem c_sizes_s {n : Nat} (hn : 3 ≤ n) (p : Int) (b : D) (h1 : 1 ≤ p) (h2 : p ≤ 9) (hb : pl b = true) (h : inR 1 p b = false) : callF kls gam n 4 [.int p, b] = .ex (.exc 1 [.str "size"]) [some (.int p), some b] := by
  rw [call_eq' (by omega) (fd := fd4) rfl rfl]
  have c1 := c_from (n := n - 1) (by omega) (.int p) rfl 1 9
  have c2 := c_from (n := n - 1) (by omega) b hb 1 p
  simp only [pl, Bool.and_eq_true, Bool.not_eq_true'] at hb
  have e1 : inR 1 9 (.int p) = true := by simp only [inR, h1, h2, decide_true, Bool.and_self]
  simp only [fd4, List.map, List.replicate, List.cons_append, List.nil_append, List.length_cons, List.length_nil, List.set_cons_zero, List.set_cons_succ, e_lit, e_loc, e_fld, e_at, e_tup, e_lst, e_dct, e_bin, e_neg, e_cmp, e_cmp2, e_sub, e_slc, e_rev, e_bi, e_bi2, e_isi, e_call, l_nil, l_cons, a_nil, a_cons, e_and, e_or, e_not, e_ite, brl_t, brl_f, fls, trs, x_nm, x_ret0, x_ret, x_setI, xc_cons, xc_nil, x_if, sq_nx, sq_ret, sq_ex, sq_cont, pkB2, pkB, rp, qe, slot0, slotS, un_ow1, un_int, un_bl, un_str, un_tup, un_lst, un_scr, un_non, un_ins, un_dct, un_exc, ow_own, ow_int, ow_bl, ow_str, ow_tup, ow_lst, ow_scr, ow_non, ow_ins, ow_dct, ow_exc, plain,  ↓to_bnd, bnd_ok, bnd_ex, R.of_some, it0, it1, it2, it3, it4, tt0, tt1, tt2, Option.map_some, olOf, isOL, Option.isSome, Bool.false_eq_true, if_false, if_true, calls, grab, back, recvOf, List.getElem?_cons_zero, List.getElem?_cons_succ, c1, e1, hb.1, c2, h, x_raise, fin_ex, outsOf]
/-! ### classes -/
def sumD (xs : List D) : Option Int := (intsOf xs).map List.sum
/-- a tuple of numbers from 1 to a, together m -/
def areC (a m : Int) : D → Bool
  | .tup xs => xs.all (inR 1 a) && decide (sumD xs = some m)
  | _ => false
def plT : D → Bool
  | .tup xs => xs.all pl && decide (xs.length ≤ 1000)
  | d => pl d
theorem intsOf_map : ∀ ns : List Int, intsOf (ns.map .int) = some ns
  | [] => rfl
  | n :: ns => by simp [intsOf, intsOf_map ns]
theorem ints_of_all {a b : Int} : ∀ {xs : List D}, xs.all (inR a b) = true → ∃ ns : List Int, xs = ns.map .int ∧ ∀ n ∈ ns, a ≤ n ∧ n ≤ b
  | [], _ => ⟨[], rfl, by simp⟩
  | x :: xs, h => by
    simp only [List.all_cons, Bool.and_eq_true] at h
    obtain ⟨ns, rfl, hn⟩ := ints_of_all h.2
    cases x <;> simp only [inR, Bool.false_eq_true, false_and] at h
    rename_i i
    refine ⟨i :: ns, rfl, ?_⟩
    intro n hn'
    rcases List.mem_cons.1 hn' with rfl | h'
    · simpa using h.1
    · exact hn n h'
theorem all_inR {a b : Int} {ns : List Int} (h : ∀ n ∈ ns, a ≤ n ∧ n ≤ b) : (ns.map D.int).all (inR a b) = true := by
  simp only [List.all_map, List.all_eq_true, Function.comp, inR, Bool.and_eq_true, decide_eq_true_eq]
  exact h
theorem le_sum : ∀ {ns : List Int}, (∀ n ∈ ns, 1 ≤ n) → 0 ≤ ns.sum ∧ ∀ n ∈ ns, n ≤ ns.sum
  | [], _ => ⟨by simp, by simp⟩
  | m :: ns, h => by
    have ih := le_sum fun n hn => h n (List.mem_cons_of_mem _ hn)
    have hm := h m (by simp)
    simp only [List.sum_cons]
    refine ⟨by omega, fun n hn => ?_⟩
    rcases List.mem_cons.1 hn with rfl | h'
    · omega
    · have := ih.2 n h'
      omega
theorem areC_eq {m b : Int} (hb : m ≤ b) (c : D) : areC m m c = areC b m c := by
  cases c <;> try rfl
  rename_i xs
  simp only [areC]
  by_cases hs : sumD xs = some m
  · simp only [hs, decide_true, Bool.and_true]
    rw [Bool.eq_iff_iff]
    constructor
    · intro h
      obtain ⟨ns, rfl, hn⟩ := ints_of_all h
      exact all_inR fun n hn' => ⟨(hn n hn').1, by have := (hn n hn').2; omega⟩
    · intro h
      obtain ⟨ns, rfl, hn⟩ := ints_of_all h
      simp only [sumD, intsOf_map, Option.map_some, Option.some.injEq] at hs
      exact all_inR fun n hn' => ⟨(hn n hn').1, by have := (le_sum fun k hk => (hn k hk).1).2 n hn'; omega⟩
  · simp only [hs, decide_false, Bool.and_false]
theorem bls_map {α : Type} (f : α → Bool) : ∀ xs : List α, blsOf (xs.map fun x => .bl (f x)) = some (xs.map f)
  | [] => rfl
  | x :: xs => by simp [blsOf, bls_map f xs]
theorem b_all {xs : List D} (f : D → Bool) : b1 .all (.lst (xs.map fun x => .bl (f x))) = some (.bl (xs.all f)) := by
  simp [b1, bls_map, List.all_map]
theorem c_arec {n : Nat} (hn : 3 ≤ n) (c : D) (m : Int) (hc : plT c = true) : callF kls gam n 5 [c, .int m] = .ok (.bl (areC m m c)) [some c, some (.int m)] := by
  rw [call_eq' (by omega) (fd := fd5) rfl rfl]
  by_cases ht : ∃ xs, c = .tup xs
  · obtain ⟨xs, rfl⟩ := ht
    simp only [plT, Bool.and_eq_true, decide_eq_true_eq] at hc
    have key : ∀ (C : Cf), C.Φ = callF kls gam (n - 1) → ∃ y, compGo (stepC C (.nm 2) (.call 1 [(.rd (.loc 2)), (.lit (.int 1)), (.rd (.loc 1))]) [2]) xs [some (.tup xs), some (.int m), none] [] = .ok (xs.map fun x => .bl (inR 1 m x)) [some (.tup xs), some (.int m), y] := by
      intro C hC
      obtain ⟨ys, ρ', e, ⟨y, hy⟩, e2, _⟩ := compGo_ok (step := stepC C (.nm 2) (.call 1 [(.rd (.loc 2)), (.lit (.int 1)), (.rd (.loc 1))]) [2])
        (fun zs acc ρ => (∃ y, ρ = [some (.tup xs), some (.int m), y]) ∧ acc ++ zs.map (fun x => .bl (inR 1 m x)) = xs.map (fun x => .bl (inR 1 m x)) ∧ zs.all pl = true) (by
        rintro x zs acc ρ ⟨⟨y, rfl⟩, h2, h3⟩
        simp only [List.all_cons, Bool.and_eq_true] at h3
        have c1 := c_from (n := n - 1) (by omega) x h3.1 1 m
        have ho : x.isOwn = false := by
          have := h3.1
          simp only [pl, Bool.and_eq_true, Bool.not_eq_true'] at this
          exact this.1
        refine ⟨.bl (inR 1 m x), [some (.tup xs), some (.int m), some x], ?_, ⟨_, rfl⟩, ?_, h3.2⟩
        · simp only [step_nm, wipe, List.map, List.replicate, List.cons_append, List.nil_append, List.length_cons, List.length_nil, List.set_cons_zero, List.set_cons_succ, Nat.reduceAdd, Nat.reduceLT, e_lit, e_loc, e_fld, e_at, e_tup, e_lst, e_dct, e_bin, e_neg, e_cmp, e_cmp2, e_sub, e_slc, e_rev, e_bi, e_bi2, e_isi, e_call, l_nil, l_cons, a_nil, a_cons, e_and, e_or, e_not, e_ite, brl_t, brl_f, fls, trs, x_nm, x_ret0, x_ret, x_setI, xc_cons, xc_nil, x_if, sq_nx, sq_ret, sq_ex, sq_cont, pkB2, pkB, rp, qe, slot0, slotS, un_ow1, un_int, un_bl, un_str, un_tup, un_lst, un_scr, un_non, un_ins, un_dct, un_exc, ow_own, ow_int, ow_bl, ow_str, ow_tup, ow_lst, ow_scr, ow_non, ow_ins, ow_dct, ow_exc, plain,  ↓to_bnd, bnd_ok, bnd_ex, R.of_some, it0, it1, it2, it3, it4, tt0, tt1, tt2, Option.map_some, olOf, isOL, Option.isSome, Bool.false_eq_true, if_false, if_true, calls, grab, back, recvOf, List.getElem?_cons_zero, List.getElem?_cons_succ, hC, ho, c1]
        · simpa using h2) xs [] [some (.tup xs), some (.int m), none] (by simp [line]; omega) ⟨⟨_, rfl⟩, by simp, hc.1⟩
      subst hy
      rw [e]
      exact ⟨y, by rw [← e2]; simp⟩
    obtain ⟨y, e⟩ := key { Φ := callF kls gam (n - 1) } rfl
    have hun : xs.map D.un = xs := by
      have : ∀ x ∈ xs, x.un = x := fun x hx => by
        have := List.all_eq_true.1 hc.1 x hx
        cases x <;> first | rfl | (simp [pl, D.isOwn] at this)
      calc xs.map D.un = xs.map id := List.map_congr_left this
        _ = xs := by simp
    simp only [fd5, List.map, List.replicate, List.cons_append, List.nil_append, List.length_cons, List.length_nil, List.set_cons_zero, List.set_cons_succ, e_lit, e_loc, e_fld, e_at, e_tup, e_lst, e_dct, e_bin, e_neg, e_cmp, e_cmp2, e_sub, e_slc, e_rev, e_bi, e_bi2, e_isi, e_call, l_nil, l_cons, a_nil, a_cons, e_and, e_or, e_not, e_ite, brl_t, brl_f, fls, trs, x_nm, x_ret0, x_ret, x_setI, xc_cons, xc_nil, x_if, sq_nx, sq_ret, sq_ex, sq_cont, pkB2, pkB, rp, qe, slot0, slotS, un_ow1, un_int, un_bl, un_str, un_tup, un_lst, un_scr, un_non, un_ins, un_dct, un_exc, ow_own, ow_int, ow_bl, ow_str, ow_tup, ow_lst, ow_scr, ow_non, ow_ins, ow_dct, ow_exc, plain,  ↓to_bnd, bnd_ok, bnd_ex, R.of_some, it0, it1, it2, it3, it4, tt0, tt1, tt2, Option.map_some, olOf, isOL, Option.isSome, Bool.false_eq_true, if_false, if_true, isAny, isTy, kdOf, isKd, Bool.or_false, e_comp, i_seq, itemsI, hun, plainAt, List.all_cons, List.all_nil, Bool.and_true]
    rw [e]
    simp only [List.map, List.replicate, List.cons_append, List.nil_append, List.length_cons, List.length_nil, List.set_cons_zero, List.set_cons_succ, e_lit, e_loc, e_fld, e_at, e_tup, e_lst, e_dct, e_bin, e_neg, e_cmp, e_cmp2, e_sub, e_slc, e_rev, e_bi, e_bi2, e_isi, e_call, l_nil, l_cons, a_nil, a_cons, e_and, e_or, e_not, e_ite, brl_t, brl_f, fls, trs, x_nm, x_ret0, x_ret, x_setI, xc_cons, xc_nil, x_if, sq_nx, sq_ret, sq_ex, sq_cont, pkB2, pkB, rp, qe, slot0, slotS, un_ow1, un_int, un_bl, un_str, un_tup, un_lst, un_scr, un_non, un_ins, un_dct, un_exc, ow_own, ow_int, ow_bl, ow_str, ow_tup, ow_lst, ow_scr, ow_non, ow_ins, ow_dct, ow_exc, plain,  ↓to_bnd, bnd_ok, bnd_ex, R.of_some, it0, it1, it2, it3, it4, tt0, tt1, tt2, Option.map_some, olOf, isOL, Option.isSome, Bool.false_eq_true, if_false, if_true, rest, b_all]
    by_cases ha : xs.all (inR 1 m) = true
    · obtain ⟨ns, e1, hns⟩ := ints_of_all ha
      have es : b1 .sum (.tup xs) = some (.int ns.sum) := by rw [e1]; simp [b1, intsOf_map]
      simp only [ha, List.map, List.replicate, List.cons_append, List.nil_append, List.length_cons, List.length_nil, List.set_cons_zero, List.set_cons_succ, e_lit, e_loc, e_fld, e_at, e_tup, e_lst, e_dct, e_bin, e_neg, e_cmp, e_cmp2, e_sub, e_slc, e_rev, e_bi, e_bi2, e_isi, e_call, l_nil, l_cons, a_nil, a_cons, e_and, e_or, e_not, e_ite, brl_t, brl_f, fls, trs, x_nm, x_ret0, x_ret, x_setI, xc_cons, xc_nil, x_if, sq_nx, sq_ret, sq_ex, sq_cont, pkB2, pkB, rp, qe, slot0, slotS, un_ow1, un_int, un_bl, un_str, un_tup, un_lst, un_scr, un_non, un_ins, un_dct, un_exc, ow_own, ow_int, ow_bl, ow_str, ow_tup, ow_lst, ow_scr, ow_non, ow_ins, ow_dct, ow_exc, plain,  ↓to_bnd, bnd_ok, bnd_ex, R.of_some, it0, it1, it2, it3, it4, tt0, tt1, tt2, Option.map_some, olOf, isOL, Option.isSome, Bool.false_eq_true, if_false, if_true, es, cv_eq, fin_ret, outsOf, areC, Bool.true_and]
      rw [e1]
      simp only [sumD, intsOf_map, Option.map_some, Option.some.injEq]
    · simp only [Bool.not_eq_true] at ha
      simp only [ha, List.map, List.replicate, List.cons_append, List.nil_append, List.length_cons, List.length_nil, List.set_cons_zero, List.set_cons_succ, e_lit, e_loc, e_fld, e_at, e_tup, e_lst, e_dct, e_bin, e_neg, e_cmp, e_cmp2, e_sub, e_slc, e_rev, e_bi, e_bi2, e_isi, e_call, l_nil, l_cons, a_nil, a_cons, e_and, e_or, e_not, e_ite, brl_t, brl_f, fls, trs, x_nm, x_ret0, x_ret, x_setI, xc_cons, xc_nil, x_if, sq_nx, sq_ret, sq_ex, sq_cont, pkB2, pkB, rp, qe, slot0, slotS, un_ow1, un_int, un_bl, un_str, un_tup, un_lst, un_scr, un_non, un_ins, un_dct, un_exc, ow_own, ow_int, ow_bl, ow_str, ow_tup, ow_lst, ow_scr, ow_non, ow_ins, ow_dct, ow_exc, plain,  ↓to_bnd, bnd_ok, bnd_ex, R.of_some, it0, it1, it2, it3, it4, tt0, tt1, tt2, Option.map_some, olOf, isOL, Option.isSome, Bool.false_eq_true, if_false, if_true, fin_ret, outsOf, areC, Bool.false_and]
  · have hp : pl c = true := by
      cases c <;> first | exact hc | exact absurd ⟨_, rfl⟩ ht
    simp only [pl, Bool.and_eq_true] at hp
    cases c <;> first | (simp [D.isOwn] at hp; done) | (simp [kdOf] at hp; done) | exact absurd ⟨_, rfl⟩ ht | skip
    all_goals simp only [fd5, List.map, List.replicate, List.cons_append, List.nil_append, List.length_cons, List.length_nil, List.set_cons_zero, List.set_cons_succ, e_lit, e_loc, e_fld, e_at, e_tup, e_lst, e_dct, e_bin, e_neg, e_cmp, e_cmp2, e_sub, e_slc, e_rev, e_bi, e_bi2, e_isi, e_call, l_nil, l_cons, a_nil, a_cons, e_and, e_or, e_not, e_ite, brl_t, brl_f, fls, trs, x_nm, x_ret0, x_ret, x_setI, xc_cons, xc_nil, x_if, sq_nx, sq_ret, sq_ex, sq_cont, pkB2, pkB, rp, qe, slot0, slotS, un_ow1, un_int, un_bl, un_str, un_tup, un_lst, un_scr, un_non, un_ins, un_dct, un_exc, ow_own, ow_int, ow_bl, ow_str, ow_tup, ow_lst, ow_scr, ow_non, ow_ins, ow_dct, ow_exc, plain,  ↓to_bnd, bnd_ok, bnd_ex, R.of_some, it0, it1, it2, it3, it4, tt0, tt1, tt2, Option.map_some, olOf, isOL, Option.isSome, Bool.false_eq_true, if_false, if_true, isAny, isTy, kdOf, isKd, Bool.or_false, fin_ret, outsOf, areC]
end Vm

/-! #### part P07 -/
namespace Vm
open PySem
/-- a Plan of these parts is let (none), or not, for this part -/
inductive Jd : D → D → D → Option Str → Prop
  | per {a b c : D} : inR 1 9 a = false → Jd a b c (some (Str.ofString "persons"))
  | siz {p : Int} {b c : D} : 1 ≤ p → p ≤ 9 → inR 1 p b = false → Jd (.int p) b c (some (Str.ofString "size"))
  | cla {p s : Int} {c : D} : 1 ≤ p → p ≤ 9 → 1 ≤ s → s ≤ p → areC (cho p s) (cho p s) c = false → Jd (.int p) (.int s) c (some (Str.ofString "classes"))
  | ok {p s : Int} {c : D} : 1 ≤ p → p ≤ 9 → 1 ≤ s → s ≤ p → areC (cho p s) (cho p s) c = true → Jd (.int p) (.int s) c none
theorem jd_ex (a b c : D) : ∃ o, Jd a b c o := by
  cases h : inR 1 9 a with
  | false => exact ⟨_, .per h⟩
  | true =>
    cases a <;> simp only [inR, Bool.false_eq_true] at h
    rename_i p
    simp only [Bool.and_eq_true, decide_eq_true_eq] at h
    cases h2 : inR 1 p b with
    | false => exact ⟨_, .siz h.1 h.2 h2⟩
    | true =>
      cases b <;> simp only [inR, Bool.false_eq_true] at h2
      rename_i s
      simp only [Bool.and_eq_true, decide_eq_true_eq] at h2
      cases h3 : areC (cho p s) (cho p s) c with
      | false => exact ⟨_, .cla h.1 h.2 h2.1 h2.2 h3⟩
      | true => exact ⟨_, .ok h.1 h.2 h2.1 h2.2 h3⟩
def planV (a b c : D) : D := .ins 15 [0, 1, 2] [a, b, c]
def initR (a b c : D) : Option Str → R D
  | none => .ok .non [some (.own (planV a b c)), some a, some b, some c]
  | some w => .ex (.exc 1 [.str w]) [some (.own (.ins 15 [] [])), some a, some b, some c]
theorem own_pl {d : D} (h : pl d = true) : d.isOwn = false := by
  simp only [pl, Bool.and_eq_true, Bool.not_eq_true'] at h
  exact h.1
theorem un_ow {d : D} (h : d.isOwn = false) : d.un = d := by cases d <;> first | rfl | (simp [D.isOwn] at h)
theorem own_plT {d : D} (h : plT d = true) : d.isOwn = false := by
  cases d <;> first | rfl | exact own_pl h
theorem pl_plT {d : D} (h : plT d = true) : pl d = true := by
  cases d <;> first | rfl | exact h
theorem pf0 (v : D) : putF 0 v [] [] = ([0], [v]) := rfl
theorem pf1 (v x : D) : putF 1 v [0] [x] = ([0, 1], [x, v]) := rfl
theorem pf2 (v x y : D) : putF 2 v [0, 1] [x, y] = ([0, 1, 2], [x, y, v]) := rfl
theorem c_init {n : Nat} (hn : 4 ≤ n) {a b c : D} {o : Option Str} (j : Jd a b c o) (ha : pl a = true) (hb : pl b = true) (hc : plT c = true) : callF kls gam n 6 [.own (.ins 15 [] []), a, b, c] = initR a b c o := by
  rw [call_eq' (by omega) (fd := fd6) rfl rfl]
  have oa := own_pl ha
  have ob := own_pl hb
  have oc := own_plT hc
  cases j with
  | per h =>
    have c1 := c_sizes_p (n := n - 1) (by omega) a b ha hb h
    simp only [fd6, List.map, List.replicate, List.cons_append, List.nil_append, List.length_cons, List.length_nil, List.set_cons_zero, List.set_cons_succ, e_lit, e_loc, e_fld, e_at, e_tup, e_lst, e_dct, e_bin, e_neg, e_cmp, e_cmp2, e_sub, e_slc, e_rev, e_bi, e_bi2, e_isi, e_call, l_nil, l_cons, a_nil, a_cons, e_and, e_or, e_not, e_ite, brl_t, brl_f, fls, trs, x_nm, x_ret0, x_ret, x_setI, xc_cons, xc_nil, x_if, sq_nx, sq_ret, sq_ex, sq_cont, pkB2, pkB, rp, qe, slot0, slotS, un_ow1, un_int, un_bl, un_str, un_tup, un_lst, un_scr, un_non, un_ins, un_dct, un_exc, ow_own, ow_int, ow_bl, ow_str, ow_tup, ow_lst, ow_scr, ow_non, ow_ins, ow_dct, ow_exc, plain,  ↓to_bnd, bnd_ok, bnd_ex, R.of_some, it0, it1, it2, it3, it4, tt0, tt1, tt2, Option.map_some, olOf, isOL, Option.isSome, Bool.false_eq_true, if_false, if_true, calls, grab, back, recvOf, List.getElem?_cons_zero, List.getElem?_cons_succ, x_ex, oa, ob, c1, fin_ex, outsOf, initR]
  | siz h1 h2 h =>
    have c1 := c_sizes_s (n := n - 1) (by omega) _ b h1 h2 hb h
    simp only [fd6, List.map, List.replicate, List.cons_append, List.nil_append, List.length_cons, List.length_nil, List.set_cons_zero, List.set_cons_succ, e_lit, e_loc, e_fld, e_at, e_tup, e_lst, e_dct, e_bin, e_neg, e_cmp, e_cmp2, e_sub, e_slc, e_rev, e_bi, e_bi2, e_isi, e_call, l_nil, l_cons, a_nil, a_cons, e_and, e_or, e_not, e_ite, brl_t, brl_f, fls, trs, x_nm, x_ret0, x_ret, x_setI, xc_cons, xc_nil, x_if, sq_nx, sq_ret, sq_ex, sq_cont, pkB2, pkB, rp, qe, slot0, slotS, un_ow1, un_int, un_bl, un_str, un_tup, un_lst, un_scr, un_non, un_ins, un_dct, un_exc, ow_own, ow_int, ow_bl, ow_str, ow_tup, ow_lst, ow_scr, ow_non, ow_ins, ow_dct, ow_exc, plain,  ↓to_bnd, bnd_ok, bnd_ex, R.of_some, it0, it1, it2, it3, it4, tt0, tt1, tt2, Option.map_some, olOf, isOL, Option.isSome, Bool.false_eq_true, if_false, if_true, calls, grab, back, recvOf, List.getElem?_cons_zero, List.getElem?_cons_succ, x_ex, oa, ob, c1, fin_ex, outsOf, initR]
  | @cla p s c h1 h2 h3 h4 h =>
    have c1 := c_sizes_ok (n := n - 1) (by omega) p s h1 h2 h3 h4
    have c2 := c_cho3 (n := n - 1) (by omega) p s (by omega) h2 (by omega) h4
    have c3 := c_arec (n := n - 1) (by omega) c (cho p s) hc
    simp only [fd6, List.map, List.replicate, List.cons_append, List.nil_append, List.length_cons, List.length_nil, List.set_cons_zero, List.set_cons_succ, e_lit, e_loc, e_fld, e_at, e_tup, e_lst, e_dct, e_bin, e_neg, e_cmp, e_cmp2, e_sub, e_slc, e_rev, e_bi, e_bi2, e_isi, e_call, l_nil, l_cons, a_nil, a_cons, e_and, e_or, e_not, e_ite, brl_t, brl_f, fls, trs, x_nm, x_ret0, x_ret, x_setI, xc_cons, xc_nil, x_if, sq_nx, sq_ret, sq_ex, sq_cont, pkB2, pkB, rp, qe, slot0, slotS, un_ow1, un_int, un_bl, un_str, un_tup, un_lst, un_scr, un_non, un_ins, un_dct, un_exc, ow_own, ow_int, ow_bl, ow_str, ow_tup, ow_lst, ow_scr, ow_non, ow_ins, ow_dct, ow_exc, plain,  ↓to_bnd, bnd_ok, bnd_ex, R.of_some, it0, it1, it2, it3, it4, tt0, tt1, tt2, Option.map_some, olOf, isOL, Option.isSome, Bool.false_eq_true, if_false, if_true, calls, grab, back, recvOf, List.getElem?_cons_zero, List.getElem?_cons_succ, x_ex, oa, ob, oc, c1, c2, c3, h, x_raise, fin_ex, outsOf, initR]
  | @ok p s c h1 h2 h3 h4 h =>
    have c1 := c_sizes_ok (n := n - 1) (by omega) p s h1 h2 h3 h4
    have c2 := c_cho3 (n := n - 1) (by omega) p s (by omega) h2 (by omega) h4
    have c3 := c_arec (n := n - 1) (by omega) c (cho p s) hc
    simp only [fd6, List.map, List.replicate, List.cons_append, List.nil_append, List.length_cons, List.length_nil, List.set_cons_zero, List.set_cons_succ, e_lit, e_loc, e_fld, e_at, e_tup, e_lst, e_dct, e_bin, e_neg, e_cmp, e_cmp2, e_sub, e_slc, e_rev, e_bi, e_bi2, e_isi, e_call, l_nil, l_cons, a_nil, a_cons, e_and, e_or, e_not, e_ite, brl_t, brl_f, fls, trs, x_nm, x_ret0, x_ret, x_setI, xc_cons, xc_nil, x_if, sq_nx, sq_ret, sq_ex, sq_cont, pkB2, pkB, rp, qe, slot0, slotS, un_ow1, un_int, un_bl, un_str, un_tup, un_lst, un_scr, un_non, un_ins, un_dct, un_exc, ow_own, ow_int, ow_bl, ow_str, ow_tup, ow_lst, ow_scr, ow_non, ow_ins, ow_dct, ow_exc, plain,  ↓to_bnd, bnd_ok, bnd_ex, R.of_some, it0, it1, it2, it3, it4, tt0, tt1, tt2, Option.map_some, olOf, isOL, Option.isSome, Bool.false_eq_true, if_false, if_true, calls, grab, back, recvOf, List.getElem?_cons_zero, List.getElem?_cons_succ, x_ex, oa, ob, oc, c1, c2, c3, h, x_raise, fin_nx, outsOf, initR, x_setF, pf0, pf1, pf2, un_ow oc, Nat.reduceAdd, Nat.reduceLT, planV]
def newR : R D → Env → R D
  | .ok .non (some d :: _), ρ => .ok d ρ
  | .ex e _, ρ => .ex e ρ
  | _, _ => .no
theorem e_new (C : Cf) (ρ : Env) (es) : ev kls C (.new 15 es) ρ = (evL kls C es ρ).bind fun ds ρ1 => newR (C.Φ 6 (.own (.ins 15 [] []) :: ds)) ρ1 := by
  simp only [ev]
  show (evL kls C es ρ).bind _ = _
  congr 1
  funext ds ρ1
  simp only [Bool.false_eq_true, if_false]
  cases C.Φ 6 (.own (.ins 15 [] []) :: ds) with
  | ok d ρ2 => 
    cases d <;> first | rfl | skip
    cases ρ2 with
    | nil => rfl
    | cons o ρ3 => cases o <;> rfl
  | ex => rfl
  | no => rfl
theorem new_ok (a b c ρ) : newR (initR a b c none) ρ = .ok (.own (planV a b c)) ρ := rfl
theorem new_ex (a b c w ρ) : newR (initR a b c (some w)) ρ = .ex (.exc 1 [.str w]) ρ := rfl
theorem fl0 (a b c) : fldD (planV a b c) 0 = some a := rfl
theorem fl1 (a b c) : fldD (planV a b c) 1 = some b := rfl
theorem fl2 (a b c) : fldD (planV a b c) 2 = some c := rfl
theorem un_pv (a b c) : (planV a b c).un = planV a b c := rfl
theorem ow_pv (a b c) : (planV a b c).isOwn = false := rfl
theorem c_parts {n : Nat} (hn : 1 ≤ n) {a b c : D} (ha : pl a = true) (hb : pl b = true) (hc : plT c = true) : callF kls gam n 7 [planV a b c] = .ok (.tup [a, b, c]) [some (planV a b c)] := by
  rw [call_eq' (by omega) (fd := fd7) rfl rfl]
  have oa := own_pl ha
  have ob := own_pl hb
  have oc := own_plT hc
  simp only [fd7, List.map, List.replicate, List.cons_append, List.nil_append, List.length_cons, List.length_nil, List.set_cons_zero, List.set_cons_succ, e_lit, e_loc, e_fld, e_at, e_tup, e_lst, e_dct, e_bin, e_neg, e_cmp, e_cmp2, e_sub, e_slc, e_rev, e_bi, e_bi2, e_isi, e_call, l_nil, l_cons, a_nil, a_cons, e_and, e_or, e_not, e_ite, brl_t, brl_f, fls, trs, x_nm, x_ret0, x_ret, x_setI, xc_cons, xc_nil, x_if, sq_nx, sq_ret, sq_ex, sq_cont, pkB2, pkB, rp, qe, slot0, slotS, un_ow1, un_int, un_bl, un_str, un_tup, un_lst, un_scr, un_non, un_ins, un_dct, un_exc, ow_own, ow_int, ow_bl, ow_str, ow_tup, ow_lst, ow_scr, ow_non, ow_ins, ow_dct, ow_exc, plain,  ↓to_bnd, bnd_ok, bnd_ex, R.of_some, it0, it1, it2, it3, it4, tt0, tt1, tt2, Option.map_some, olOf, isOL, Option.isSome, Bool.false_eq_true, if_false, if_true, fl0, fl1, fl2, un_pv, oa, ob, oc, un_ow oa, un_ow ob, un_ow oc, fin_ret, outsOf]
theorem sum_of {m : Int} {c : D} (h : areC m m c = true) : ∃ ns : List Int, c = .tup (ns.map .int) ∧ (∀ n ∈ ns, 1 ≤ n ∧ n ≤ m) ∧ ns.sum = m := by
  cases c <;> simp only [areC, Bool.false_eq_true, Bool.and_eq_true, decide_eq_true_eq] at h
  obtain ⟨ns, rfl, hn⟩ := ints_of_all h.1
  refine ⟨ns, rfl, hn, ?_⟩
  simpa [sumD, intsOf_map] using h.2
theorem strOk_lit : PyData.strOk ("persons" : Str) = true ∧ PyData.strOk ("size" : Str) = true ∧ PyData.strOk ("classes" : Str) = true := by decide +kernel
def dueV : Option Str → D
  | none => .non
  | some w => .str w
theorem un_map {xs : List D} (h : xs.all pl = true) : xs.map D.un = xs := by
  have : ∀ x ∈ xs, x.un = x := fun x hx => un_ow (own_pl (List.all_eq_true.1 h x hx))
  calc xs.map D.un = xs.map id := List.map_congr_left this
    _ = xs := by simp
theorem c_bad {n : Nat} (hn : 2 ≤ n) {a b c : D} {o : Option Str} (j : Jd a b c o) (ha : pl a = true) (hb : pl b = true) (hc : plT c = true) : callF kls gam n 108 [a, b, c] = .ok (dueV o) [some a, some b, some c] := by
  rw [call_eq' (by omega) (fd := fd108) rfl rfl]
  have oa := own_pl ha
  have ob := own_pl hb
  have oc := own_plT hc
  have ca := c_num (n := n - 1) (by omega) a ha 1 10
  have key : ∀ p s : Int, a = .int p → b = .int s → 1 ≤ p → p ≤ 9 → 1 ≤ s → s ≤ p → (areC (cho p s) (cho p s) c = true → o = none) → (areC (cho p s) (cho p s) c = false → o = some (Str.ofString "classes")) → fin fd108.keep (execs kls fd108.body { Φ := callF kls gam (n - 1) } (List.map some [a, b, c] ++ List.replicate (fd108.ns - fd108.np) none)) = .ok (dueV o) [some a, some b, some c] := by
    rintro p s rfl rfl h1 h2 h3 h4 k1 k2
    have cb := c_num (n := n - 1) (by omega) (.int s) rfl 1 (p + 1)
    have ia : inR 1 (10 - 1) (.int p) = true := by simp [inR]; omega
    have ib : inR 1 (p + 1 - 1) (.int s) = true := by simp [inR]; omega
    have ch := cho_ok p s h2 (by omega) h4
    have c2 := c_cho (n := n - 1) (by omega) p s (by omega) h2 (by omega) (by omega)
    rw [areC_eq (b := 10 ^ 40 - 1) (by omega)] at k1 k2
    by_cases ht : ∃ xs, c = .tup xs
    · obtain ⟨xs, rfl⟩ := ht
      simp only [plT, Bool.and_eq_true, decide_eq_true_eq] at hc
      obtain ⟨ys, ρ', e, ⟨y, hy⟩, e2, _⟩ := compGo_ok (step := stepC { Φ := callF kls gam (n - 1) } (.nm 3) (.call 107 [(.rd (.loc 3)), (.lit (.int 1)), (.bin .pow (.lit (.int 10)) (.lit (.int 40)))]) [3])
        (fun zs acc ρ => (∃ y, ρ = [some (.int p), some (.int s), some (.tup xs), y]) ∧ acc ++ zs.map (fun x => .bl (inR 1 (10 ^ (40 : Int).toNat - 1) x)) = xs.map (fun x => .bl (inR 1 (10 ^ (40 : Int).toNat - 1) x)) ∧ zs.all pl = true) (by
        rintro x zs acc ρ ⟨⟨y, rfl⟩, h2, h3⟩
        simp only [List.all_cons, Bool.and_eq_true] at h3
        have c1 := c_num (n := n - 1) (by omega) x h3.1 1 (10 ^ (40 : Int).toNat)
        have ho := own_pl h3.1
        refine ⟨.bl (inR 1 (10 ^ (40 : Int).toNat - 1) x), [some (.int p), some (.int s), some (.tup xs), some x], ?_, ⟨_, rfl⟩, ?_, h3.2⟩
        · simp only [step_nm, wipe, List.map, List.replicate, List.cons_append, List.nil_append, List.length_cons, List.length_nil, List.set_cons_zero, List.set_cons_succ, Nat.reduceAdd, Nat.reduceLT, e_lit, e_loc, e_fld, e_at, e_tup, e_lst, e_dct, e_bin, e_neg, e_cmp, e_cmp2, e_sub, e_slc, e_rev, e_bi, e_bi2, e_isi, e_call, l_nil, l_cons, a_nil, a_cons, e_and, e_or, e_not, e_ite, brl_t, brl_f, fls, trs, x_nm, x_ret0, x_ret, x_setI, xc_cons, xc_nil, x_if, sq_nx, sq_ret, sq_ex, sq_cont, pkB2, pkB, rp, qe, slot0, slotS, un_ow1, un_int, un_bl, un_str, un_tup, un_lst, un_scr, un_non, un_ins, un_dct, un_exc, ow_own, ow_int, ow_bl, ow_str, ow_tup, ow_lst, ow_scr, ow_non, ow_ins, ow_dct, ow_exc, plain,  ↓to_bnd, bnd_ok, bnd_ex, R.of_some, it0, it1, it2, it3, it4, tt0, tt1, tt2, Option.map_some, olOf, isOL, Option.isSome, Bool.false_eq_true, if_false, if_true, calls, grab, back, recvOf, List.getElem?_cons_zero, List.getElem?_cons_succ, ho, bop_pow10 40 (by decide) (by decide), c1]
        · simpa using h2) xs [] [some (.int p), some (.int s), some (.tup xs), none] (by simp [line]; omega) ⟨⟨_, rfl⟩, by simp, hc.1⟩
      subst hy
      have e2 : ys = xs.map (fun x => .bl (inR 1 (10 ^ (40 : Int).toNat - 1) x)) := by rw [← e2]; simp
      simp only [fd108, List.map, List.replicate, List.cons_append, List.nil_append, List.length_cons, List.length_nil, List.set_cons_zero, List.set_cons_succ, e_lit, e_loc, e_fld, e_at, e_tup, e_lst, e_dct, e_bin, e_neg, e_cmp, e_cmp2, e_sub, e_slc, e_rev, e_bi, e_bi2, e_isi, e_call, l_nil, l_cons, a_nil, a_cons, e_and, e_or, e_not, e_ite, brl_t, brl_f, fls, trs, x_nm, x_ret0, x_ret, x_setI, xc_cons, xc_nil, x_if, sq_nx, sq_ret, sq_ex, sq_cont, pkB2, pkB, rp, qe, slot0, slotS, un_ow1, un_int, un_bl, un_str, un_tup, un_lst, un_scr, un_non, un_ins, un_dct, un_exc, ow_own, ow_int, ow_bl, ow_str, ow_tup, ow_lst, ow_scr, ow_non, ow_ins, ow_dct, ow_exc, plain,  ↓to_bnd, bnd_ok, bnd_ex, R.of_some, it0, it1, it2, it3, it4, tt0, tt1, tt2, Option.map_some, olOf, isOL, Option.isSome, Bool.false_eq_true, if_false, if_true, calls, grab, back, recvOf, List.getElem?_cons_zero, List.getElem?_cons_succ, ca, ia, cb, ib, bop_add, isAny, isTy, kdOf, isKd, Bool.or_false, e_comp, i_seq, itemsI, un_map hc.1, plainAt, List.all_cons, List.all_nil, Bool.and_true]
      rw [e, e2]
      simp only [List.map, List.replicate, List.cons_append, List.nil_append, List.length_cons, List.length_nil, List.set_cons_zero, List.set_cons_succ, e_lit, e_loc, e_fld, e_at, e_tup, e_lst, e_dct, e_bin, e_neg, e_cmp, e_cmp2, e_sub, e_slc, e_rev, e_bi, e_bi2, e_isi, e_call, l_nil, l_cons, a_nil, a_cons, e_and, e_or, e_not, e_ite, brl_t, brl_f, fls, trs, x_nm, x_ret0, x_ret, x_setI, xc_cons, xc_nil, x_if, sq_nx, sq_ret, sq_ex, sq_cont, pkB2, pkB, rp, qe, slot0, slotS, un_ow1, un_int, un_bl, un_str, un_tup, un_lst, un_scr, un_non, un_ins, un_dct, un_exc, ow_own, ow_int, ow_bl, ow_str, ow_tup, ow_lst, ow_scr, ow_non, ow_ins, ow_dct, ow_exc, plain,  ↓to_bnd, bnd_ok, bnd_ex, R.of_some, it0, it1, it2, it3, it4, tt0, tt1, tt2, Option.map_some, olOf, isOL, Option.isSome, Bool.false_eq_true, if_false, if_true, rest, b_all]
      by_cases hall : xs.all (inR 1 (10 ^ (40 : Int).toNat - 1)) = true
      · obtain ⟨ns, e1, hns⟩ := ints_of_all hall
        have es : b1 .sum (.tup xs) = some (.int ns.sum) := by rw [e1]; simp [b1, intsOf_map]
        have sm : sumD xs = some ns.sum := by rw [e1]; simp [sumD, intsOf_map]
        have hall' : xs.all (inR 1 (10 ^ 40 - 1)) = true := hall
        simp only [areC, hall', sm, Bool.true_and, decide_eq_true_eq, decide_eq_false_iff_not, Option.some.injEq] at k1 k2
        simp only [hall, List.map, List.replicate, List.cons_append, List.nil_append, List.length_cons, List.length_nil, List.set_cons_zero, List.set_cons_succ, e_lit, e_loc, e_fld, e_at, e_tup, e_lst, e_dct, e_bin, e_neg, e_cmp, e_cmp2, e_sub, e_slc, e_rev, e_bi, e_bi2, e_isi, e_call, l_nil, l_cons, a_nil, a_cons, e_and, e_or, e_not, e_ite, brl_t, brl_f, fls, trs, x_nm, x_ret0, x_ret, x_setI, xc_cons, xc_nil, x_if, sq_nx, sq_ret, sq_ex, sq_cont, pkB2, pkB, rp, qe, slot0, slotS, un_ow1, un_int, un_bl, un_str, un_tup, un_lst, un_scr, un_non, un_ins, un_dct, un_exc, ow_own, ow_int, ow_bl, ow_str, ow_tup, ow_lst, ow_scr, ow_non, ow_ins, ow_dct, ow_exc, plain,  ↓to_bnd, bnd_ok, bnd_ex, R.of_some, it0, it1, it2, it3, it4, tt0, tt1, tt2, Option.map_some, olOf, isOL, Option.isSome, Bool.false_eq_true, if_false, if_true, calls, grab, back, recvOf, List.getElem?_cons_zero, List.getElem?_cons_succ, es, c2, cv_eq, brl_d]
        by_cases hs : ns.sum = cho p s
        · simp only [hs, e_lit, e_loc, e_fld, e_at, e_tup, e_lst, e_dct, e_bin, e_neg, e_cmp, e_cmp2, e_sub, e_slc, e_rev, e_bi, e_bi2, e_isi, e_call, l_nil, l_cons, a_nil, a_cons, e_and, e_or, e_not, e_ite, brl_t, brl_f, fls, trs, x_nm, x_ret0, x_ret, x_setI, xc_cons, xc_nil, x_if, sq_nx, sq_ret, sq_ex, sq_cont, pkB2, pkB, rp, qe, slot0, slotS, un_ow1, un_int, un_bl, un_str, un_tup, un_lst, un_scr, un_non, un_ins, un_dct, un_exc, ow_own, ow_int, ow_bl, ow_str, ow_tup, ow_lst, ow_scr, ow_non, ow_ins, ow_dct, ow_exc, plain,  ↓to_bnd, bnd_ok, bnd_ex, R.of_some, it0, it1, it2, it3, it4, tt0, tt1, tt2, Option.map_some, olOf, isOL, Option.isSome, Bool.false_eq_true, if_false, if_true, fin_ret, outsOf, k1 hs, dueV]
        · simp only [hs, e_lit, e_loc, e_fld, e_at, e_tup, e_lst, e_dct, e_bin, e_neg, e_cmp, e_cmp2, e_sub, e_slc, e_rev, e_bi, e_bi2, e_isi, e_call, l_nil, l_cons, a_nil, a_cons, e_and, e_or, e_not, e_ite, brl_t, brl_f, fls, trs, x_nm, x_ret0, x_ret, x_setI, xc_cons, xc_nil, x_if, sq_nx, sq_ret, sq_ex, sq_cont, pkB2, pkB, rp, qe, slot0, slotS, un_ow1, un_int, un_bl, un_str, un_tup, un_lst, un_scr, un_non, un_ins, un_dct, un_exc, ow_own, ow_int, ow_bl, ow_str, ow_tup, ow_lst, ow_scr, ow_non, ow_ins, ow_dct, ow_exc, plain,  ↓to_bnd, bnd_ok, bnd_ex, R.of_some, it0, it1, it2, it3, it4, tt0, tt1, tt2, Option.map_some, olOf, isOL, Option.isSome, Bool.false_eq_true, if_false, if_true, fin_ret, outsOf, k2 hs, dueV]
      · have hall' : xs.all (inR 1 (10 ^ 40 - 1)) = false := by simpa using hall
        simp only [Bool.not_eq_true] at hall
        simp only [areC, hall', Bool.false_and, forall_const] at k2
        simp only [hall, List.map, List.replicate, List.cons_append, List.nil_append, List.length_cons, List.length_nil, List.set_cons_zero, List.set_cons_succ, e_lit, e_loc, e_fld, e_at, e_tup, e_lst, e_dct, e_bin, e_neg, e_cmp, e_cmp2, e_sub, e_slc, e_rev, e_bi, e_bi2, e_isi, e_call, l_nil, l_cons, a_nil, a_cons, e_and, e_or, e_not, e_ite, brl_t, brl_f, fls, trs, x_nm, x_ret0, x_ret, x_setI, xc_cons, xc_nil, x_if, sq_nx, sq_ret, sq_ex, sq_cont, pkB2, pkB, rp, qe, slot0, slotS, un_ow1, un_int, un_bl, un_str, un_tup, un_lst, un_scr, un_non, un_ins, un_dct, un_exc, ow_own, ow_int, ow_bl, ow_str, ow_tup, ow_lst, ow_scr, ow_non, ow_ins, ow_dct, ow_exc, plain,  ↓to_bnd, bnd_ok, bnd_ex, R.of_some, it0, it1, it2, it3, it4, tt0, tt1, tt2, Option.map_some, olOf, isOL, Option.isSome, Bool.false_eq_true, if_false, if_true, fin_ret, outsOf, k2, dueV]
    · have hp := pl_plT hc
      simp only [pl, Bool.and_eq_true] at hp
      cases c <;> first | (simp [D.isOwn] at hp; done) | (simp [kdOf] at hp; done) | exact absurd ⟨_, rfl⟩ ht | skip
      all_goals simp only [areC, forall_const] at k2
      all_goals simp only [fd108, List.map, List.replicate, List.cons_append, List.nil_append, List.length_cons, List.length_nil, List.set_cons_zero, List.set_cons_succ, e_lit, e_loc, e_fld, e_at, e_tup, e_lst, e_dct, e_bin, e_neg, e_cmp, e_cmp2, e_sub, e_slc, e_rev, e_bi, e_bi2, e_isi, e_call, l_nil, l_cons, a_nil, a_cons, e_and, e_or, e_not, e_ite, brl_t, brl_f, fls, trs, x_nm, x_ret0, x_ret, x_setI, xc_cons, xc_nil, x_if, sq_nx, sq_ret, sq_ex, sq_cont, pkB2, pkB, rp, qe, slot0, slotS, un_ow1, un_int, un_bl, un_str, un_tup, un_lst, un_scr, un_non, un_ins, un_dct, un_exc, ow_own, ow_int, ow_bl, ow_str, ow_tup, ow_lst, ow_scr, ow_non, ow_ins, ow_dct, ow_exc, plain,  ↓to_bnd, bnd_ok, bnd_ex, R.of_some, it0, it1, it2, it3, it4, tt0, tt1, tt2, Option.map_some, olOf, isOL, Option.isSome, Bool.false_eq_true, if_false, if_true, calls, grab, back, recvOf, List.getElem?_cons_zero, List.getElem?_cons_succ, ca, ia, cb, ib, bop_add, isAny, isTy, kdOf, isKd, Bool.or_false, fin_ret, outsOf, k2, dueV]
  cases j with
  | per h =>
    have h' : inR 1 (10 - 1) a = false := h
    simp only [fd108, List.map, List.replicate, List.cons_append, List.nil_append, List.length_cons, List.length_nil, List.set_cons_zero, List.set_cons_succ, e_lit, e_loc, e_fld, e_at, e_tup, e_lst, e_dct, e_bin, e_neg, e_cmp, e_cmp2, e_sub, e_slc, e_rev, e_bi, e_bi2, e_isi, e_call, l_nil, l_cons, a_nil, a_cons, e_and, e_or, e_not, e_ite, brl_t, brl_f, fls, trs, x_nm, x_ret0, x_ret, x_setI, xc_cons, xc_nil, x_if, sq_nx, sq_ret, sq_ex, sq_cont, pkB2, pkB, rp, qe, slot0, slotS, un_ow1, un_int, un_bl, un_str, un_tup, un_lst, un_scr, un_non, un_ins, un_dct, un_exc, ow_own, ow_int, ow_bl, ow_str, ow_tup, ow_lst, ow_scr, ow_non, ow_ins, ow_dct, ow_exc, plain,  ↓to_bnd, bnd_ok, bnd_ex, R.of_some, it0, it1, it2, it3, it4, tt0, tt1, tt2, Option.map_some, olOf, isOL, Option.isSome, Bool.false_eq_true, if_false, if_true, calls, grab, back, recvOf, List.getElem?_cons_zero, List.getElem?_cons_succ, oa, ca, h', fin_ret, outsOf, dueV]
  | @siz p b c h1 h2 h =>
    have ia : inR 1 (10 - 1) (.int p) = true := by simp [inR]; omega
    have cb := c_num (n := n - 1) (by omega) b hb 1 (p + 1)
    have h' : inR 1 (p + 1 - 1) b = false := by rw [show p + 1 - 1 = p by omega]; exact h
    simp only [fd108, List.map, List.replicate, List.cons_append, List.nil_append, List.length_cons, List.length_nil, List.set_cons_zero, List.set_cons_succ, e_lit, e_loc, e_fld, e_at, e_tup, e_lst, e_dct, e_bin, e_neg, e_cmp, e_cmp2, e_sub, e_slc, e_rev, e_bi, e_bi2, e_isi, e_call, l_nil, l_cons, a_nil, a_cons, e_and, e_or, e_not, e_ite, brl_t, brl_f, fls, trs, x_nm, x_ret0, x_ret, x_setI, xc_cons, xc_nil, x_if, sq_nx, sq_ret, sq_ex, sq_cont, pkB2, pkB, rp, qe, slot0, slotS, un_ow1, un_int, un_bl, un_str, un_tup, un_lst, un_scr, un_non, un_ins, un_dct, un_exc, ow_own, ow_int, ow_bl, ow_str, ow_tup, ow_lst, ow_scr, ow_non, ow_ins, ow_dct, ow_exc, plain,  ↓to_bnd, bnd_ok, bnd_ex, R.of_some, it0, it1, it2, it3, it4, tt0, tt1, tt2, Option.map_some, olOf, isOL, Option.isSome, Bool.false_eq_true, if_false, if_true, calls, grab, back, recvOf, List.getElem?_cons_zero, List.getElem?_cons_succ, ca, ia, ob, bop_add, cb, h', fin_ret, outsOf, dueV]
  | cla h1 h2 h3 h4 h => exact key _ _ rfl rfl h1 h2 h3 h4 (fun e => by rw [h] at e; cases e) fun _ => rfl
  | ok h1 h2 h3 h4 h => exact key _ _ rfl rfl h1 h2 h3 h4 (fun _ => rfl) fun e => by rw [h] at e; cases e
end Vm

/-! #### part P08 -/
namespace Vm
open PySem
def tryR (r : R Fl) (c : Nat) (nm : Option Nat) (h : List S) : R Fl := match r with
    | .ex e ρ1 => match catches kls c e with
      | some true => match nm with
        | some i => if i < ρ1.length then match execs kls h { Φ := fun _ _ => .no, ξ := some e } (ρ1.set i none) with
            | .ok f ρ2 => .ok f (ρ2.set i none)
            | .ex e2 ρ2 => .no
            | .no => .no
          else .no
        | none => match execs kls h { Φ := fun _ _ => .no, ξ := none } ρ1 with
          | .ok f ρ2 => .ok f ρ2
          | .ex e2 ρ2 => .no
          | .no => .no
      | some false => .ex e ρ1
      | none => .no
    | r => r
theorem x_try (b c nm h) (C : Cf) (ρ : Env) : exec kls (.try_ b c nm h) C ρ = tryR (execs kls b C ρ) c nm h := by
  simp only [exec, tryR]
  try rfl
theorem try_ok (f ρ c nm h) : tryR (.ok f ρ) c nm h = .ok f ρ := Eq.trans rfl rfl
/-- the end of a suite -/
def endH (i : Nat) : R Fl → R Fl
  | .ok f ρ2 => .ok f (ρ2.set i none)
  | .ex e2 ρ2 => .no
  | .no => .no
theorem endH_ok (i f ρ) : endH i (.ok f ρ) = .ok f (ρ.set i none) := Eq.trans rfl rfl
theorem try_ex (e ρ c i h) (k : catches kls c e = some true) : tryR (.ex e ρ) c (some i) h = if i < ρ.length then endH i (execs kls h { Φ := fun _ _ => .no, ξ := some e } (ρ.set i none)) else .no := by
  simp only [tryR, k]
  rfl
theorem ct1 (vs) : catches kls 0 (.exc 1 vs) = some true := by simp [catches, kls]
theorem ct2 (vs) : catches kls 0 (.exc 2 vs) = some true := by simp [catches, kls]
theorem e_xis (c x ρ b) (h : isTy kls x (.cls c) = some b) (Φ) : ev kls { Φ := Φ, ξ := some x } (.xis c) ρ = .ok (.bl b) ρ := by
  simp only [ev, h, Option.map_some, R.of_some]
theorem e_xfld (f w ρ y) (h : fldD w f = some y) (hy : y.isOwn = false) (Φ) : ev kls { Φ := Φ, ξ := some w } (.xfld f) ρ = .ok y ρ := by
  simp only [ev, h, plain, hy, Bool.false_eq_true, if_false, R.of_some]
theorem x11 (vs) : isTy kls (.exc 1 vs) (.cls 1) = some true := by simp [isTy, kls]
theorem x119 (vs) : isTy kls (.exc 1 vs) (.cls 19) = some true := by simp [isTy, kls]
theorem x22 (vs) : isTy kls (.exc 2 vs) (.cls 2) = some true := by simp [isTy, kls]
theorem x219 (vs) : isTy kls (.exc 2 vs) (.cls 19) = some true := by simp [isTy, kls]
theorem xf1 (w) : fldD (.exc 1 [w]) 13 = some w := by simp [fldD, xfOf]
def toldV (a b c : D) : Option Str → D
  | none => .tup [.str "plan", .tup [a, b, c]]
  | some w => .tup [.str "bad", .str w]
theorem c_told {n : Nat} (hn : 5 ≤ n) {a b c : D} {o : Option Str} (j : Jd a b c o) (ha : pl a = true) (hb : pl b = true) (hc : plT c = true) : callF kls gam n 110 [.tup [a, b, c]] = .ok (toldV a b c o) [some (.tup [a, b, c])] := by
  rw [call_eq' (by omega) (fd := fd110) rfl rfl]
  have oa := own_pl ha
  have ob := own_pl hb
  have oc := own_plT hc
  have ci := c_init (n := n - 1) (by omega) j ha hb hc
  cases o with
  | none =>
    simp only [fd110, List.map, List.replicate, List.cons_append, List.nil_append, List.length_cons, List.length_nil, List.set_cons_zero, List.set_cons_succ, e_lit, e_loc, e_fld, e_at, e_tup, e_lst, e_dct, e_bin, e_neg, e_cmp, e_cmp2, e_sub, e_slc, e_rev, e_bi, e_bi2, e_isi, e_call, l_nil, l_cons, a_nil, a_cons, e_and, e_or, e_not, e_ite, brl_t, brl_f, fls, trs, x_nm, x_ret0, x_ret, x_setI, xc_cons, xc_nil, x_if, sq_nx, sq_ret, sq_ex, sq_cont, pkB2, pkB, rp, qe, slot0, slotS, un_ow1, un_int, un_bl, un_str, un_tup, un_lst, un_scr, un_non, un_ins, un_dct, un_exc, ow_own, ow_int, ow_bl, ow_str, ow_tup, ow_lst, ow_scr, ow_non, ow_ins, ow_dct, ow_exc, plain,  ↓to_bnd, bnd_ok, bnd_ex, R.of_some, it0, it1, it2, it3, it4, tt0, tt1, tt2, Option.map_some, olOf, isOL, Option.isSome, Bool.false_eq_true, if_false, if_true, calls, grab, back, recvOf, List.getElem?_cons_zero, List.getElem?_cons_succ, x_try, e_new, oa, ob, oc, un_ow oa, un_ow ob, un_ow oc, ci, new_ok, Nat.reduceAdd, Nat.reduceLT, fl0, fl1, fl2, un_pv, ow_pv, try_ok, fin_ret, outsOf, toldV]
  | some w =>
    simp only [fd110, List.map, List.replicate, List.cons_append, List.nil_append, List.length_cons, List.length_nil, List.set_cons_zero, List.set_cons_succ, e_lit, e_loc, e_fld, e_at, e_tup, e_lst, e_dct, e_bin, e_neg, e_cmp, e_cmp2, e_sub, e_slc, e_rev, e_bi, e_bi2, e_isi, e_call, l_nil, l_cons, a_nil, a_cons, e_and, e_or, e_not, e_ite, brl_t, brl_f, fls, trs, x_nm, x_ret0, x_ret, x_setI, xc_cons, xc_nil, x_if, sq_nx, sq_ret, sq_ex, sq_cont, pkB2, pkB, rp, qe, slot0, slotS, un_ow1, un_int, un_bl, un_str, un_tup, un_lst, un_scr, un_non, un_ins, un_dct, un_exc, ow_own, ow_int, ow_bl, ow_str, ow_tup, ow_lst, ow_scr, ow_non, ow_ins, ow_dct, ow_exc, plain,  ↓to_bnd, bnd_ok, bnd_ex, R.of_some, it0, it1, it2, it3, it4, tt0, tt1, tt2, Option.map_some, olOf, isOL, Option.isSome, Bool.false_eq_true, if_false, if_true, calls, grab, back, recvOf, List.getElem?_cons_zero, List.getElem?_cons_succ, x_try, e_new, oa, ob, oc, un_ow oa, un_ow ob, un_ow oc, ci, new_ex, try_ex _ _ _ _ _ (ct1 _), Nat.reduceAdd, Nat.reduceLT, e_xis _ _ _ _ (x11 _), e_xis _ _ _ _ (x119 _), e_xfld _ _ _ _ (xf1 (.str w)) rfl, endH_ok, fin_ret, outsOf, toldV]
/-- parts of which is told -/
structure Tl (a b c : D) : Prop where
  ha : pl a = true
  hb : pl b = true
  hc : plT c = true
  ok : okD (.tup [a, b, c]) = true
  wt_ : wt (.tup [a, b, c]) ≤ 2000000
  dp : (D.tup [a, b, c]).py.depth ≤ 50
  nd : (!(D.tup [a, b, c]).py.hasDict || noLst (.tup [a, b, c])) = true
theorem reprD_some {d : D} (h : okD d = true) (hw : wt d ≤ 2000100) (hd : d.py.depth ≤ 60) (hx : (!d.py.hasDict || noLst d) = true) : ∃ t, reprD d = some t ∧ PyData.strOk t = true :=
  ⟨_, reprD_ok h (by unfold line; omega) hd hx, (shown_ok d h).1.2⟩
theorem cv_ne_self {s : Str} {ρ : Env} {Φ} (h : PyData.strOk s = true) : cmpV kls Φ .ne (.str s) (.str s) ρ = .ok (.bl false) ρ := by simp [cmpV, cop, eqD_self h]
theorem cv_eq_self {s : Str} {ρ : Env} {Φ} (h : PyData.strOk s = true) : cmpV kls Φ .eq (.str s) (.str s) ρ = .ok (.bl true) ρ := by simp [cmpV, cop, eqD_self h]
theorem b_repr {d : D} {t : Str} (h : reprD d = some t) : b1 .repr d = some (.str t) := by simp [b1, h]
theorem x_par2 (i k e1 e2) (C : Cf) (ρ : Env) : exec kls (.par [i, k] [e1, e2]) C ρ = (ev kls C e1 ρ).bind fun d1 ρ1 => (ev kls C e2 ρ1).bind fun d2 ρ2 => if k < ρ2.length then (if i < ρ2.length then .ok .nx ((ρ2.set k (some d2)).set i (some d1)) else .no) else .no := by
  simp only [exec, evL]
  cases ev kls C e1 ρ with
  | ok d1 ρ1 =>
    simp only [R.bind_ok]
    cases ev kls C e2 ρ1 with
    | ok d2 ρ2 =>
      simp only [R.bind_ok, bindPar]
      by_cases h1 : k < ρ2.length <;> by_cases h2 : i < ρ2.length <;> simp [h1, h2]
    | ex => rfl
    | no => rfl
  | ex => rfl
  | no => rfl
theorem cv_isn {x : D} {ρ : Env} {Φ} (h : x.isOwn = false) : cmpV kls Φ .is_ x .non ρ = .ok (.bl (isNone x)) ρ := by
  cases x <;> first | rfl | (simp [D.isOwn] at h)
theorem lit_ok : okD (.str "plan") = true ∧ okD (.str "bad") = true ∧ okD (.str "persons") = true ∧ okD (.str "size") = true ∧ okD (.str "classes") = true := by decide +kernel
theorem jd_word {a b c : D} {w : Str} (j : Jd a b c (some w)) : okD (.str w) = true := by
  cases j
  · exact lit_ok.2.2.1
  · exact lit_ok.2.2.2.1
  · exact lit_ok.2.2.2.2
theorem c_istold {n : Nat} (hn : 6 ≤ n) {a b c : D} (t : Tl a b c) : callF kls gam n 111 [.tup [a, b, c]] = .ok (.bl true) [some (.tup [a, b, c])] := by
  obtain ⟨o, j⟩ := jd_ex a b c
  rw [call_eq' (by omega) (fd := fd111) rfl rfl]
  have oa := own_pl t.ha
  have ob := own_pl t.hb
  have oc := own_plT t.hc
  have c1 := c_bad (n := n - 1) (by omega) j t.ha t.hb t.hc
  have c2 := c_told (n := n - 1) (by omega) j t.ha t.hb t.hc
  obtain ⟨s1, e1, k1⟩ := reprD_some t.ok (Nat.le_trans t.wt_ (by omega)) (Nat.le_trans t.dp (by omega)) t.nd
  cases o with
  | none =>
    obtain ⟨s2, e2, k2⟩ := reprD_some (d := toldV a b c none) (by
        have := t.ok
        simp only [toldV, okD, okDL, Bool.and_true, Bool.and_eq_true] at this ⊢
        exact ⟨by have := lit_ok.1; simpa only [okD, Bool.and_eq_true] using this, this⟩) (by have := t.wt_; simp only [toldV, wt, wtL] at this ⊢; omega) (by have := t.dp; simp only [toldV, D.py, pyL, PyData.depth, PyData.depthAll] at this ⊢; omega) (by
        have := t.nd
        simpa only [toldV, D.py, pyL, PyData.hasDict, PyData.hasDictAll, noLst, noLsts, Bool.or_false, Bool.false_or, Bool.true_and, Bool.and_true] using this)
    have ow2 : (toldV a b c none).isOwn = false := rfl
    have un2 : (toldV a b c none).un = toldV a b c none := rfl
    have ud : (dueV none).un = .non := rfl
    have eT : toldV a b c none = .tup [.str "plan", .tup [a, b, c]] := rfl
    rw [eT] at e2
    simp only [fd111, List.map, List.replicate, List.cons_append, List.nil_append, List.length_cons, List.length_nil, List.set_cons_zero, List.set_cons_succ, e_lit, e_loc, e_fld, e_at, e_tup, e_lst, e_dct, e_bin, e_neg, e_cmp, e_cmp2, e_sub, e_slc, e_rev, e_bi, e_bi2, e_isi, e_call, l_nil, l_cons, a_nil, a_cons, e_and, e_or, e_not, e_ite, brl_t, brl_f, fls, trs, x_nm, x_ret0, x_ret, x_setI, xc_cons, xc_nil, x_if, sq_nx, sq_ret, sq_ex, sq_cont, pkB2, pkB, rp, qe, slot0, slotS, un_ow1, un_int, un_bl, un_str, un_tup, un_lst, un_scr, un_non, un_ins, un_dct, un_exc, ow_own, ow_int, ow_bl, ow_str, ow_tup, ow_lst, ow_scr, ow_non, ow_ins, ow_dct, ow_exc, plain,  ↓to_bnd, bnd_ok, bnd_ex, R.of_some, it0, it1, it2, it3, it4, tt0, tt1, tt2, Option.map_some, olOf, isOL, Option.isSome, Bool.false_eq_true, if_false, if_true, calls, grab, back, recvOf, List.getElem?_cons_zero, List.getElem?_cons_succ, x_par2, oa, ob, oc, un_ow oa, un_ow ob, un_ow oc, c1, c2, eT, dueV, b_repr e1, b_repr e2, Nat.reduceAdd, Nat.reduceLT, cv_isn (show D.non.isOwn = false from rfl), isNone, cv_ne_self k2, cv_eq_self k1, fin_ret, outsOf]
  | some w =>
    have kw := jd_word j
    obtain ⟨s2, e2, k2⟩ := reprD_some (d := toldV a b c (some w)) (by
        simp only [toldV, okD, okDL, Bool.and_true, Bool.and_eq_true]
        exact ⟨by have := lit_ok.2.1; simpa only [okD, Bool.and_eq_true] using this, by simpa only [okD, Bool.and_eq_true] using kw⟩) (by simp only [toldV, wt, wtL]; omega) (by simp only [toldV, D.py, pyL, PyData.depth, PyData.depthAll]; omega) (by
        simp only [toldV, D.py, pyL, PyData.hasDict, PyData.hasDictAll]; rfl)
    have eT : toldV a b c (some w) = .tup [.str "bad", .str w] := rfl
    rw [eT] at e2
    simp only [fd111, List.map, List.replicate, List.cons_append, List.nil_append, List.length_cons, List.length_nil, List.set_cons_zero, List.set_cons_succ, e_lit, e_loc, e_fld, e_at, e_tup, e_lst, e_dct, e_bin, e_neg, e_cmp, e_cmp2, e_sub, e_slc, e_rev, e_bi, e_bi2, e_isi, e_call, l_nil, l_cons, a_nil, a_cons, e_and, e_or, e_not, e_ite, brl_t, brl_f, fls, trs, x_nm, x_ret0, x_ret, x_setI, xc_cons, xc_nil, x_if, sq_nx, sq_ret, sq_ex, sq_cont, pkB2, pkB, rp, qe, slot0, slotS, un_ow1, un_int, un_bl, un_str, un_tup, un_lst, un_scr, un_non, un_ins, un_dct, un_exc, ow_own, ow_int, ow_bl, ow_str, ow_tup, ow_lst, ow_scr, ow_non, ow_ins, ow_dct, ow_exc, plain,  ↓to_bnd, bnd_ok, bnd_ex, R.of_some, it0, it1, it2, it3, it4, tt0, tt1, tt2, Option.map_some, olOf, isOL, Option.isSome, Bool.false_eq_true, if_false, if_true, calls, grab, back, recvOf, List.getElem?_cons_zero, List.getElem?_cons_succ, x_par2, oa, ob, oc, un_ow oa, un_ow ob, un_ow oc, c1, c2, eT, dueV, b_repr e1, b_repr e2, Nat.reduceAdd, Nat.reduceLT, cv_isn (show (D.str w).isOwn = false from rfl), isNone, cv_ne_self k2, cv_eq_self k1, fin_ret, outsOf]
end Vm

/-! #### part P09 -/
namespace Vm
open PySem
section
variable (C : Cf) (ρ : Env)
theorem o_none : evO kls C none ρ = some none := Eq.trans rfl rfl
theorem o_int (i) : evO kls C (some (.lit (.int i))) ρ = some (some i) := Eq.trans rfl rfl
theorem o_loc (k i) (h : slot ρ k = some (.int i)) : evO kls C (some (.rd (.loc k))) ρ = some (some i) := by
  simp only [evO, qe, rp, h, plain, D.isOwn, Bool.false_eq_true, if_false]
def appR (i : Nat) (d : D) (ρ1 : Env) : R D := match olOf (slot ρ1 i) with
        | some xs => if xs.length < line then .ok .non (ρ1.set i (some (.own (.lst (xs ++ [d.un]))))) else .no
        | none => .no
theorem e_app (i e) : ev kls C (.app (.loc i) e) ρ = if isOL (slot ρ i) then (ev kls C e ρ).bind (appR i) else .no := by
  simp only [ev, locOf]
  rfl
def popR (i : Nat) (d : D) (ρ1 : Env) : R D := match olOf (slot ρ1 i), d with
        | some xs, .int k => match ixN xs.length k with
          | some j => match xs[j]? with
            | some y => if y.isOwn || decide (line < xs.length) then .no else .ok y (ρ1.set i (some (.own (.lst (xs.eraseIdx j)))))
            | none => .no
          | none => .no
        | _, _ => .no
theorem e_pop (i e) : ev kls C (.popA (.loc i) e) ρ = if isOL (slot ρ i) then (ev kls C e ρ).bind (popR i) else .no := by
  simp only [ev, locOf]
  rfl
theorem x_par3 (i k l e1 e2 e3) : exec kls (.par [i, k, l] [e1, e2, e3]) C ρ = (ev kls C e1 ρ).bind fun d1 ρ1 => (ev kls C e2 ρ1).bind fun d2 ρ2 => (ev kls C e3 ρ2).bind fun d3 ρ3 => if l < ρ3.length then (if k < ρ3.length then (if i < ρ3.length then .ok .nx (((ρ3.set l (some d3)).set k (some d2)).set i (some d1)) else .no) else .no) else .no := by
  simp only [exec, evL]
  cases ev kls C e1 ρ with
  | ok d1 ρ1 =>
    simp only [R.bind_ok]
    cases ev kls C e2 ρ1 with
    | ok d2 ρ2 =>
      simp only [R.bind_ok]
      cases ev kls C e3 ρ2 with
      | ok d3 ρ3 =>
        simp only [R.bind_ok, bindPar]
        by_cases h1 : l < ρ3.length <;> by_cases h2 : k < ρ3.length <;> by_cases h3 : i < ρ3.length <;> simp [h1, h2, h3]
      | ex => rfl
      | no => rfl
    | ex => rfl
    | no => rfl
  | ex => rfl
  | no => rfl
end
theorem cut_map (ns : List Int) (lo hi : Option Int) : cutL (ns.map D.int) lo hi = ((ns.drop (sIx ns.length 0 lo)).take (sIx ns.length ns.length hi - sIx ns.length 0 lo)).map .int := by
  simp [cutL, List.map_drop, List.map_take]
def absI (i : Int) : Int := if i < 0 then -i else i
theorem unInts (ns : List Int) : (ns.map D.int).map D.un = ns.map D.int := by
  simp only [List.map_map]
  rfl
theorem c_tape {n : Nat} (hn : 1 ≤ n) (ns : List Int) (h : ns.length ≤ 63) : ∃ t, callF kls gam n 100 [.scr (ns.map .int)] = .ok (Tp.d t) [some (.scr (ns.map .int))] := by
  rw [call_eq' (by omega) (fd := fd100) rfl rfl]
  generalize hm : (ns.drop (sIx ns.length 0 none)).take (sIx ns.length ns.length (some 63) - sIx ns.length 0 none) = ms
  have hl : ms.length ≤ 63 := by
    rw [← hm, List.length_take, List.length_drop]
    omega
  obtain ⟨ys, ρ', e, ⟨y, hy⟩, e2⟩ := compGo_ok (step := stepC { Φ := callF kls gam (n - 1) } (.nm 2) (.bi .abs (.bi .int (.rd (.loc 2)))) [2])
    (fun zs acc ρ => (∃ y, ρ = [some (.scr (ns.map .int)), none, y]) ∧ ∃ rs : List Int, zs = rs.map .int ∧ acc ++ (rs.map absI).map .int = (ms.map absI).map .int) (by
      rintro x zs acc ρ ⟨⟨y, rfl⟩, rs, h1, h2⟩
      cases rs with
      | nil => cases h1
      | cons r rs =>
        simp only [List.map_cons, List.cons.injEq] at h1
        obtain ⟨rfl, rfl⟩ := h1
        refine ⟨.int (absI r), [some (.scr (ns.map .int)), none, some (.int r)], ?_, ⟨_, rfl⟩, rs, rfl, by simpa using h2⟩
        simp only [step_nm, wipe, List.map, List.replicate, List.cons_append, List.nil_append, List.length_cons, List.length_nil, List.set_cons_zero, List.set_cons_succ, Nat.reduceAdd, Nat.reduceLT, e_lit, e_loc, e_fld, e_at, e_tup, e_lst, e_dct, e_bin, e_neg, e_cmp, e_cmp2, e_sub, e_slc, e_rev, e_bi, e_bi2, e_isi, e_call, l_nil, l_cons, a_nil, a_cons, e_and, e_or, e_not, e_ite, brl_t, brl_f, fls, trs, x_nm, x_ret0, x_ret, x_setI, xc_cons, xc_nil, x_if, sq_nx, sq_ret, sq_ex, sq_cont, pkB2, pkB, rp, qe, slot0, slotS, un_ow1, un_int, un_bl, un_str, un_tup, un_lst, un_scr, un_non, un_ins, un_dct, un_exc, ow_own, ow_int, ow_bl, ow_str, ow_tup, ow_lst, ow_scr, ow_non, ow_ins, ow_dct, ow_exc, plain,  ↓to_bnd, bnd_ok, bnd_ex, R.of_some, it0, it1, it2, it3, it4, tt0, tt1, tt2, Option.map_some, olOf, isOL, Option.isSome, Bool.false_eq_true, if_false, if_true, b1, absI]) (ms.map .int) [] [some (.scr (ns.map .int)), none, none] (by simp [line]; omega) ⟨⟨_, rfl⟩, ms, rfl, by simp⟩
  subst hy
  obtain ⟨rs, h1, h2⟩ := e2
  have : rs = [] := by simpa using h1.symm
  subst this
  simp only [List.map_nil, List.append_nil] at h2
  subst h2
  refine ⟨{ cells := ms.map absI, at_ := 0, dig := 0, num := 31 + (ms.map absI).length, cnt := 0 }, ?_⟩
  simp only [fd100, List.map, List.replicate, List.cons_append, List.nil_append, List.length_cons, List.length_nil, List.set_cons_zero, List.set_cons_succ, e_lit, e_loc, e_fld, e_at, e_tup, e_lst, e_dct, e_bin, e_neg, e_cmp, e_cmp2, e_sub, e_slc, e_rev, e_bi, e_bi2, e_isi, e_call, l_nil, l_cons, a_nil, a_cons, e_and, e_or, e_not, e_ite, brl_t, brl_f, fls, trs, x_nm, x_ret0, x_ret, x_setI, xc_cons, xc_nil, x_if, sq_nx, sq_ret, sq_ex, sq_cont, pkB2, pkB, rp, qe, slot0, slotS, un_ow1, un_int, un_bl, un_str, un_tup, un_lst, un_scr, un_non, un_ins, un_dct, un_exc, ow_own, ow_int, ow_bl, ow_str, ow_tup, ow_lst, ow_scr, ow_non, ow_ins, ow_dct, ow_exc, plain,  ↓to_bnd, bnd_ok, bnd_ex, R.of_some, it0, it1, it2, it3, it4, tt0, tt1, tt2, Option.map_some, olOf, isOL, Option.isSome, Bool.false_eq_true, if_false, if_true, e_comp, i_seq, o_none, o_int, sliceD, cut_map, hm, itemsI, unInts, plainAt, List.all_cons, List.all_nil, Bool.and_true, Nat.reduceAdd]
  rw [e]
  simp only [List.map, List.replicate, List.cons_append, List.nil_append, List.length_cons, List.length_nil, List.set_cons_zero, List.set_cons_succ, e_lit, e_loc, e_fld, e_at, e_tup, e_lst, e_dct, e_bin, e_neg, e_cmp, e_cmp2, e_sub, e_slc, e_rev, e_bi, e_bi2, e_isi, e_call, l_nil, l_cons, a_nil, a_cons, e_and, e_or, e_not, e_ite, brl_t, brl_f, fls, trs, x_nm, x_ret0, x_ret, x_setI, xc_cons, xc_nil, x_if, sq_nx, sq_ret, sq_ex, sq_cont, pkB2, pkB, rp, qe, slot0, slotS, un_ow1, un_int, un_bl, un_str, un_tup, un_lst, un_scr, un_non, un_ins, un_dct, un_exc, ow_own, ow_int, ow_bl, ow_str, ow_tup, ow_lst, ow_scr, ow_non, ow_ins, ow_dct, ow_exc, plain,  ↓to_bnd, bnd_ok, bnd_ex, R.of_some, it0, it1, it2, it3, it4, tt0, tt1, tt2, Option.map_some, olOf, isOL, Option.isSome, Bool.false_eq_true, if_false, if_true, rest, Nat.reduceAdd, Nat.reduceLT, b_len, bop_add, fin_ret, outsOf, Tp.d, List.length_map]
  rfl
theorem item_ok {xs : List D} {r : Int} (h0 : 0 ≤ r) (h1 : r < xs.length) : ∃ x, x ∈ xs ∧ itemD (.lst xs) (.int r) = some x := by
  obtain ⟨k, rfl⟩ : ∃ k : Nat, r = k := ⟨r.toNat, by omega⟩
  have hk : k < xs.length := by omega
  refine ⟨xs[k], List.getElem_mem hk, ?_⟩
  simp only [itemD, ixN_lit _ _ hk]
  simp [hk]
theorem c_any {n : Nat} (hn : 2 ≤ n) (t : Tp) (th : D) (xs : List D) (hth : th.un = .lst xs) (h0 : xs ≠ []) (h1 : xs.length ≤ 1000) (h2 : ∀ x ∈ xs, x.isOwn = false) : ∃ x t', x ∈ xs ∧ callF kls gam n 102 [Tp.d t, th] = .ok x [some (Tp.d t'), some th] := by
  rw [call_eq' (by omega) (fd := fd102) rfl rfl]
  have hp : 0 < xs.length := List.length_pos_iff.2 h0
  obtain ⟨r, t', r0, r1, e⟩ := c_pick (n - 1 - 1) t xs.length (by omega) (by omega)
  rw [show n - 1 - 1 + 1 = n - 1 by omega] at e
  obtain ⟨x, hx, e2⟩ := item_ok r0 r1
  refine ⟨x, t', hx, ?_⟩
  have oT : (Tp.d t).isOwn = true := rfl
  simp only [fd102, List.map, List.replicate, List.cons_append, List.nil_append, List.length_cons, List.length_nil, List.set_cons_zero, List.set_cons_succ, e_lit, e_loc, e_fld, e_at, e_tup, e_lst, e_dct, e_bin, e_neg, e_cmp, e_cmp2, e_sub, e_slc, e_rev, e_bi, e_bi2, e_isi, e_call, l_nil, l_cons, a_nil, a_cons, e_and, e_or, e_not, e_ite, brl_t, brl_f, fls, trs, x_nm, x_ret0, x_ret, x_setI, xc_cons, xc_nil, x_if, sq_nx, sq_ret, sq_ex, sq_cont, pkB2, pkB, rp, qe, slot0, slotS, un_ow1, un_int, un_bl, un_str, un_tup, un_lst, un_scr, un_non, un_ins, un_dct, un_exc, ow_own, ow_int, ow_bl, ow_str, ow_tup, ow_lst, ow_scr, ow_non, ow_ins, ow_dct, ow_exc, plain,  ↓to_bnd, bnd_ok, bnd_ex, R.of_some, it0, it1, it2, it3, it4, tt0, tt1, tt2, Option.map_some, olOf, isOL, Option.isSome, Bool.false_eq_true, if_false, if_true, calls, grab, back, recvOf, List.getElem?_cons_zero, List.getElem?_cons_succ, oT, hth, b_len, e, e2, h2 x hx, fin_ret, outsOf]
end Vm

/-! #### part P10 -/
namespace Vm
open PySem
theorem oT (t : Tp) : (Tp.d t).isOwn = true := Eq.trans rfl rfl
theorem sum_erase : ∀ (ls : List Int) (j : Nat) (h : j < ls.length), (ls.eraseIdx j).sum + ls[j] = ls.sum
  | a :: ls, 0, h => by simp; omega
  | a :: ls, j + 1, h => by
    have := sum_erase ls j (by simpa using h)
    simp only [List.eraseIdx_cons_succ, List.sum_cons, List.getElem_cons_succ]
    omega
theorem sum_app (a b : List Int) : (a ++ b).sum = a.sum + b.sum := by
  induction a with
  | nil => simp
  | cons x a ih => simp [ih]; omega
theorem erase_map {α β : Type} (f : α → β) : ∀ (l : List α) (j : Nat), (l.map f).eraseIdx j = (l.eraseIdx j).map f
  | [], _ => rfl
  | a :: l, 0 => rfl
  | a :: l, j + 1 => by simp [erase_map f l j]
theorem c_mixed {n : Nat} (hn : 2 ≤ n) (t : Tp) (ns : List Int) (h : ns.length ≤ 1000) (h1 : ∀ x ∈ ns, 1 ≤ x) : ∃ (t' : Tp) (fs : List Int), fs.sum = ns.sum ∧ fs.length = ns.length ∧ (∀ x ∈ fs, (1 : Int) ≤ x) ∧ callF kls gam n 103 [Tp.d t, .own (.lst (ns.map .int))] = .ok (.own (.lst (fs.map .int))) [some (Tp.d t'), some (.own (.lst (ns.map .int)))] := by
  rw [call_eq' (by omega) (fd := fd103) rfl rfl]
  obtain ⟨ρ', e, t', fs, hρ, k1, k2, k3⟩ := whGo_ok (c := ev kls { Φ := callF kls gam (n - 1) } (.cmp .gt (.bi .len (.rd (.loc 2))) (.lit (.int 0)))) (body := execs kls [.ex (.app (.loc 3) (.popA (.loc 2) (.call 101 [(.rd (.loc 0)), (.bi .len (.rd (.loc 2)))])))] { Φ := callF kls gam (n - 1) })
    (Q := fun ρ => ∃ (t' : Tp) (fs : List Int), ρ = [some (Tp.d t'), some (.own (.lst (ns.map .int))), some (.own (.lst [])), some (.own (.lst (fs.map .int)))] ∧ fs.sum = ns.sum ∧ fs.length = ns.length ∧ (∀ x ∈ fs, (1 : Int) ≤ x))
    (fun k ρ => ∃ (t' : Tp) (fs ls : List Int), ρ = [some (Tp.d t'), some (.own (.lst (ns.map .int))), some (.own (.lst (ls.map .int))), some (.own (.lst (fs.map .int)))] ∧ ls.length = k ∧ fs.sum + ls.sum = ns.sum ∧ fs.length + ls.length = ns.length ∧ (∀ x ∈ fs, (1 : Int) ≤ x) ∧ (∀ x ∈ ls, (1 : Int) ≤ x)) (by
      rintro k ρ ⟨t', fs, ls, rfl, k0, k1, k2, k3, k4⟩
      cases ls with
      | nil =>
        refine .inl ⟨[some (Tp.d t'), some (.own (.lst (ns.map .int))), some (.own (.lst [])), some (.own (.lst (fs.map .int)))], ?_, t', fs, rfl, by simpa using k1, by simpa using k2, k3⟩
        simp only [List.map, List.replicate, List.cons_append, List.nil_append, List.length_cons, List.length_nil, List.set_cons_zero, List.set_cons_succ, e_lit, e_loc, e_fld, e_at, e_tup, e_lst, e_dct, e_bin, e_neg, e_cmp, e_cmp2, e_sub, e_slc, e_rev, e_bi, e_bi2, e_isi, e_call, l_nil, l_cons, a_nil, a_cons, e_and, e_or, e_not, e_ite, brl_t, brl_f, fls, trs, x_nm, x_ret0, x_ret, x_setI, xc_cons, xc_nil, x_if, sq_nx, sq_ret, sq_ex, sq_cont, pkB2, pkB, rp, qe, slot0, slotS, un_ow1, un_int, un_bl, un_str, un_tup, un_lst, un_scr, un_non, un_ins, un_dct, un_exc, ow_own, ow_int, ow_bl, ow_str, ow_tup, ow_lst, ow_scr, ow_non, ow_ins, ow_dct, ow_exc, plain,  ↓to_bnd, bnd_ok, bnd_ex, R.of_some, it0, it1, it2, it3, it4, tt0, tt1, tt2, Option.map_some, olOf, isOL, Option.isSome, Bool.false_eq_true, if_false, if_true, b_len, cv_gt]
        rfl
      | cons a ls0 =>
        refine .inr ?_
        generalize hl : a :: ls0 = ls at *
        have hp : 0 < ls.length := by rw [← hl]; simp
        obtain ⟨r, t2, r0, r1, e⟩ := c_pick (n - 1 - 1) t' ls.length (by omega) (by omega)
        rw [show n - 1 - 1 + 1 = n - 1 by omega] at e
        obtain ⟨j, rfl⟩ : ∃ j : Nat, r = j := ⟨r.toNat, by omega⟩
        have hj : j < ls.length := by omega
        have hx : (ls.map D.int)[j]? = some (.int ls[j]) := by simp [hj]
        have he : (ls.map D.int).eraseIdx j = (ls.eraseIdx j).map .int := erase_map _ _ _
        refine ⟨[some (Tp.d t'), some (.own (.lst (ns.map .int))), some (.own (.lst (ls.map .int))), some (.own (.lst (fs.map .int)))], [some (Tp.d t2), some (.own (.lst (ns.map .int))), some (.own (.lst ((ls.eraseIdx j).map .int))), some (.own (.lst ((fs ++ [ls[j]]).map .int)))], ls.length - 1, ?_, ?_, by omega, t2, fs ++ [ls[j]], ls.eraseIdx j, rfl, by rw [List.length_eraseIdx]; simp [hj], ?_, ?_, ?_, ?_⟩
        · simp only [List.map, List.replicate, List.cons_append, List.nil_append, List.length_cons, List.length_nil, List.set_cons_zero, List.set_cons_succ, e_lit, e_loc, e_fld, e_at, e_tup, e_lst, e_dct, e_bin, e_neg, e_cmp, e_cmp2, e_sub, e_slc, e_rev, e_bi, e_bi2, e_isi, e_call, l_nil, l_cons, a_nil, a_cons, e_and, e_or, e_not, e_ite, brl_t, brl_f, fls, trs, x_nm, x_ret0, x_ret, x_setI, xc_cons, xc_nil, x_if, sq_nx, sq_ret, sq_ex, sq_cont, pkB2, pkB, rp, qe, slot0, slotS, un_ow1, un_int, un_bl, un_str, un_tup, un_lst, un_scr, un_non, un_ins, un_dct, un_exc, ow_own, ow_int, ow_bl, ow_str, ow_tup, ow_lst, ow_scr, ow_non, ow_ins, ow_dct, ow_exc, plain,  ↓to_bnd, bnd_ok, bnd_ex, R.of_some, it0, it1, it2, it3, it4, tt0, tt1, tt2, Option.map_some, olOf, isOL, Option.isSome, Bool.false_eq_true, if_false, if_true, b_len, cv_gt, List.length_map, show ((0 : Int) < (ls.length : Int)) by omega, decide_true]
        · have hlt : ¬ line < (ls.map D.int).length := by rw [List.length_map]; unfold line; omega
          have hlt2 : (fs.map D.int).length < line := by rw [List.length_map]; unfold line; omega
          simp only [List.map, List.replicate, List.cons_append, List.nil_append, List.length_cons, List.length_nil, List.set_cons_zero, List.set_cons_succ, e_lit, e_loc, e_fld, e_at, e_tup, e_lst, e_dct, e_bin, e_neg, e_cmp, e_cmp2, e_sub, e_slc, e_rev, e_bi, e_bi2, e_isi, e_call, l_nil, l_cons, a_nil, a_cons, e_and, e_or, e_not, e_ite, brl_t, brl_f, fls, trs, x_nm, x_ret0, x_ret, x_setI, xc_cons, xc_nil, x_if, sq_nx, sq_ret, sq_ex, sq_cont, pkB2, pkB, rp, qe, slot0, slotS, un_ow1, un_int, un_bl, un_str, un_tup, un_lst, un_scr, un_non, un_ins, un_dct, un_exc, ow_own, ow_int, ow_bl, ow_str, ow_tup, ow_lst, ow_scr, ow_non, ow_ins, ow_dct, ow_exc, plain,  ↓to_bnd, bnd_ok, bnd_ex, R.of_some, it0, it1, it2, it3, it4, tt0, tt1, tt2, Option.map_some, olOf, isOL, Option.isSome, Bool.false_eq_true, if_false, if_true, calls, grab, back, recvOf, List.getElem?_cons_zero, List.getElem?_cons_succ, x_ex, e_app, e_pop, oT, b_len, List.length_map, e, popR, ixN_lit _ _ hj, hx, he, decide_eq_true_eq, Bool.or_self, decide_false, appR]
          rw [List.length_map] at hlt hlt2
          simp only [hlt, decide_false, Bool.or_false, Bool.false_eq_true, if_false, R.bind_ok, List.map, List.replicate, List.cons_append, List.nil_append, List.length_cons, List.length_nil, List.set_cons_zero, List.set_cons_succ, e_lit, e_loc, e_fld, e_at, e_tup, e_lst, e_dct, e_bin, e_neg, e_cmp, e_cmp2, e_sub, e_slc, e_rev, e_bi, e_bi2, e_isi, e_call, l_nil, l_cons, a_nil, a_cons, e_and, e_or, e_not, e_ite, brl_t, brl_f, fls, trs, x_nm, x_ret0, x_ret, x_setI, xc_cons, xc_nil, x_if, sq_nx, sq_ret, sq_ex, sq_cont, pkB2, pkB, rp, qe, slot0, slotS, un_ow1, un_int, un_bl, un_str, un_tup, un_lst, un_scr, un_non, un_ins, un_dct, un_exc, ow_own, ow_int, ow_bl, ow_str, ow_tup, ow_lst, ow_scr, ow_non, ow_ins, ow_dct, ow_exc, plain,  ↓to_bnd, bnd_ok, bnd_ex, R.of_some, it0, it1, it2, it3, it4, tt0, tt1, tt2, Option.map_some, olOf, isOL, Option.isSome, Bool.false_eq_true, if_false, if_true, appR, hlt2, List.length_map, if_true, List.map_append, List.map_cons, List.map_nil]
        · have := sum_erase ls j hj
          rw [sum_app]
          simp only [List.sum_cons, List.sum_nil]
          omega
        · rw [List.length_eraseIdx]
          simp only [List.length_append, List.length_cons, List.length_nil, hj, if_true]
          omega
        · intro x hx
          rcases List.mem_append.1 hx with hx | hx
          · exact k3 x hx
          · simp only [List.mem_singleton] at hx
            rw [hx]
            exact k4 _ (List.getElem_mem hj)
        · intro x hx
          exact k4 x (List.mem_of_mem_eraseIdx hx))
    fuel ns.length [some (Tp.d t), some (.own (.lst (ns.map .int))), some (.own (.lst (ns.map .int))), some (.own (.lst []))] ⟨t, [], ns, rfl, rfl, by simp, by simp, by simp, h1⟩ (by have := fuel_gt; omega)
  subst hρ
  refine ⟨t', fs, k1, k2, k3, ?_⟩
  have bl : b1 .list (.lst (ns.map .int)) = some (.own (.lst (ns.map .int))) := rfl
  simp only [fd103, List.map, List.replicate, List.cons_append, List.nil_append, List.length_cons, List.length_nil, List.set_cons_zero, List.set_cons_succ, e_lit, e_loc, e_fld, e_at, e_tup, e_lst, e_dct, e_bin, e_neg, e_cmp, e_cmp2, e_sub, e_slc, e_rev, e_bi, e_bi2, e_isi, e_call, l_nil, l_cons, a_nil, a_cons, e_and, e_or, e_not, e_ite, brl_t, brl_f, fls, trs, x_nm, x_ret0, x_ret, x_setI, xc_cons, xc_nil, x_if, sq_nx, sq_ret, sq_ex, sq_cont, pkB2, pkB, rp, qe, slot0, slotS, un_ow1, un_int, un_bl, un_str, un_tup, un_lst, un_scr, un_non, un_ins, un_dct, un_exc, ow_own, ow_int, ow_bl, ow_str, ow_tup, ow_lst, ow_scr, ow_non, ow_ins, ow_dct, ow_exc, plain,  ↓to_bnd, bnd_ok, bnd_ex, R.of_some, it0, it1, it2, it3, it4, tt0, tt1, tt2, Option.map_some, olOf, isOL, Option.isSome, Bool.false_eq_true, if_false, if_true, x_par2, x_while, bl, Nat.reduceAdd, Nat.reduceLT]
  rw [e]
  simp only [List.map, List.replicate, List.cons_append, List.nil_append, List.length_cons, List.length_nil, List.set_cons_zero, List.set_cons_succ, e_lit, e_loc, e_fld, e_at, e_tup, e_lst, e_dct, e_bin, e_neg, e_cmp, e_cmp2, e_sub, e_slc, e_rev, e_bi, e_bi2, e_isi, e_call, l_nil, l_cons, a_nil, a_cons, e_and, e_or, e_not, e_ite, brl_t, brl_f, fls, trs, x_nm, x_ret0, x_ret, x_setI, xc_cons, xc_nil, x_if, sq_nx, sq_ret, sq_ex, sq_cont, pkB2, pkB, rp, qe, slot0, slotS, un_ow1, un_int, un_bl, un_str, un_tup, un_lst, un_scr, un_non, un_ins, un_dct, un_exc, ow_own, ow_int, ow_bl, ow_str, ow_tup, ow_lst, ow_scr, ow_non, ow_ins, ow_dct, ow_exc, plain,  ↓to_bnd, bnd_ok, bnd_ex, R.of_some, it0, it1, it2, it3, it4, tt0, tt1, tt2, Option.map_some, olOf, isOL, Option.isSome, Bool.false_eq_true, if_false, if_true, fin_ret, outsOf]
end Vm

/-! #### part P11 -/
namespace Vm
open PySem
theorem min_i (i j : Int) : b2 .min2 (.int i) (.int j) = some (.int (if j < i then j else i)) := Eq.trans rfl rfl
theorem x_asgE (i e) (C : Cf) (ρ : Env) : exec kls (.asg (.nm i) e) C ρ = (ev kls C e ρ).bind fun d ρ1 => if i < ρ1.length then .ok .nx (ρ1.set i (some d)) else .no := x_nm C ρ i e
/-- classes that come to the whole -/
structure ClsOk (w : Int) (cs : List Int) : Prop where
  sum : cs.sum = w
  pos : ∀ x ∈ cs, (1 : Int) ≤ x
  len : cs.length ≤ 200
theorem len_sum : ∀ {cs : List Int}, (∀ x ∈ cs, (1 : Int) ≤ x) → (cs.length : Int) ≤ cs.sum
  | [], _ => by simp
  | c :: cs, h => by
    have := len_sum fun x hx => h x (List.mem_cons_of_mem _ hx)
    have h2 := h c (by simp)
    simp only [List.length_cons, List.sum_cons]
    omega
theorem ClsOk.of {w : Int} {cs : List Int} (h : cs.sum = w) (h2 : ∀ x ∈ cs, (1 : Int) ≤ x) (h3 : w ≤ 126) : ClsOk w cs := ⟨h, h2, by have := len_sum h2; omega⟩
theorem rep_sum : ∀ k : Nat, (List.replicate k (1 : Int)).sum = k
  | 0 => rfl
  | k + 1 => by rw [List.replicate_succ, List.sum_cons, rep_sum k]; omega
theorem c_classes {n : Nat} (hn : 3 ≤ n) (t : Tp) (w : Int) (h1 : 1 ≤ w) (h2 : w ≤ 126) : ∃ (t' : Tp) (cs : List Int), ClsOk w cs ∧ callF kls gam n 106 [Tp.d t, .int w] = .ok (.tup (cs.map .int)) [some (Tp.d t'), some (.int w)] := by
  rw [call_eq' (by omega) (fd := fd106) rfl rfl]
  obtain ⟨r, t1, r0, r1, e1⟩ := c_pick (n - 1 - 1) t 5 (by omega) (by omega)
  rw [show n - 1 - 1 + 1 = n - 1 by omega] at e1
  by_cases hr0 : r = 0
  · refine ⟨t1, [w], .of (by simp) (by simp; exact h1) h2, ?_⟩
    simp only [fd106, List.map, List.replicate, List.cons_append, List.nil_append, List.length_cons, List.length_nil, List.set_cons_zero, List.set_cons_succ, e_lit, e_loc, e_fld, e_at, e_tup, e_lst, e_dct, e_bin, e_neg, e_cmp, e_cmp2, e_sub, e_slc, e_rev, e_bi, e_bi2, e_isi, e_call, l_nil, l_cons, a_nil, a_cons, e_and, e_or, e_not, e_ite, brl_t, brl_f, fls, trs, x_nm, x_ret0, x_ret, x_setI, xc_cons, xc_nil, x_if, sq_nx, sq_ret, sq_ex, sq_cont, pkB2, pkB, rp, qe, slot0, slotS, un_ow1, un_int, un_bl, un_str, un_tup, un_lst, un_scr, un_non, un_ins, un_dct, un_exc, ow_own, ow_int, ow_bl, ow_str, ow_tup, ow_lst, ow_scr, ow_non, ow_ins, ow_dct, ow_exc, plain,  ↓to_bnd, bnd_ok, bnd_ex, R.of_some, it0, it1, it2, it3, it4, tt0, tt1, tt2, Option.map_some, olOf, isOL, Option.isSome, Bool.false_eq_true, if_false, if_true, calls, grab, back, recvOf, List.getElem?_cons_zero, List.getElem?_cons_succ, oT, e1, x_par3, Nat.reduceAdd, Nat.reduceLT, cv_eq, hr0, decide_true, fin_ret, outsOf]
  by_cases hr1 : r = 1
  · refine ⟨t1, List.replicate w.toNat 1, .of (by rw [rep_sum]; omega) (by intro x hx; rw [(List.mem_replicate.1 hx).2]; omega) h2, ?_⟩
    have bm : bop .mul (.tup [.int 1]) (.int w) = some (.tup ((List.replicate w.toNat (1 : Int)).map .int)) := by
      have e : (List.replicate w.toNat [D.int 1]).flatten = (List.replicate w.toNat (1 : Int)).map .int := by
        generalize w.toNat = k
        induction k with
        | zero => rfl
        | succ k ih => rw [List.replicate_succ, List.replicate_succ, List.flatten_cons, ih]; rfl
      have k1 : decide (1 ≤ w) = true := decide_eq_true h1
      have k2 : decide (w ≤ 1000) = true := decide_eq_true (by omega)
      simp only [bop, k1, k2, Bool.and_self]
      rw [e]
      rfl
    have h10 : ¬ (1 : Int) = 0 := by decide
    simp only [fd106, List.map, List.replicate, List.cons_append, List.nil_append, List.length_cons, List.length_nil, List.set_cons_zero, List.set_cons_succ, e_lit, e_loc, e_fld, e_at, e_tup, e_lst, e_dct, e_bin, e_neg, e_cmp, e_cmp2, e_sub, e_slc, e_rev, e_bi, e_bi2, e_isi, e_call, l_nil, l_cons, a_nil, a_cons, e_and, e_or, e_not, e_ite, brl_t, brl_f, fls, trs, x_nm, x_ret0, x_ret, x_setI, xc_cons, xc_nil, x_if, sq_nx, sq_ret, sq_ex, sq_cont, pkB2, pkB, rp, qe, slot0, slotS, un_ow1, un_int, un_bl, un_str, un_tup, un_lst, un_scr, un_non, un_ins, un_dct, un_exc, ow_own, ow_int, ow_bl, ow_str, ow_tup, ow_lst, ow_scr, ow_non, ow_ins, ow_dct, ow_exc, plain,  ↓to_bnd, bnd_ok, bnd_ex, R.of_some, it0, it1, it2, it3, it4, tt0, tt1, tt2, Option.map_some, olOf, isOL, Option.isSome, Bool.false_eq_true, if_false, if_true, calls, grab, back, recvOf, List.getElem?_cons_zero, List.getElem?_cons_succ, oT, e1, x_par3, Nat.reduceAdd, Nat.reduceLT, cv_eq, hr1, h10, decide_true, decide_false, bm, fin_ret, outsOf]
  obtain ⟨x, t2, hx, e2⟩ := c_any (n := n - 1) (by omega) t1 (.own (.lst [.int 2, .int 3, .int 5, .int w])) [.int 2, .int 3, .int 5, .int w] rfl (by simp) (by simp) (by simp [D.isOwn])
  obtain ⟨m, rfl, hm⟩ : ∃ m : Int, x = .int m ∧ 1 ≤ m := by
    simp only [List.mem_cons, List.not_mem_nil, or_false] at hx
    rcases hx with rfl | rfl | rfl | rfl
    · exact ⟨2, rfl, by omega⟩
    · exact ⟨3, rfl, by omega⟩
    · exact ⟨5, rfl, by omega⟩
    · exact ⟨w, rfl, h1⟩
  obtain ⟨ρ', e3, t3, fs, z, hρ, k1, k2⟩ := whGo_ok (c := ev kls { Φ := callF kls gam (n - 1) } (.cmp .gt (.rd (.loc 4)) (.lit (.int 0)))) (body := execs kls [.asg (.nm 6) (.bin .add (.lit (.int 1)) (.call 101 [(.rd (.loc 0)), (.bi2 .min2 (.rd (.loc 4)) (.rd (.loc 5)))])), .ex (.app (.loc 3) (.rd (.loc 6))), .asg (.nm 4) (.bin .sub (.rd (.loc 4)) (.rd (.loc 6)))] { Φ := callF kls gam (n - 1) })
    (Q := fun ρ => ∃ (t' : Tp) (fs : List Int) (z : Option D), ρ = [some (Tp.d t'), some (.int w), some (.int r), some (.own (.lst (fs.map .int))), some (.int 0), some (.int m), z] ∧ fs.sum = w ∧ (∀ x ∈ fs, (1 : Int) ≤ x))
    (fun k ρ => ∃ (t' : Tp) (fs : List Int) (l : Int) (z : Option D), ρ = [some (Tp.d t'), some (.int w), some (.int r), some (.own (.lst (fs.map .int))), some (.int l), some (.int m), z] ∧ 0 ≤ l ∧ l.toNat = k ∧ fs.sum + l = w ∧ (∀ x ∈ fs, (1 : Int) ≤ x)) (by
      rintro k ρ ⟨t', fs, l, z, rfl, k0, k1, k2, k3⟩
      by_cases hl : l = 0
      · subst hl
        refine .inl ⟨[some (Tp.d t'), some (.int w), some (.int r), some (.own (.lst (fs.map .int))), some (.int 0), some (.int m), z], ?_, t', fs, z, rfl, by omega, k3⟩
        simp only [List.map, List.replicate, List.cons_append, List.nil_append, List.length_cons, List.length_nil, List.set_cons_zero, List.set_cons_succ, e_lit, e_loc, e_fld, e_at, e_tup, e_lst, e_dct, e_bin, e_neg, e_cmp, e_cmp2, e_sub, e_slc, e_rev, e_bi, e_bi2, e_isi, e_call, l_nil, l_cons, a_nil, a_cons, e_and, e_or, e_not, e_ite, brl_t, brl_f, fls, trs, x_nm, x_ret0, x_ret, x_setI, xc_cons, xc_nil, x_if, sq_nx, sq_ret, sq_ex, sq_cont, pkB2, pkB, rp, qe, slot0, slotS, un_ow1, un_int, un_bl, un_str, un_tup, un_lst, un_scr, un_non, un_ins, un_dct, un_exc, ow_own, ow_int, ow_bl, ow_str, ow_tup, ow_lst, ow_scr, ow_non, ow_ins, ow_dct, ow_exc, plain,  ↓to_bnd, bnd_ok, bnd_ex, R.of_some, it0, it1, it2, it3, it4, tt0, tt1, tt2, Option.map_some, olOf, isOL, Option.isSome, Bool.false_eq_true, if_false, if_true, cv_gt]
        rfl
      · have hl0 : 0 < l := by omega
        refine .inr ?_
        have hs0 := (le_sum k3).1
        obtain ⟨r2, t2, r20, r21, e⟩ := c_pick (n - 1 - 1) t' (if m < l then m else l) (by split <;> omega) (by split <;> omega)
        rw [show n - 1 - 1 + 1 = n - 1 by omega] at e
        have hb : r2 < l := by
          split at r21 <;> omega
        have hfl : fs.length ≤ 126 := by have := len_sum k3; omega
        have hlt : (fs.map D.int).length < line := by rw [List.length_map]; unfold line; omega
        refine ⟨[some (Tp.d t'), some (.int w), some (.int r), some (.own (.lst (fs.map .int))), some (.int l), some (.int m), z], [some (Tp.d t2), some (.int w), some (.int r), some (.own (.lst ((fs ++ [1 + r2]).map .int))), some (.int (l - (1 + r2))), some (.int m), some (.int (1 + r2))], (l - (1 + r2)).toNat, ?_, ?_, by omega, t2, fs ++ [1 + r2], l - (1 + r2), _, rfl, by omega, rfl, ?_, ?_⟩
        · simp only [List.map, List.replicate, List.cons_append, List.nil_append, List.length_cons, List.length_nil, List.set_cons_zero, List.set_cons_succ, e_lit, e_loc, e_fld, e_at, e_tup, e_lst, e_dct, e_bin, e_neg, e_cmp, e_cmp2, e_sub, e_slc, e_rev, e_bi, e_bi2, e_isi, e_call, l_nil, l_cons, a_nil, a_cons, e_and, e_or, e_not, e_ite, brl_t, brl_f, fls, trs, x_nm, x_ret0, x_ret, x_setI, xc_cons, xc_nil, x_if, sq_nx, sq_ret, sq_ex, sq_cont, pkB2, pkB, rp, qe, slot0, slotS, un_ow1, un_int, un_bl, un_str, un_tup, un_lst, un_scr, un_non, un_ins, un_dct, un_exc, ow_own, ow_int, ow_bl, ow_str, ow_tup, ow_lst, ow_scr, ow_non, ow_ins, ow_dct, ow_exc, plain,  ↓to_bnd, bnd_ok, bnd_ex, R.of_some, it0, it1, it2, it3, it4, tt0, tt1, tt2, Option.map_some, olOf, isOL, Option.isSome, Bool.false_eq_true, if_false, if_true, cv_gt, hl0, decide_true]
        · simp only [List.map, List.replicate, List.cons_append, List.nil_append, List.length_cons, List.length_nil, List.set_cons_zero, List.set_cons_succ, e_lit, e_loc, e_fld, e_at, e_tup, e_lst, e_dct, e_bin, e_neg, e_cmp, e_cmp2, e_sub, e_slc, e_rev, e_bi, e_bi2, e_isi, e_call, l_nil, l_cons, a_nil, a_cons, e_and, e_or, e_not, e_ite, brl_t, brl_f, fls, trs, x_nm, x_ret0, x_ret, x_setI, xc_cons, xc_nil, x_if, sq_nx, sq_ret, sq_ex, sq_cont, pkB2, pkB, rp, qe, slot0, slotS, un_ow1, un_int, un_bl, un_str, un_tup, un_lst, un_scr, un_non, un_ins, un_dct, un_exc, ow_own, ow_int, ow_bl, ow_str, ow_tup, ow_lst, ow_scr, ow_non, ow_ins, ow_dct, ow_exc, plain,  ↓to_bnd, bnd_ok, bnd_ex, R.of_some, it0, it1, it2, it3, it4, tt0, tt1, tt2, Option.map_some, olOf, isOL, Option.isSome, Bool.false_eq_true, if_false, if_true, calls, grab, back, recvOf, List.getElem?_cons_zero, List.getElem?_cons_succ, oT, min_i, e, bop_add, bop_sub, Nat.reduceAdd, Nat.reduceLT, x_ex, e_app, appR, hlt, List.map_append]
        · rw [sum_app]
          simp only [List.sum_cons, List.sum_nil]
          omega
        · intro x hx
          rcases List.mem_append.1 hx with hx | hx
          · exact k3 x hx
          · simp only [List.mem_singleton] at hx
            omega)
    fuel w.toNat [some (Tp.d t2), some (.int w), some (.int r), some (.own (.lst [])), some (.int w), some (.int m), none] ⟨t2, [], w, none, rfl, by omega, rfl, by simp, by simp⟩ (by have := fuel_gt; omega)
  subst hρ
  have hfl : fs.length ≤ 126 := by have := len_sum k2; omega
  obtain ⟨t4, gs, g1, g2, g3, e4⟩ := c_mixed (n := n - 1) (by omega) t3 fs (by omega) k2
  refine ⟨t4, gs, .of (g1.trans k1) g3 h2, ?_⟩
  have bt : b1 .tuple (.lst (gs.map .int)) = some (.tup (gs.map .int)) := rfl
  simp only [fd106, List.map, List.replicate, List.cons_append, List.nil_append, List.length_cons, List.length_nil, List.set_cons_zero, List.set_cons_succ, e_lit, e_loc, e_fld, e_at, e_tup, e_lst, e_dct, e_bin, e_neg, e_cmp, e_cmp2, e_sub, e_slc, e_rev, e_bi, e_bi2, e_isi, e_call, l_nil, l_cons, a_nil, a_cons, e_and, e_or, e_not, e_ite, brl_t, brl_f, fls, trs, x_nm, x_ret0, x_ret, x_setI, xc_cons, xc_nil, x_if, sq_nx, sq_ret, sq_ex, sq_cont, pkB2, pkB, rp, qe, slot0, slotS, un_ow1, un_int, un_bl, un_str, un_tup, un_lst, un_scr, un_non, un_ins, un_dct, un_exc, ow_own, ow_int, ow_bl, ow_str, ow_tup, ow_lst, ow_scr, ow_non, ow_ins, ow_dct, ow_exc, plain,  ↓to_bnd, bnd_ok, bnd_ex, R.of_some, it0, it1, it2, it3, it4, tt0, tt1, tt2, Option.map_some, olOf, isOL, Option.isSome, Bool.false_eq_true, if_false, if_true, calls, grab, back, recvOf, List.getElem?_cons_zero, List.getElem?_cons_succ, oT, e1, x_par3, Nat.reduceAdd, Nat.reduceLT, cv_eq, hr0, hr1, decide_false, e2, x_while]
  rw [e3]
  simp only [List.map, List.replicate, List.cons_append, List.nil_append, List.length_cons, List.length_nil, List.set_cons_zero, List.set_cons_succ, e_lit, e_loc, e_fld, e_at, e_tup, e_lst, e_dct, e_bin, e_neg, e_cmp, e_cmp2, e_sub, e_slc, e_rev, e_bi, e_bi2, e_isi, e_call, l_nil, l_cons, a_nil, a_cons, e_and, e_or, e_not, e_ite, brl_t, brl_f, fls, trs, x_nm, x_ret0, x_ret, x_setI, xc_cons, xc_nil, x_if, sq_nx, sq_ret, sq_ex, sq_cont, pkB2, pkB, rp, qe, slot0, slotS, un_ow1, un_int, un_bl, un_str, un_tup, un_lst, un_scr, un_non, un_ins, un_dct, un_exc, ow_own, ow_int, ow_bl, ow_str, ow_tup, ow_lst, ow_scr, ow_non, ow_ins, ow_dct, ow_exc, plain,  ↓to_bnd, bnd_ok, bnd_ex, R.of_some, it0, it1, it2, it3, it4, tt0, tt1, tt2, Option.map_some, olOf, isOL, Option.isSome, Bool.false_eq_true, if_false, if_true, calls, grab, back, recvOf, List.getElem?_cons_zero, List.getElem?_cons_succ, oT, e4, bt, fin_ret, outsOf]
end Vm

/-! #### part P12 -/
namespace Vm
open PySem
/-! ### lots -/
def tupI (l : List Int) : D := .tup (l.map .int)
def rngI (lo : Int) : Nat → List Int
  | 0 => []
  | n + 1 => lo :: rngI (lo + 1) n
theorem rng_map : ∀ (n : Nat) (lo : Int), rangeD lo n = (rngI lo n).map .int
  | 0, _ => rfl
  | n + 1, lo => by simp [rangeD, rngI, rng_map n]
def loI (l : List Int) : Int := match l.getLast? with
  | some x => x + 1
  | none => 0
def ext1 (p : Int) (l : List Int) : List (List Int) := (rngI (loI l) (p - loI l).toNat).map fun i => l ++ [i]
def lotsV (p : Int) : Nat → List (List Int)
  | 0 => [[]]
  | k + 1 => (lotsV p k).flatMap (ext1 p)
def fineL (p : Int) (k : Nat) : Bool := decide ((lotsV p k).length ≤ 126) && (lotsV p k).all fun l => decide (l.length ≤ 9) && l.all fun i => decide (0 ≤ i) && decide (i ≤ 9)
def fineG (p : Int) (k : Nat) : Bool := decide (((lotsV p k).length : Int) = cho p k) && (okD (.tup ((lotsV p k).map tupI)) && (decide (wt (.tup ((lotsV p k).map tupI)) ≤ line) && (decide ((D.tup ((lotsV p k).map tupI)).py.depth ≤ 60) && !(D.tup ((lotsV p k).map tupI)).py.hasDict)))
theorem lots_fine : ∀ (p : Int) (k : Nat), 0 ≤ p → p ≤ 9 → k ≤ 9 → fineL p k = true := by
  have h : ∀ p : _root_.Fin 10, ∀ k : _root_.Fin 10, fineL ((p : Nat) : Int) k = true := by decide +kernel
  intro p k h0 h1 h2
  obtain ⟨p, rfl⟩ : ∃ n : Nat, p = n := ⟨p.toNat, by omega⟩
  exact h ⟨p, by omega⟩ ⟨k, by omega⟩
theorem lots_fineG : ∀ (p : Int) (k : Nat), 0 ≤ p → p ≤ 9 → (k : Int) ≤ p → fineG p k = true := by
  have h : ∀ p : _root_.Fin 10, ∀ k : _root_.Fin 10, (k : Nat) ≤ p → fineG ((p : Nat) : Int) k = true := by decide +kernel
  intro p k h0 h1 h2
  obtain ⟨p, rfl⟩ : ∃ n : Nat, p = n := ⟨p.toNat, by omega⟩
  exact h ⟨p, by omega⟩ ⟨k, by omega⟩ (show k ≤ p by omega)
theorem item_last (l : List Int) (i : Int) : itemD (.tup ((l ++ [i]).map .int)) (.int (-1)) = some (.int i) := by
  simp only [itemD, List.length_map, List.length_append, List.length_cons, List.length_nil, ixN]
  rw [if_neg (by omega), if_pos (by omega)]
  simp only [Option.bind]
  rw [show (-1 + ((l.length + (0 + 1) : Nat) : Int)).toNat = l.length by omega]
  simp
theorem add_tup (l : List Int) (i : Int) (h : l.length ≤ 1000) : bop .add (.tup (l.map .int)) (.tup [.int i]) = some (.tup ((l ++ [i]).map .int)) := by
  simp only [bop, List.length_map, List.length_cons, List.length_nil]
  rw [if_pos (by unfold line; simp; omega)]
  simp
theorem un_ti (l) : (tupI l).un = tupI l := rfl
theorem ow_ti (l) : (tupI l).isOwn = false := rfl
def extR (i : Nat) (d : D) (ρ1 : Env) : R D := match olOf (slot ρ1 i), d.un with
        | some xs, .lst ys => if xs.length + ys.length ≤ line then .ok .non (ρ1.set i (some (.own (.lst (xs ++ ys))))) else .no
        | _, _ => .no
theorem e_ext (i e) (C : Cf) (ρ : Env) : ev kls C (.ext (.loc i) e) ρ = if isOL (slot ρ i) then (ev kls C e ρ).bind (extR i) else .no := by
  simp only [ev, locOf]
  rfl
def lotBody : List S := [.ex (.ext (.loc 4) (.comp false (.bin .add (.rd (.loc 5)) (.tup [(.rd (.loc 6))])) (.nm 6) (.rng [(.ite (.cmp .gt (.bi .len (.rd (.loc 5))) (.lit (.int 0))) (.bin .add (.rd (.at_ (.loc 5) (.neg (.lit (.int 1))))) (.lit (.int 1))) (.lit (.int 0))), (.rd (.loc 0))]) none [6]))]
theorem comp_lot (C : Cf) {p s : Int} {l : List Int} (hl : l.length ≤ 9) (F t : Option D) (X : D) : ∀ (k : Nat) (lo : Int) (acc : List (List Int)) (z : Option D), acc.length + k ≤ 1000 →
    ∃ z', compGo (stepC C (.nm 6) (.bin .add (.rd (.loc 5)) (.tup [(.rd (.loc 6))])) [6]) (rangeD lo k) [some (.int p), some (.int s), F, t, some X, some (tupI l), z] (acc.map tupI) =
      .ok ((acc ++ (rngI lo k).map fun i => l ++ [i]).map tupI) [some (.int p), some (.int s), F, t, some X, some (tupI l), z']
  | 0, lo, acc, z, _ => ⟨z, by simp [rangeD, compGo, rngI]⟩
  | k + 1, lo, acc, z, h => by
    obtain ⟨z', e⟩ := comp_lot C (p := p) (s := s) hl F t X k (lo + 1) (acc ++ [l ++ [lo]]) (some (.int lo)) (by simp; omega)
    refine ⟨z', ?_⟩
    have hlt : (acc.map tupI).length < line := by rw [List.length_map]; unfold line; omega
    have a1 : bop .add (tupI l) (.tup [.int lo]) = some (tupI (l ++ [lo])) := add_tup l lo (by omega)
    simp only [rangeD, compGo, step_nm, wipe, List.map, List.replicate, List.cons_append, List.nil_append, List.length_cons, List.length_nil, List.set_cons_zero, List.set_cons_succ, Nat.reduceAdd, Nat.reduceLT, e_lit, e_loc, e_fld, e_at, e_tup, e_lst, e_dct, e_bin, e_neg, e_cmp, e_cmp2, e_sub, e_slc, e_rev, e_bi, e_bi2, e_isi, e_call, l_nil, l_cons, a_nil, a_cons, e_and, e_or, e_not, e_ite, brl_t, brl_f, fls, trs, x_nm, x_ret0, x_ret, x_setI, xc_cons, xc_nil, x_if, sq_nx, sq_ret, sq_ex, sq_cont, pkB2, pkB, rp, qe, slot0, slotS, un_ow1, un_int, un_bl, un_str, un_tup, un_lst, un_scr, un_non, un_ins, un_dct, un_exc, ow_own, ow_int, ow_bl, ow_str, ow_tup, ow_lst, ow_scr, ow_non, ow_ins, ow_dct, ow_exc, plain,  ↓to_bnd, bnd_ok, bnd_ex, R.of_some, it0, it1, it2, it3, it4, tt0, tt1, tt2, Option.map_some, olOf, isOL, Option.isSome, Bool.false_eq_true, if_false, if_true, un_ti, a1, hlt]
    simp only [rngI, List.map_cons, List.map_append, List.map_nil, List.append_assoc, List.cons_append, List.nil_append] at e ⊢
    exact e
theorem lot_turn (C : Cf) {p s : Int} (h0 : 0 ≤ p) (hp : p ≤ 9) (F t : Option D) {l : List Int} (hl : l.length ≤ 9) (hi : ∀ i ∈ l, (0 : Int) ≤ i ∧ i ≤ 9) (acc : List (List Int)) (ha : acc.length + (ext1 p l).length ≤ 1000) :
    execs kls lotBody C [some (.int p), some (.int s), F, t, some (.own (.lst (acc.map tupI))), some (tupI l), none] = .ok .nx [some (.int p), some (.int s), F, t, some (.own (.lst ((acc ++ ext1 p l).map tupI))), some (tupI l), none] := by
  have hlo : 0 ≤ loI l ∧ loI l ≤ 10 := by
    unfold loI
    split
    · rename_i x hx
      have := hi x (List.mem_of_getLast? hx)
      omega
    · omega
  have hr := rng2 (i := loI l) (j := p) (by omega) (by omega) (by omega) (by omega)
  have he : ∀ z, ev kls C (.ite (.cmp .gt (.bi .len (.rd (.loc 5))) (.lit (.int 0))) (.bin .add (.rd (.at_ (.loc 5) (.neg (.lit (.int 1))))) (.lit (.int 1))) (.lit (.int 0))) [some (.int p), some (.int s), F, t, some (.own (.lst (acc.map tupI))), some (tupI l), z] = .ok (.int (loI l)) [some (.int p), some (.int s), F, t, some (.own (.lst (acc.map tupI))), some (tupI l), z] := by
    intro z
    rcases List.eq_nil_or_concat l with rfl | ⟨l', i, rfl⟩
    · simp only [tupI, List.map, List.replicate, List.cons_append, List.nil_append, List.length_cons, List.length_nil, List.set_cons_zero, List.set_cons_succ, e_lit, e_loc, e_fld, e_at, e_tup, e_lst, e_dct, e_bin, e_neg, e_cmp, e_cmp2, e_sub, e_slc, e_rev, e_bi, e_bi2, e_isi, e_call, l_nil, l_cons, a_nil, a_cons, e_and, e_or, e_not, e_ite, brl_t, brl_f, fls, trs, x_nm, x_ret0, x_ret, x_setI, xc_cons, xc_nil, x_if, sq_nx, sq_ret, sq_ex, sq_cont, pkB2, pkB, rp, qe, slot0, slotS, un_ow1, un_int, un_bl, un_str, un_tup, un_lst, un_scr, un_non, un_ins, un_dct, un_exc, ow_own, ow_int, ow_bl, ow_str, ow_tup, ow_lst, ow_scr, ow_non, ow_ins, ow_dct, ow_exc, plain,  ↓to_bnd, bnd_ok, bnd_ex, R.of_some, it0, it1, it2, it3, it4, tt0, tt1, tt2, Option.map_some, olOf, isOL, Option.isSome, Bool.false_eq_true, if_false, if_true, b_len2, cv_gt]
      rfl
    · rw [List.concat_eq_append]
      have hl2 : (0 : Int) < ((l' ++ [i]).map D.int).length := by simp
      simp only [tupI, List.map, List.replicate, List.cons_append, List.nil_append, List.length_cons, List.length_nil, List.set_cons_zero, List.set_cons_succ, e_lit, e_loc, e_fld, e_at, e_tup, e_lst, e_dct, e_bin, e_neg, e_cmp, e_cmp2, e_sub, e_slc, e_rev, e_bi, e_bi2, e_isi, e_call, l_nil, l_cons, a_nil, a_cons, e_and, e_or, e_not, e_ite, brl_t, brl_f, fls, trs, x_nm, x_ret0, x_ret, x_setI, xc_cons, xc_nil, x_if, sq_nx, sq_ret, sq_ex, sq_cont, pkB2, pkB, rp, qe, slot0, slotS, un_ow1, un_int, un_bl, un_str, un_tup, un_lst, un_scr, un_non, un_ins, un_dct, un_exc, ow_own, ow_int, ow_bl, ow_str, ow_tup, ow_lst, ow_scr, ow_non, ow_ins, ow_dct, ow_exc, plain,  ↓to_bnd, bnd_ok, bnd_ex, R.of_some, it0, it1, it2, it3, it4, tt0, tt1, tt2, Option.map_some, olOf, isOL, Option.isSome, Bool.false_eq_true, if_false, if_true, b_len2, cv_gt, hl2, decide_true, item_last, bop_add]
      simp [loI]
  obtain ⟨z', e⟩ := comp_lot C (p := p) (s := s) hl F t (.own (.lst (acc.map tupI))) (p - loI l).toNat (loI l) [] none (by
    simp only [ext1, List.length_map] at ha
    have : ∀ (n : Nat) (lo : Int), (rngI lo n).length = n := by
      intro n
      induction n with
      | zero => intro lo; rfl
      | succ n ih => intro lo; simp [rngI, ih]
    rw [this] at ha
    simp
    omega)
  have pz : plainAt [some (.int p), some (.int s), F, t, some (.own (.lst (acc.map tupI))), some (tupI l), none] [6] = true := by simp [plainAt, slot]
  have he := he none
  have hlt : (acc.map tupI).length + ((ext1 p l).map tupI).length ≤ line := by rw [List.length_map, List.length_map]; unfold line; omega
  simp only [List.map_nil, List.nil_append] at e
  simp only [lotBody, List.map, List.replicate, List.cons_append, List.nil_append, List.length_cons, List.length_nil, List.set_cons_zero, List.set_cons_succ, e_lit, e_loc, e_fld, e_at, e_tup, e_lst, e_dct, e_bin, e_neg, e_cmp, e_cmp2, e_sub, e_slc, e_rev, e_bi, e_bi2, e_isi, e_call, l_nil, l_cons, a_nil, a_cons, e_and, e_or, e_not, e_ite, brl_t, brl_f, fls, trs, x_nm, x_ret0, x_ret, x_setI, xc_cons, xc_nil, x_if, sq_nx, sq_ret, sq_ex, sq_cont, pkB2, pkB, rp, qe, slot0, slotS, un_ow1, un_int, un_bl, un_str, un_tup, un_lst, un_scr, un_non, un_ins, un_dct, un_exc, ow_own, ow_int, ow_bl, ow_str, ow_tup, ow_lst, ow_scr, ow_non, ow_ins, ow_dct, ow_exc, plain,  ↓to_bnd, bnd_ok, bnd_ex, R.of_some, it0, it1, it2, it3, it4, tt0, tt1, tt2, Option.map_some, olOf, isOL, Option.isSome, Bool.false_eq_true, if_false, if_true, x_ex, e_ext, e_comp, i_rng, he, hr, pz, e, rest, extR, List.map_append]
  change (acc.map tupI).length + (((rngI (loI l) (p - loI l).toNat).map fun i => l ++ [i]).map tupI).length ≤ line at hlt
  simp only [hlt, if_true, List.map, List.replicate, List.cons_append, List.nil_append, List.length_cons, List.length_nil, List.set_cons_zero, List.set_cons_succ, e_lit, e_loc, e_fld, e_at, e_tup, e_lst, e_dct, e_bin, e_neg, e_cmp, e_cmp2, e_sub, e_slc, e_rev, e_bi, e_bi2, e_isi, e_call, l_nil, l_cons, a_nil, a_cons, e_and, e_or, e_not, e_ite, brl_t, brl_f, fls, trs, x_nm, x_ret0, x_ret, x_setI, xc_cons, xc_nil, x_if, sq_nx, sq_ret, sq_ex, sq_cont, pkB2, pkB, rp, qe, slot0, slotS, un_ow1, un_int, un_bl, un_str, un_tup, un_lst, un_scr, un_non, un_ins, un_dct, un_exc, ow_own, ow_int, ow_bl, ow_str, ow_tup, ow_lst, ow_scr, ow_non, ow_ins, ow_dct, ow_exc, plain,  ↓to_bnd, bnd_ok, bnd_ex, R.of_some, it0, it1, it2, it3, it4, tt0, tt1, tt2, Option.map_some, olOf, isOL, Option.isSome, Bool.false_eq_true, if_false, if_true, ext1]
theorem flat_len (p : Int) (a b : List (List Int)) : ((a ++ b).flatMap (ext1 p)).length = (a.flatMap (ext1 p)).length + (b.flatMap (ext1 p)).length := by simp
theorem lots_row (C : Cf) {p s : Int} (h0 : 0 ≤ p) (hp : p ≤ 9) (F t : Option D) : ∀ (rem done : List (List Int)) (y : Option D), ((done ++ rem).flatMap (ext1 p)).length ≤ 1000 → (∀ l ∈ rem, l.length ≤ 9 ∧ ∀ i ∈ l, (0 : Int) ≤ i ∧ i ≤ 9) →
    ∃ y', forGo (.nm 5) (execs kls lotBody C) (rem.map tupI) [some (.int p), some (.int s), F, t, some (.own (.lst ((done.flatMap (ext1 p)).map tupI))), y, none] = .ok .nx [some (.int p), some (.int s), F, t, some (.own (.lst (((done ++ rem).flatMap (ext1 p)).map tupI))), y', none]
  | [], done, y, _, _ => ⟨y, by simp [forGo]⟩
  | l :: rem, done, y, h1, h2 => by
    obtain ⟨y', e⟩ := lots_row C (p := p) (s := s) h0 hp F t rem (done ++ [l]) (some (tupI l)) (by simpa using h1) (fun l hl => h2 l (List.mem_cons_of_mem _ hl))
    refine ⟨y', ?_⟩
    have hl := h2 l (by simp)
    have e1 := lot_turn C (p := p) (s := s) h0 hp F t hl.1 hl.2 (done.flatMap (ext1 p)) (by
      have : ((done ++ l :: rem).flatMap (ext1 p)).length = (done.flatMap (ext1 p)).length + ((ext1 p l).length + (rem.flatMap (ext1 p)).length) := by simp
      omega)
    simp only [List.map_cons, forGo, bindT, List.map, List.replicate, List.cons_append, List.nil_append, List.length_cons, List.length_nil, List.set_cons_zero, List.set_cons_succ, Nat.reduceAdd, Nat.reduceLT, e_lit, e_loc, e_fld, e_at, e_tup, e_lst, e_dct, e_bin, e_neg, e_cmp, e_cmp2, e_sub, e_slc, e_rev, e_bi, e_bi2, e_isi, e_call, l_nil, l_cons, a_nil, a_cons, e_and, e_or, e_not, e_ite, brl_t, brl_f, fls, trs, x_nm, x_ret0, x_ret, x_setI, xc_cons, xc_nil, x_if, sq_nx, sq_ret, sq_ex, sq_cont, pkB2, pkB, rp, qe, slot0, slotS, un_ow1, un_int, un_bl, un_str, un_tup, un_lst, un_scr, un_non, un_ins, un_dct, un_exc, ow_own, ow_int, ow_bl, ow_str, ow_tup, ow_lst, ow_scr, ow_non, ow_ins, ow_dct, ow_exc, plain,  ↓to_bnd, bnd_ok, bnd_ex, R.of_some, it0, it1, it2, it3, it4, tt0, tt1, tt2, Option.map_some, olOf, isOL, Option.isSome, Bool.false_eq_true, if_false, if_true, e1]
    have e2 : (done ++ [l]).flatMap (ext1 p) = done.flatMap (ext1 p) ++ ext1 p l := by simp
    rw [e2] at e
    rw [e]
    simp
theorem fine_len {p : Int} {k : Nat} (h : fineL p k = true) : (lotsV p k).length ≤ 126 := by
  simp only [fineL, Bool.and_eq_true, decide_eq_true_eq] at h
  exact h.1
theorem fine_mem {p : Int} {k : Nat} (h : fineL p k = true) : ∀ l ∈ lotsV p k, l.length ≤ 9 ∧ ∀ i ∈ l, (0 : Int) ≤ i ∧ i ≤ 9 := by
  simp only [fineL, Bool.and_eq_true, decide_eq_true_eq] at h
  intro l hl
  have := List.all_eq_true.1 h.2 l hl
  simp only [Bool.and_eq_true, decide_eq_true_eq] at this
  refine ⟨this.1, fun i hi => ?_⟩
  have := List.all_eq_true.1 this.2 i hi
  simp only [Bool.and_eq_true, decide_eq_true_eq] at this
  exact this
def lotOut : List S := [.asg (.nm 4) (.lst false []), .for_ (.nm 5) (.seq (.rd (.loc 2))) lotBody, .asg (.nm 2) (.rd (.loc 4))]
theorem unTI (L : List (List Int)) : (L.map tupI).map D.un = L.map tupI := by
  simp only [List.map_map]
  rfl
theorem lots_out (C : Cf) {p s : Int} (h0 : 0 ≤ p) (hp : p ≤ 9) : ∀ (n : Nat) (k : Nat) (lo : Int) (F : D) (t a b : Option D), k + n ≤ 9 → F.un = .lst ((lotsV p k).map tupI) →
    ∃ F' t' a' b', F'.un = .lst ((lotsV p (k + n)).map tupI) ∧ forGo (.nm 3) (execs kls lotOut C) (rangeD lo n) [some (.int p), some (.int s), some F, t, a, b, none] = .ok .nx [some (.int p), some (.int s), some F', t', a', b', none]
  | 0, k, lo, F, t, a, b, _, hF => ⟨F, t, a, b, hF, rfl⟩
  | n + 1, k, lo, F, t, a, b, h, hF => by
    obtain ⟨y', e1⟩ := lots_row C (p := p) (s := s) h0 hp (some F.un) (some (.int lo)) (lotsV p k) [] b (by
      have := fine_len (lots_fine p (k + 1) h0 hp (by omega))
      simp only [lotsV] at this
      simp only [List.nil_append]
      omega) (fine_mem (lots_fine p k h0 hp (by omega)))
    obtain ⟨F', t', a', b', hF', e2⟩ := lots_out C (p := p) (s := s) h0 hp n (k + 1) (lo + 1) (.lst ((lotsV p (k + 1)).map tupI)) (some (.int lo)) (some (.lst ((lotsV p (k + 1)).map tupI))) y' (by omega) rfl
    refine ⟨F', t', a', b', by rw [hF', show k + 1 + n = k + (n + 1) by omega], ?_⟩
    simp only [List.flatMap_nil, List.map_nil, List.nil_append] at e1
    simp only [rangeD, forGo, bindT, lotOut, List.map, List.replicate, List.cons_append, List.nil_append, List.length_cons, List.length_nil, List.set_cons_zero, List.set_cons_succ, Nat.reduceAdd, Nat.reduceLT, e_lit, e_loc, e_fld, e_at, e_tup, e_lst, e_dct, e_bin, e_neg, e_cmp, e_cmp2, e_sub, e_slc, e_rev, e_bi, e_bi2, e_isi, e_call, l_nil, l_cons, a_nil, a_cons, e_and, e_or, e_not, e_ite, brl_t, brl_f, fls, trs, x_nm, x_ret0, x_ret, x_setI, xc_cons, xc_nil, x_if, sq_nx, sq_ret, sq_ex, sq_cont, pkB2, pkB, rp, qe, slot0, slotS, un_ow1, un_int, un_bl, un_str, un_tup, un_lst, un_scr, un_non, un_ins, un_dct, un_exc, ow_own, ow_int, ow_bl, ow_str, ow_tup, ow_lst, ow_scr, ow_non, ow_ins, ow_dct, ow_exc, plain,  ↓to_bnd, bnd_ok, bnd_ex, R.of_some, it0, it1, it2, it3, it4, tt0, tt1, tt2, Option.map_some, olOf, isOL, Option.isSome, Bool.false_eq_true, if_false, if_true, x_for, i_seq, hF, itemsI, unTI] at e1 ⊢
    rw [e1]
    simp only [List.map, List.replicate, List.cons_append, List.nil_append, List.length_cons, List.length_nil, List.set_cons_zero, List.set_cons_succ, e_lit, e_loc, e_fld, e_at, e_tup, e_lst, e_dct, e_bin, e_neg, e_cmp, e_cmp2, e_sub, e_slc, e_rev, e_bi, e_bi2, e_isi, e_call, l_nil, l_cons, a_nil, a_cons, e_and, e_or, e_not, e_ite, brl_t, brl_f, fls, trs, x_nm, x_ret0, x_ret, x_setI, xc_cons, xc_nil, x_if, sq_nx, sq_ret, sq_ex, sq_cont, pkB2, pkB, rp, qe, slot0, slotS, un_ow1, un_int, un_bl, un_str, un_tup, un_lst, un_scr, un_non, un_ins, un_dct, un_exc, ow_own, ow_int, ow_bl, ow_str, ow_tup, ow_lst, ow_scr, ow_non, ow_ins, ow_dct, ow_exc, plain,  ↓to_bnd, bnd_ok, bnd_ex, R.of_some, it0, it1, it2, it3, it4, tt0, tt1, tt2, Option.map_some, olOf, isOL, Option.isSome, Bool.false_eq_true, if_false, if_true, Nat.reduceAdd, Nat.reduceLT]
    exact e2
theorem c_lots9 {n : Nat} (hn : 1 ≤ n) {p s : Int} (h0 : 0 ≤ p) (hp : p ≤ 9) (h1 : 0 ≤ s) (h2 : s ≤ p) : ∃ F, F.un = .lst ((lotsV p s.toNat).map tupI) ∧ callF kls gam n 9 [.int p, .int s] = .ok F [some (.int p), some (.int s)] ∧ callF kls gam n 104 [.int p, .int s] = .ok F [some (.int p), some (.int s)] := by
  have hb : fd9.body = [.asg (.nm 2) (.lst false [(.tup [])]), .for_ (.nm 3) (.rng [(.rd (.loc 1))]) lotOut, .ret (.rd (.loc 2))] := rfl
  obtain ⟨F', t', a', b', hF', e2⟩ := lots_out { Φ := callF kls gam (n - 1) } (p := p) (s := s) h0 hp s.toNat 0 0 (.own (.lst [.tup []])) none none none (by omega) rfl
  have key : fin fd9.keep (execs kls fd9.body { Φ := callF kls gam (n - 1) } (List.map some [.int p, .int s] ++ List.replicate (fd9.ns - fd9.np) none)) = .ok F' [some (.int p), some (.int s)] := by
    rw [hb]
    have hk : fd9.keep = [true, true] := rfl
    have hs : fd9.ns - fd9.np = 5 := rfl
    rw [hk, hs]
    simp only [List.map, List.replicate, List.cons_append, List.nil_append, List.length_cons, List.length_nil, List.set_cons_zero, List.set_cons_succ, e_lit, e_loc, e_fld, e_at, e_tup, e_lst, e_dct, e_bin, e_neg, e_cmp, e_cmp2, e_sub, e_slc, e_rev, e_bi, e_bi2, e_isi, e_call, l_nil, l_cons, a_nil, a_cons, e_and, e_or, e_not, e_ite, brl_t, brl_f, fls, trs, x_nm, x_ret0, x_ret, x_setI, xc_cons, xc_nil, x_if, sq_nx, sq_ret, sq_ex, sq_cont, pkB2, pkB, rp, qe, slot0, slotS, un_ow1, un_int, un_bl, un_str, un_tup, un_lst, un_scr, un_non, un_ins, un_dct, un_exc, ow_own, ow_int, ow_bl, ow_str, ow_tup, ow_lst, ow_scr, ow_non, ow_ins, ow_dct, ow_exc, plain,  ↓to_bnd, bnd_ok, bnd_ex, R.of_some, it0, it1, it2, it3, it4, tt0, tt1, tt2, Option.map_some, olOf, isOL, Option.isSome, Bool.false_eq_true, if_false, if_true, x_for, i_rng, Nat.reduceAdd, Nat.reduceLT, rng1 h1 (show s ≤ 1000 by omega)]
    rw [e2]
    simp only [List.map, List.replicate, List.cons_append, List.nil_append, List.length_cons, List.length_nil, List.set_cons_zero, List.set_cons_succ, e_lit, e_loc, e_fld, e_at, e_tup, e_lst, e_dct, e_bin, e_neg, e_cmp, e_cmp2, e_sub, e_slc, e_rev, e_bi, e_bi2, e_isi, e_call, l_nil, l_cons, a_nil, a_cons, e_and, e_or, e_not, e_ite, brl_t, brl_f, fls, trs, x_nm, x_ret0, x_ret, x_setI, xc_cons, xc_nil, x_if, sq_nx, sq_ret, sq_ex, sq_cont, pkB2, pkB, rp, qe, slot0, slotS, un_ow1, un_int, un_bl, un_str, un_tup, un_lst, un_scr, un_non, un_ins, un_dct, un_exc, ow_own, ow_int, ow_bl, ow_str, ow_tup, ow_lst, ow_scr, ow_non, ow_ins, ow_dct, ow_exc, plain,  ↓to_bnd, bnd_ok, bnd_ex, R.of_some, it0, it1, it2, it3, it4, tt0, tt1, tt2, Option.map_some, olOf, isOL, Option.isSome, Bool.false_eq_true, if_false, if_true, fin_ret, outsOf]
  refine ⟨F', by simpa using hF', ?_, ?_⟩
  · rw [call_eq' (by omega) (fd := fd9) rfl rfl]
    exact key
  · rw [call_eq' (by omega) (fd := fd104) rfl rfl]
    exact key
end Vm

/-! #### part P13 -/
namespace Vm
open PySem
theorem okI {i : Int} (h : i.natAbs < 10 ^ 40) : okD (.int i) = true := by
  simp only [okD, decide_eq_true_eq]
  by_cases h0 : i.natAbs = 0
  · rw [h0]; decide
  · rw [Nat.log2_lt h0]
    exact Nat.lt_trans h (by decide +kernel)
theorem small_abs {i : Int} (h : -1000 ≤ i) (h2 : i ≤ 1000) : small64 i = true := small_of (by omega) (by omega)
/-! ### the plan's defs -/
def PV (P a b c : D) : Prop := P = .own (planV a b c) ∨ P = planV a b c
theorem c_all {n : Nat} (hn : 2 ≤ n) {p s : Int} {c P : D} (hP : PV P (.int p) (.int s) c) (h0 : 0 ≤ p) (hp : p ≤ 9) (h1 : 0 ≤ s) (h2 : s ≤ p) : callF kls gam n 10 [P] = .ok (.tup ((lotsV p s.toNat).map tupI)) [some P] := by
  rw [call_eq' (by omega) (fd := fd10) rfl rfl]
  obtain ⟨F, hF, e, _⟩ := c_lots9 (n := n - 1) (by omega) h0 hp h1 h2
  have bt : b1 .tuple (.lst ((lotsV p s.toNat).map tupI)) = some (.tup ((lotsV p s.toNat).map tupI)) := rfl
  rcases hP with rfl | rfl <;> simp only [fd10, List.map, List.replicate, List.cons_append, List.nil_append, List.length_cons, List.length_nil, List.set_cons_zero, List.set_cons_succ, e_lit, e_loc, e_fld, e_at, e_tup, e_lst, e_dct, e_bin, e_neg, e_cmp, e_cmp2, e_sub, e_slc, e_rev, e_bi, e_bi2, e_isi, e_call, l_nil, l_cons, a_nil, a_cons, e_and, e_or, e_not, e_ite, brl_t, brl_f, fls, trs, x_nm, x_ret0, x_ret, x_setI, xc_cons, xc_nil, x_if, sq_nx, sq_ret, sq_ex, sq_cont, pkB2, pkB, rp, qe, slot0, slotS, un_ow1, un_int, un_bl, un_str, un_tup, un_lst, un_scr, un_non, un_ins, un_dct, un_exc, ow_own, ow_int, ow_bl, ow_str, ow_tup, ow_lst, ow_scr, ow_non, ow_ins, ow_dct, ow_exc, plain,  ↓to_bnd, bnd_ok, bnd_ex, R.of_some, it0, it1, it2, it3, it4, tt0, tt1, tt2, Option.map_some, olOf, isOL, Option.isSome, Bool.false_eq_true, if_false, if_true, calls, grab, back, recvOf, List.getElem?_cons_zero, List.getElem?_cons_succ, fl0, fl1, un_pv, ow_pv, e, hF, bt, fin_ret, outsOf]
theorem c_check_ok {n : Nat} (hn : 3 ≤ n) {a b P d : D} {xs : List D} (hP : PV P a b (.tup xs)) (hd : pl d = true) (h : inR 0 (xs.length - 1) d = true) : callF kls gam n 11 [P, d] = .ok .non [some P, some d] := by
  rw [call_eq' (by omega) (fd := fd11) rfl rfl]
  have c1 := c_from (n := n - 1) (by omega) d hd 0 (xs.length - 1)
  have od := own_pl hd
  rcases hP with rfl | rfl <;> simp only [fd11, List.map, List.replicate, List.cons_append, List.nil_append, List.length_cons, List.length_nil, List.set_cons_zero, List.set_cons_succ, e_lit, e_loc, e_fld, e_at, e_tup, e_lst, e_dct, e_bin, e_neg, e_cmp, e_cmp2, e_sub, e_slc, e_rev, e_bi, e_bi2, e_isi, e_call, l_nil, l_cons, a_nil, a_cons, e_and, e_or, e_not, e_ite, brl_t, brl_f, fls, trs, x_nm, x_ret0, x_ret, x_setI, xc_cons, xc_nil, x_if, sq_nx, sq_ret, sq_ex, sq_cont, pkB2, pkB, rp, qe, slot0, slotS, un_ow1, un_int, un_bl, un_str, un_tup, un_lst, un_scr, un_non, un_ins, un_dct, un_exc, ow_own, ow_int, ow_bl, ow_str, ow_tup, ow_lst, ow_scr, ow_non, ow_ins, ow_dct, ow_exc, plain,  ↓to_bnd, bnd_ok, bnd_ex, R.of_some, it0, it1, it2, it3, it4, tt0, tt1, tt2, Option.map_some, olOf, isOL, Option.isSome, Bool.false_eq_true, if_false, if_true, calls, grab, back, recvOf, List.getElem?_cons_zero, List.getElem?_cons_succ, fl2, un_pv, ow_pv, od, b_len2, bop_sub, c1, h, fin_nx, outsOf]
theorem c_check_bad {n : Nat} (hn : 3 ≤ n) {a b P d : D} {xs : List D} (hP : PV P a b (.tup xs)) (hd : pl d = true) (h : inR 0 (xs.length - 1) d = false) : callF kls gam n 11 [P, d] = .ex (.exc 2 []) [some P, some d] := by
  rw [call_eq' (by omega) (fd := fd11) rfl rfl]
  have c1 := c_from (n := n - 1) (by omega) d hd 0 (xs.length - 1)
  have od := own_pl hd
  rcases hP with rfl | rfl <;> simp only [fd11, List.map, List.replicate, List.cons_append, List.nil_append, List.length_cons, List.length_nil, List.set_cons_zero, List.set_cons_succ, e_lit, e_loc, e_fld, e_at, e_tup, e_lst, e_dct, e_bin, e_neg, e_cmp, e_cmp2, e_sub, e_slc, e_rev, e_bi, e_bi2, e_isi, e_call, l_nil, l_cons, a_nil, a_cons, e_and, e_or, e_not, e_ite, brl_t, brl_f, fls, trs, x_nm, x_ret0, x_ret, x_setI, xc_cons, xc_nil, x_if, sq_nx, sq_ret, sq_ex, sq_cont, pkB2, pkB, rp, qe, slot0, slotS, un_ow1, un_int, un_bl, un_str, un_tup, un_lst, un_scr, un_non, un_ins, un_dct, un_exc, ow_own, ow_int, ow_bl, ow_str, ow_tup, ow_lst, ow_scr, ow_non, ow_ins, ow_dct, ow_exc, plain,  ↓to_bnd, bnd_ok, bnd_ex, R.of_some, it0, it1, it2, it3, it4, tt0, tt1, tt2, Option.map_some, olOf, isOL, Option.isSome, Bool.false_eq_true, if_false, if_true, calls, grab, back, recvOf, List.getElem?_cons_zero, List.getElem?_cons_succ, fl2, un_pv, ow_pv, od, b_len2, bop_sub, c1, h, x_raise, fin_ex, outsOf]
theorem item_tup {xs : List D} {x : D} {k : Nat} (h : xs[k]? = some x) : itemD (.tup xs) (.int k) = some x := by
  have hk : k < xs.length := by
    rcases Nat.lt_or_ge k xs.length with h' | h'
    · exact h'
    · rw [List.getElem?_eq_none h'] at h; cases h
  simp only [itemD, ixN_lit _ _ hk, Option.bind, h]
theorem c_stands_ok {n : Nat} (hn : 4 ≤ n) {p s z k : Int} {P : D} {xs : List D} (hP : PV P (.int p) (.int s) (.tup xs)) (hp : 0 < p) (hp2 : p ≤ 9) (hs : 0 ≤ s) (hs2 : s ≤ 9) (h0 : 0 ≤ k) (h1 : k < xs.length) (hz : itemD (.tup xs) (.int k) = some (.int z)) :
    callF kls gam n 13 [P, .int k] = .ok (.tup [.int (z * s / p), .int ((z * s + p - 1) / p)]) [some P, some (.int k)] := by
  rw [call_eq' (by omega) (fd := fd13) rfl rfl]
  have hin : inR 0 (xs.length - 1) (.int k) = true := by simp [inR]; omega
  have c1 := c_check_ok (n := n - 1) (by omega) hP (d := .int k) rfl hin
  have c2 : callF kls gam (n - 1) 12 [P, .int k] = .ok (.tup [.int (z * s / p), .int ((z * s + p - 1) / p)]) [some P, some (.int k)] := by
    rw [call_eq' (by omega) (fd := fd12) rfl rfl]
    have bm : bop .mul (.int z) (.int s) = some (.int (z * s)) := bop_mulR z s (small_abs (by omega) (by omega))
    rcases hP with rfl | rfl <;> simp only [fd12, List.map, List.replicate, List.cons_append, List.nil_append, List.length_cons, List.length_nil, List.set_cons_zero, List.set_cons_succ, e_lit, e_loc, e_fld, e_at, e_tup, e_lst, e_dct, e_bin, e_neg, e_cmp, e_cmp2, e_sub, e_slc, e_rev, e_bi, e_bi2, e_isi, e_call, l_nil, l_cons, a_nil, a_cons, e_and, e_or, e_not, e_ite, brl_t, brl_f, fls, trs, x_nm, x_ret0, x_ret, x_setI, xc_cons, xc_nil, x_if, sq_nx, sq_ret, sq_ex, sq_cont, pkB2, pkB, rp, qe, slot0, slotS, un_ow1, un_int, un_bl, un_str, un_tup, un_lst, un_scr, un_non, un_ins, un_dct, un_exc, ow_own, ow_int, ow_bl, ow_str, ow_tup, ow_lst, ow_scr, ow_non, ow_ins, ow_dct, ow_exc, plain,  ↓to_bnd, bnd_ok, bnd_ex, R.of_some, it0, it1, it2, it3, it4, tt0, tt1, tt2, Option.map_some, olOf, isOL, Option.isSome, Bool.false_eq_true, if_false, if_true, calls, grab, back, recvOf, List.getElem?_cons_zero, List.getElem?_cons_succ, fl0, fl1, fl2, un_pv, ow_pv, hz, bm, bop_fdiv _ p hp (by omega), bop_add, bop_sub, Nat.reduceAdd, Nat.reduceLT, fin_ret, outsOf]
  rcases hP with rfl | rfl <;> simp only [fd13, List.map, List.replicate, List.cons_append, List.nil_append, List.length_cons, List.length_nil, List.set_cons_zero, List.set_cons_succ, e_lit, e_loc, e_fld, e_at, e_tup, e_lst, e_dct, e_bin, e_neg, e_cmp, e_cmp2, e_sub, e_slc, e_rev, e_bi, e_bi2, e_isi, e_call, l_nil, l_cons, a_nil, a_cons, e_and, e_or, e_not, e_ite, brl_t, brl_f, fls, trs, x_nm, x_ret0, x_ret, x_setI, xc_cons, xc_nil, x_if, sq_nx, sq_ret, sq_ex, sq_cont, pkB2, pkB, rp, qe, slot0, slotS, un_ow1, un_int, un_bl, un_str, un_tup, un_lst, un_scr, un_non, un_ins, un_dct, un_exc, ow_own, ow_int, ow_bl, ow_str, ow_tup, ow_lst, ow_scr, ow_non, ow_ins, ow_dct, ow_exc, plain,  ↓to_bnd, bnd_ok, bnd_ex, R.of_some, it0, it1, it2, it3, it4, tt0, tt1, tt2, Option.map_some, olOf, isOL, Option.isSome, Bool.false_eq_true, if_false, if_true, calls, grab, back, recvOf, List.getElem?_cons_zero, List.getElem?_cons_succ, x_ex, ow_pv, c1, c2, fin_ret, outsOf]
theorem c_stands_bad {n : Nat} (hn : 4 ≤ n) {a b P d : D} {xs : List D} (hP : PV P a b (.tup xs)) (hd : pl d = true) (h : inR 0 (xs.length - 1) d = false) : callF kls gam n 13 [P, d] = .ex (.exc 2 []) [some P, some d] := by
  rw [call_eq' (by omega) (fd := fd13) rfl rfl]
  have c1 := c_check_bad (n := n - 1) (by omega) hP hd h
  have od := own_pl hd
  rcases hP with rfl | rfl <;> simp only [fd13, List.map, List.replicate, List.cons_append, List.nil_append, List.length_cons, List.length_nil, List.set_cons_zero, List.set_cons_succ, e_lit, e_loc, e_fld, e_at, e_tup, e_lst, e_dct, e_bin, e_neg, e_cmp, e_cmp2, e_sub, e_slc, e_rev, e_bi, e_bi2, e_isi, e_call, l_nil, l_cons, a_nil, a_cons, e_and, e_or, e_not, e_ite, brl_t, brl_f, fls, trs, x_nm, x_ret0, x_ret, x_setI, xc_cons, xc_nil, x_if, sq_nx, sq_ret, sq_ex, sq_cont, pkB2, pkB, rp, qe, slot0, slotS, un_ow1, un_int, un_bl, un_str, un_tup, un_lst, un_scr, un_non, un_ins, un_dct, un_exc, ow_own, ow_int, ow_bl, ow_str, ow_tup, ow_lst, ow_scr, ow_non, ow_ins, ow_dct, ow_exc, plain,  ↓to_bnd, bnd_ok, bnd_ex, R.of_some, it0, it1, it2, it3, it4, tt0, tt1, tt2, Option.map_some, olOf, isOL, Option.isSome, Bool.false_eq_true, if_false, if_true, calls, grab, back, recvOf, List.getElem?_cons_zero, List.getElem?_cons_succ, x_ex, ow_pv, od, c1, fin_ex, outsOf]
theorem c_refused {n : Nat} (hn : 5 ≤ n) {a b P d : D} {xs : List D} (hP : PV P a b (.tup xs)) (hd : pl d = true) (h : inR 0 (xs.length - 1) d = false) : callF kls gam n 112 [P, d] = .ok (.bl true) [some P, some d] := by
  rw [call_eq' (by omega) (fd := fd112) rfl rfl]
  have c1 := c_stands_bad (n := n - 1) (by omega) hP hd h
  have od := own_pl hd
  rcases hP with rfl | rfl <;> simp only [fd112, List.map, List.replicate, List.cons_append, List.nil_append, List.length_cons, List.length_nil, List.set_cons_zero, List.set_cons_succ, e_lit, e_loc, e_fld, e_at, e_tup, e_lst, e_dct, e_bin, e_neg, e_cmp, e_cmp2, e_sub, e_slc, e_rev, e_bi, e_bi2, e_isi, e_call, l_nil, l_cons, a_nil, a_cons, e_and, e_or, e_not, e_ite, brl_t, brl_f, fls, trs, x_nm, x_ret0, x_ret, x_setI, xc_cons, xc_nil, x_if, sq_nx, sq_ret, sq_ex, sq_cont, pkB2, pkB, rp, qe, slot0, slotS, un_ow1, un_int, un_bl, un_str, un_tup, un_lst, un_scr, un_non, un_ins, un_dct, un_exc, ow_own, ow_int, ow_bl, ow_str, ow_tup, ow_lst, ow_scr, ow_non, ow_ins, ow_dct, ow_exc, plain,  ↓to_bnd, bnd_ok, bnd_ex, R.of_some, it0, it1, it2, it3, it4, tt0, tt1, tt2, Option.map_some, olOf, isOL, Option.isSome, Bool.false_eq_true, if_false, if_true, calls, grab, back, recvOf, List.getElem?_cons_zero, List.getElem?_cons_succ, x_ex, x_try, ow_pv, od, c1, try_ex _ _ _ _ _ (ct2 _), Nat.reduceAdd, Nat.reduceLT, e_xis _ _ _ _ (x22 _), e_xis _ _ _ _ (x219 _), endH_ok, fin_ret, outsOf]
/-! ### parts -/
def partsV (p s : Int) (cs : List Int) : D := .tup [.int p, .int s, .tup (cs.map .int)]
/-- of a plan that is let -/
structure Pts (p s : Int) (cs : List Int) : Prop where
  p1 : 1 ≤ p
  p2 : p ≤ 9
  s1 : 1 ≤ s
  s2 : s ≤ p
  cl : ClsOk (cho p s) cs
theorem Pts.are {p s : Int} {cs : List Int} (h : Pts p s cs) : areC (cho p s) (cho p s) (.tup (cs.map .int)) = true := by
  simp only [areC, sumD, intsOf_map, Option.map_some, h.cl.sum, decide_true, Bool.and_true]
  exact all_inR fun n hn => ⟨h.cl.pos n hn, by rw [← h.cl.sum]; exact (le_sum h.cl.pos).2 n hn⟩
theorem Pts.jd {p s : Int} {cs : List Int} (h : Pts p s cs) : Jd (.int p) (.int s) (.tup (cs.map .int)) none := .ok h.p1 h.p2 h.s1 h.s2 h.are
theorem pl_ints (cs : List Int) (h : cs.length ≤ 1000) : plT (.tup (cs.map .int)) = true := by
  simp only [plT, List.length_map, h, decide_true, Bool.and_true, List.all_map]
  rw [List.all_eq_true]
  intro x _
  rfl
theorem okDL_ints : ∀ (cs : List Int), (∀ c ∈ cs, c.natAbs < 10 ^ 40) → okDL (cs.map .int) = true
  | [], _ => rfl
  | c :: cs, h => by
    simp only [List.map_cons, okDL, Bool.and_eq_true]
    exact ⟨okI (h c (by simp)), okDL_ints cs fun x hx => h x (List.mem_cons_of_mem _ hx)⟩
theorem wtL_ints : ∀ cs : List Int, wtL (cs.map .int) = 1923 * cs.length
  | [] => rfl
  | c :: cs => by simp only [List.map_cons, wtL, wt, wtL_ints cs, List.length_cons]; omega
theorem dep_ints : ∀ cs : List Int, PyData.depthAll (pyL (cs.map .int)) = 0
  | [] => rfl
  | c :: cs => by simp only [List.map_cons, pyL, PyData.depthAll, D.py, PyData.depth, dep_ints cs]; rfl
theorem hd_ints : ∀ cs : List Int, PyData.hasDictAll (pyL (cs.map .int)) = false
  | [] => rfl
  | c :: cs => by simp only [List.map_cons, pyL, PyData.hasDictAll, D.py, PyData.hasDict, hd_ints cs]; rfl
theorem data_ints (b : Bool) : ∀ cs : List Int, dataL b (cs.map .int) = true
  | [] => rfl
  | c :: cs => by simp only [List.map_cons, dataL, D.isData, data_ints b cs, Bool.and_self]
theorem lay_ints : ∀ cs : List Int, PyData.canLayAll0 (pyL (cs.map .int)) = true
  | [] => rfl
  | c :: cs => by simp only [List.map_cons, pyL, PyData.canLayAll0, D.py, PyData.canLay0, lay_ints cs]; rfl
theorem eqOk_parts (p s : Int) (cs : List Int) : eqOk (partsV p s cs) = true := by
  simp only [eqOk, partsV, D.isData, dataL, data_ints, D.py, pyL, PyData.canLay0, PyData.canLayAll0, lay_ints, PyData.depth, PyData.depthAll, dep_ints]
  decide
theorem Pts.tl {p s : Int} {cs : List Int} (h : Pts p s cs) : Tl (.int p) (.int s) (.tup (cs.map .int)) := by
  have hb : ∀ c ∈ cs, (c : Int).natAbs < 10 ^ 40 := fun c hc => by
    have h1 := h.cl.pos c hc
    have h2 := (le_sum h.cl.pos).2 c hc
    have h3 := (cho_ok p s h.p2 (by have := h.s1; omega) h.s2).2
    rw [h.cl.sum] at h2
    omega
  refine ⟨rfl, rfl, pl_ints cs (by have := h.cl.len; omega), ?_, ?_, ?_, ?_⟩
  · have h1 := okDL_ints cs hb
    have h2 : okD (.int p) = true := okI (by have := h.p1; have := h.p2; omega)
    have h3 : okD (.int s) = true := okI (by have := h.s1; have := h.s2; have := h.p2; omega)
    simp only [okD, okDL, h1, Bool.and_true] at h2 h3 ⊢
    rw [h2, h3]
    rfl
  · have := h.cl.len
    simp only [wt, wtL, wtL_ints]
    omega
  · simp only [D.py, pyL, PyData.depth, PyData.depthAll, dep_ints]
    decide
  · simp only [D.py, pyL, PyData.hasDict, PyData.hasDictAll, hd_ints]
    rfl
end Vm

/-! #### part P14 -/
namespace Vm
open PySem
theorem e_meth0 (i) (C : Cf) (ρ : Env) (h : insOf (slot ρ i) = some 15) : ev kls C (.meth 0 [.rd (.loc i)]) ρ = calls C.Φ 7 [.s i] ρ := by
  have hm : methOf kls 15 0 = some 7 := rfl
  simp only [ev, recvOf, h, hm, evA, R.bind_ok]
theorem eqD_some {x y : D} (h : eqOk x = true) (h2 : eqOk y = true) : eqD x y = some (PyData.eqv x.py y.py) := by simp [eqD, h, h2]
theorem cv_eqT {xs ys : List D} {ρ : Env} {Φ} {b : Bool} (h : eqD (.tup xs) (.tup ys) = some b) : cmpV kls Φ .eq (.tup xs) (.tup ys) ρ = .ok (.bl b) ρ := by simp [cmpV, cop, h]
theorem cv_neT {xs ys : List D} {ρ : Env} {Φ} {b : Bool} (h : eqD (.tup xs) (.tup ys) = some b) : cmpV kls Φ .ne (.tup xs) (.tup ys) ρ = .ok (.bl (!b)) ρ := by simp [cmpV, cop, h]
theorem ins_pv (a b c) : insOf (some (planV a b c)) = some 15 := Eq.trans rfl rfl
theorem c_eq_ins {n : Nat} (hn : 2 ≤ n) {p s p' s' : Int} {cs cs' : List Int} (h : cs.length ≤ 1000) (h' : cs'.length ≤ 1000) : callF kls gam n 8 [planV (.int p) (.int s) (.tup (cs.map .int)), planV (.int p') (.int s') (.tup (cs'.map .int))] = .ok (.bl (PyData.eqv (partsV p s cs).py (partsV p' s' cs').py)) [some (planV (.int p) (.int s) (.tup (cs.map .int))), some (planV (.int p') (.int s') (.tup (cs'.map .int)))] := by
  rw [call_eq' (by omega) (fd := fd8) rfl rfl]
  have c1 := c_parts (n := n - 1) (by omega) (a := .int p) (b := .int s) rfl rfl (pl_ints cs h)
  have c2 := c_parts (n := n - 1) (by omega) (a := .int p') (b := .int s') rfl rfl (pl_ints cs' h')
  have e := eqD_some (eqOk_parts p s cs) (eqOk_parts p' s' cs')
  have ia : isAny kls (planV (.int p') (.int s') (.tup (cs'.map .int))) [.cls 15] = some true := rfl
  simp only [partsV] at e
  simp only [fd8, List.map, List.replicate, List.cons_append, List.nil_append, List.length_cons, List.length_nil, List.set_cons_zero, List.set_cons_succ, e_lit, e_loc, e_fld, e_at, e_tup, e_lst, e_dct, e_bin, e_neg, e_cmp, e_cmp2, e_sub, e_slc, e_rev, e_bi, e_bi2, e_isi, e_call, l_nil, l_cons, a_nil, a_cons, e_and, e_or, e_not, e_ite, brl_t, brl_f, fls, trs, x_nm, x_ret0, x_ret, x_setI, xc_cons, xc_nil, x_if, sq_nx, sq_ret, sq_ex, sq_cont, pkB2, pkB, rp, qe, slot0, slotS, un_ow1, un_int, un_bl, un_str, un_tup, un_lst, un_scr, un_non, un_ins, un_dct, un_exc, ow_own, ow_int, ow_bl, ow_str, ow_tup, ow_lst, ow_scr, ow_non, ow_ins, ow_dct, ow_exc, plain,  ↓to_bnd, bnd_ok, bnd_ex, R.of_some, it0, it1, it2, it3, it4, tt0, tt1, tt2, Option.map_some, olOf, isOL, Option.isSome, Bool.false_eq_true, if_false, if_true, ia, e_meth0, ins_pv, un_pv, calls, grab, back, recvOf, List.getElem?_cons_zero, List.getElem?_cons_succ, ow_pv, c1, c2, cv_eqT e, fin_ret, outsOf, partsV]
theorem c_eq_no {n : Nat} (hn : 2 ≤ n) {a b c : D} (y : D) (hy : pl y = true) (h : ∀ k f v, y ≠ .ins k f v) : callF kls gam n 8 [planV a b c, y] = .ok (.bl false) [some (planV a b c), some y] := by
  rw [call_eq' (by omega) (fd := fd8) rfl rfl]
  have ia : isAny kls y [.cls 15] = some false := by
    simp only [pl, Bool.and_eq_true] at hy
    cases y <;> first | rfl | (simp [D.isOwn] at hy; done) | (simp [kdOf] at hy; done) | exact absurd rfl (h _ _ _)
  have oy := own_pl hy
  simp only [fd8, List.map, List.replicate, List.cons_append, List.nil_append, List.length_cons, List.length_nil, List.set_cons_zero, List.set_cons_succ, e_lit, e_loc, e_fld, e_at, e_tup, e_lst, e_dct, e_bin, e_neg, e_cmp, e_cmp2, e_sub, e_slc, e_rev, e_bi, e_bi2, e_isi, e_call, l_nil, l_cons, a_nil, a_cons, e_and, e_or, e_not, e_ite, brl_t, brl_f, fls, trs, x_nm, x_ret0, x_ret, x_setI, xc_cons, xc_nil, x_if, sq_nx, sq_ret, sq_ex, sq_cont, pkB2, pkB, rp, qe, slot0, slotS, un_ow1, un_int, un_bl, un_str, un_tup, un_lst, un_scr, un_non, un_ins, un_dct, un_exc, ow_own, ow_int, ow_bl, ow_str, ow_tup, ow_lst, ow_scr, ow_non, ow_ins, ow_dct, ow_exc, plain,  ↓to_bnd, bnd_ok, bnd_ex, R.of_some, it0, it1, it2, it3, it4, tt0, tt1, tt2, Option.map_some, olOf, isOL, Option.isSome, Bool.false_eq_true, if_false, if_true, un_ow oy, ia, fin_ret, outsOf]
theorem cv_eqP {a b c y : D} {ρ : Env} {Φ : Nat → List D → R D} {r : Bool} {os} (h : Φ 8 [planV a b c, y] = .ok (.bl r) os) (hy : pl y = true) : cmpV kls Φ .eq (planV a b c) y ρ = .ok (.bl r) ρ := by
  have h1 := own_pl hy
  simp only [pl, Bool.and_eq_true] at hy
  have h2 : (kdOf y).isNone = false := by
    cases e : kdOf y with
    | none => rw [e] at hy; simp at hy
    | some _ => rfl
  have : cmpV kls Φ .eq (planV a b c) y ρ = eqI kls Φ false 15 (planV a b c) y ρ := rfl
  rw [this]
  have hk : (kls 15).bind Cls.eq = some 8 := rfl
  simp only [eqI, hk, h1, h2, Bool.or_self, Bool.false_eq_true, if_false, h]
theorem cv_neP {a b c y : D} {ρ : Env} {Φ : Nat → List D → R D} {r : Bool} {os} (h : Φ 8 [planV a b c, y] = .ok (.bl r) os) (hy : pl y = true) : cmpV kls Φ .ne (planV a b c) y ρ = .ok (.bl (!r)) ρ := by
  have h1 := own_pl hy
  simp only [pl, Bool.and_eq_true] at hy
  have h2 : (kdOf y).isNone = false := by
    cases e : kdOf y with
    | none => rw [e] at hy; simp at hy
    | some _ => rfl
  have : cmpV kls Φ .ne (planV a b c) y ρ = eqI kls Φ true 15 (planV a b c) y ρ := rfl
  rw [this]
  have hk : (kls 15).bind Cls.eq = some 8 := rfl
  simp only [eqI, hk, h1, h2, Bool.or_self, Bool.false_eq_true, if_false, h, if_true]
theorem repr_bls (bs : List Bool) (h : bs.length ≤ 100) : ∃ t, reprD (.lst (bs.map .bl)) = some t ∧ PyData.strOk t = true := by
  have h1 : ∀ bs : List Bool, okDL (bs.map .bl) = true := fun bs => by
    induction bs with
    | nil => rfl
    | cons b bs ih => simp only [List.map_cons, okDL, okD, ih, Bool.and_self]
  have h2 : ∀ bs : List Bool, wtL (bs.map .bl) = 22 * bs.length := fun bs => by
    induction bs with
    | nil => rfl
    | cons b bs ih => simp only [List.map_cons, wtL, wt, ih, List.length_cons]; omega
  have h3 : ∀ bs : List Bool, PyData.depthAll (pyL (bs.map .bl)) = 0 := fun bs => by
    induction bs with
    | nil => rfl
    | cons b bs ih => simp only [List.map_cons, pyL, PyData.depthAll, D.py, PyData.depth, ih]; rfl
  have h4 : ∀ bs : List Bool, PyData.hasDictAll (pyL (bs.map .bl)) = false := fun bs => by
    induction bs with
    | nil => rfl
    | cons b bs ih => simp only [List.map_cons, pyL, PyData.hasDictAll, D.py, PyData.hasDict, ih]; rfl
  exact reprD_some (by simp only [okD, h1]) (by simp only [wt, h2]; omega) (by simp only [D.py, PyData.depth, h3]; omega) (by simp only [D.py, PyData.hasDict, h4]; rfl)
theorem Pts.lc {p s : Int} {cs : List Int} (h : Pts p s cs) : cs.length ≤ 1000 := by have := h.cl.len; omega
theorem c_equal {n : Nat} (hn : 5 ≤ n) {p s p' s' : Int} {cs cs' : List Int} (h : Pts p s cs) (h' : Pts p' s' cs') : callF kls gam n 114 [partsV p s cs, partsV p' s' cs'] = .ok (.bl true) [some (partsV p s cs), some (partsV p' s' cs')] := by
  rw [call_eq' (by omega) (fd := fd114) rfl rfl]
  have c1 := c_init (n := n - 1) (by omega) h.jd rfl rfl (pl_ints cs h.lc)
  have c2 := c_init (n := n - 1) (by omega) h'.jd rfl rfl (pl_ints cs' h'.lc)
  have q1 := c_eq_ins (n := n - 1) (by omega) (p := p) (s := s) (p' := p') (s' := s') h.lc h'.lc
  have q2 := c_eq_no (n := n - 1) (by omega) (a := .int p) (b := .int s) (c := .tup (cs.map .int)) (partsV p s cs) rfl (fun _ _ _ e => nomatch e)
  have q3 := c_eq_no (n := n - 1) (by omega) (a := .int p) (b := .int s) (c := .tup (cs.map .int)) (.int 0) rfl (fun _ _ _ e => nomatch e)
  have q4 := c_eq_ins (n := n - 1) (by omega) (p := p) (s := s) (p' := p) (s' := s) h.lc h.lc
  have rf : PyData.eqv (partsV p s cs).py (partsV p s cs).py = true := PySem.SeqAt.eqv_refl _ (by
    have := eqOk_parts p s cs
    simp only [eqOk, Bool.and_eq_true] at this
    exact this.1.2)
  rw [rf] at q4
  have e := eqD_some (eqOk_parts p s cs) (eqOk_parts p' s' cs')
  generalize PyData.eqv (partsV p s cs).py (partsV p' s' cs').py = r at *
  simp only [partsV] at *
  obtain ⟨t, er, kt⟩ := repr_bls [r, !r, false, true, false, true] (by simp)
  simp only [List.map, List.replicate, List.cons_append, List.nil_append, List.length_cons, List.length_nil, List.set_cons_zero, List.set_cons_succ] at er
  simp only [fd114, List.map, List.replicate, List.cons_append, List.nil_append, List.length_cons, List.length_nil, List.set_cons_zero, List.set_cons_succ, e_lit, e_loc, e_fld, e_at, e_tup, e_lst, e_dct, e_bin, e_neg, e_cmp, e_cmp2, e_sub, e_slc, e_rev, e_bi, e_bi2, e_isi, e_call, l_nil, l_cons, a_nil, a_cons, e_and, e_or, e_not, e_ite, brl_t, brl_f, fls, trs, x_nm, x_ret0, x_ret, x_setI, xc_cons, xc_nil, x_if, sq_nx, sq_ret, sq_ex, sq_cont, pkB2, pkB, rp, qe, slot0, slotS, un_ow1, un_int, un_bl, un_str, un_tup, un_lst, un_scr, un_non, un_ins, un_dct, un_exc, ow_own, ow_int, ow_bl, ow_str, ow_tup, ow_lst, ow_scr, ow_non, ow_ins, ow_dct, ow_exc, plain,  ↓to_bnd, bnd_ok, bnd_ex, R.of_some, it0, it1, it2, it3, it4, tt0, tt1, tt2, Option.map_some, olOf, isOL, Option.isSome, Bool.false_eq_true, if_false, if_true, e_new, x_par2, c1, c2, new_ok, Nat.reduceAdd, Nat.reduceLT, un_pv, ow_pv, cv_eqP q1 rfl, cv_neP q1 rfl, cv_eqP q2 rfl, cv_neP q2 rfl, cv_eqP q3 rfl, cv_eqP q4 rfl, Bool.not_false, cv_eqT e, cv_neT e, b_repr er, cv_eq_self kt, fin_ret, outsOf]
end Vm

/-! #### part P15 -/
namespace Vm
open PySem
def tp3 (i j k : Nat) (d : D) (ρ1 : Env) : R Fl := R.of (bindT (.tp [.nm i, .nm j, .nm k]) d.un ρ1) ρ1 |>.bind fun ρ2 _ => .ok .nx ρ2
theorem x_tp3 (i j k e) (C : Cf) (ρ : Env) : exec kls (.asg (.tp [.nm i, .nm j, .nm k]) e) C ρ = (ev kls C e ρ).bind (tp3 i j k) := by
  simp only [exec]
  rfl
theorem tp3_t (i j k : Nat) (x y z : D) (ρ1 : Env) : tp3 i j k (.tup [x, y, z]) ρ1 = if i < ρ1.length then (if j < ρ1.length then (if k < ρ1.length then .ok .nx (((ρ1.set i (some x.un)).set j (some y.un)).set k (some z.un)) else .no) else .no) else .no := by
  simp only [tp3, D.un, bindT, bindTs]
  by_cases h1 : i < ρ1.length <;> by_cases h2 : j < ρ1.length <;> by_cases h3 : k < ρ1.length <;> simp [h1, h2, h3, R.of]
theorem ceil_eq (t p : Int) (h1 : 1 ≤ p) (h2 : p ≤ 9) : (t + p - 1) / p = 0 - (0 - t) / p := by
  have : p = 1 ∨ p = 2 ∨ p = 3 ∨ p = 4 ∨ p = 5 ∨ p = 6 ∨ p = 7 ∨ p = 8 ∨ p = 9 := by omega
  rcases this with rfl | rfl | rfl | rfl | rfl | rfl | rfl | rfl | rfl <;> omega
theorem small_div {t p : Int} (ht : 0 ≤ t) (h2 : t ≤ 2000) (hp : 1 ≤ p) (hp2 : p ≤ 9) : (t / p).natAbs < 10 ^ 40 ∧ ((t + p - 1) / p).natAbs < 10 ^ 40 := by
  have : p = 1 ∨ p = 2 ∨ p = 3 ∨ p = 4 ∨ p = 5 ∨ p = 6 ∨ p = 7 ∨ p = 8 ∨ p = 9 := by omega
  rcases this with rfl | rfl | rfl | rfl | rfl | rfl | rfl | rfl | rfl <;> omega
theorem repr_pair {a b : Int} (h : a.natAbs < 10 ^ 40) (h2 : b.natAbs < 10 ^ 40) : ∃ t, reprD (.tup [.int a, .int b]) = some t ∧ PyData.strOk t = true := by
  have k1 := okI h
  have k2 := okI h2
  refine reprD_some ?_ (by simp only [wt, wtL]; omega) (by simp only [D.py, pyL, PyData.depth, PyData.depthAll]; decide) (by simp only [D.py, pyL, PyData.hasDict, PyData.hasDictAll]; rfl)
  simp only [okD, okDL, Bool.and_true, Bool.and_eq_true] at k1 k2 ⊢
  exact ⟨k1, k2⟩
theorem cv_neI {i : Int} {ρ : Env} {Φ} : cmpV kls Φ .ne (.int i) (.int i) ρ = .ok (.bl false) ρ := by simp [cmpV, cop, eqD_ii]
def gBody : List S := [.asg (.nm 8) (.bin .mul (.rd (.at_ (.loc 4) (.rd (.loc 7)))) (.rd (.loc 3))), .if_ (.cmp .ne (.bi .repr (.call 13 [(.rd (.loc 5)), (.rd (.loc 7))])) (.bi .repr (.tup [(.bin .fdiv (.rd (.loc 8)) (.rd (.loc 2))), (.bin .sub (.lit (.int 0)) (.bin .fdiv (.bin .sub (.lit (.int 0)) (.rd (.loc 8))) (.rd (.loc 2))))]))) [.ret (.lit (.bl false))] []]
theorem bool_ne : (!true) = false := rfl
theorem c_groups {n : Nat} (hn : 6 ≤ n) (t : Tp) {p s : Int} {cs : List Int} (h : Pts p s cs) : ∃ t', callF kls gam n 113 [Tp.d t, partsV p s cs] = .ok (.bl true) [some (Tp.d t'), some (partsV p s cs)] := by
  rw [call_eq' (by omega) (fd := fd113) rfl rfl]
  have h1 := h.p1
  have h2 := h.p2
  have h3 := h.s1
  have h4 := h.s2
  have c1 := c_init (n := n - 1) (by omega) h.jd rfl rfl (pl_ints cs h.lc)
  obtain ⟨F, hF, _, c2⟩ := c_lots9 (n := n - 1) (by omega) (p := p) (s := s) (by omega) h2 (by omega) h4
  have fg := lots_fineG p s.toNat (by omega) h2 (by omega)
  simp only [fineG, Bool.and_eq_true, decide_eq_true_eq, Bool.not_eq_true'] at fg
  obtain ⟨g1, g2, g3, g4, g5⟩ := fg
  have c3 := c_all (n := n - 1) (by omega) (P := .own (planV (.int p) (.int s) (.tup (cs.map .int)))) (.inl rfl) (by omega) h2 (by omega) h4
  have c4 := c_cho (n := n - 1) (by omega) p s (by omega) h2 (by omega) (by omega)
  generalize hG : (lotsV p s.toNat).map tupI = Gs at *
  have gl : (Gs.length : Int) = cho p s := by rw [← hG, List.length_map, g1]; congr 1; omega
  have er := reprD_ok g2 g3 g4 (by rw [g5]; rfl)
  have kr := (shown_ok _ g2).1.2
  have bt : b1 .tuple (.lst Gs) = some (.tup Gs) := rfl
  have hcs : 0 < cs.length := by
    rcases Nat.eq_zero_or_pos cs.length with e | e
    · have := List.length_eq_zero_iff.1 e
      have hs := h.cl.sum
      rw [this] at hs
      have := (cho_ok p s h2 (by omega) h4).1
      simp at hs
      omega
    · exact e
  have hlen : cs.length ≤ 200 := h.cl.len
  -- the drawn places
  obtain ⟨ys, ρ', e1, t1, z, hρ, rs, hys, hrs⟩ := compGo_ok (step := stepC { Φ := callF kls gam (n - 1) } (.nm 10) (.call 101 [(.rd (.loc 0)), (.bi .len (.rd (.loc 4)))]) [10])
    (fun zs acc ρ => ∃ (t' : Tp) (z : Option D), ρ = [some (Tp.d t'), some (partsV p s cs), some (.int p), some (.int s), some (.tup (cs.map .int)), some (.own (planV (.int p) (.int s) (.tup (cs.map .int)))), some (.tup Gs), none, none, none, z] ∧ ∃ rs : List Int, acc = rs.map .int ∧ ∀ r ∈ rs, 0 ≤ r ∧ r < cs.length) (by
      rintro x zs acc ρ ⟨t', z, rfl, rs, rfl, hrs⟩
      obtain ⟨r, t2, r0, r1, e⟩ := c_pick (n - 1 - 1) t' cs.length (by omega) (by omega)
      rw [show n - 1 - 1 + 1 = n - 1 by omega] at e
      refine ⟨.int r, [some (Tp.d t2), some (partsV p s cs), some (.int p), some (.int s), some (.tup (cs.map .int)), some (.own (planV (.int p) (.int s) (.tup (cs.map .int)))), some (.tup Gs), none, none, none, some x], ?_, t2, _, rfl, rs ++ [r], by simp, ?_⟩
      · simp only [step_nm, wipe, List.map, List.replicate, List.cons_append, List.nil_append, List.length_cons, List.length_nil, List.set_cons_zero, List.set_cons_succ, Nat.reduceAdd, Nat.reduceLT, e_lit, e_loc, e_fld, e_at, e_tup, e_lst, e_dct, e_bin, e_neg, e_cmp, e_cmp2, e_sub, e_slc, e_rev, e_bi, e_bi2, e_isi, e_call, l_nil, l_cons, a_nil, a_cons, e_and, e_or, e_not, e_ite, brl_t, brl_f, fls, trs, x_nm, x_ret0, x_ret, x_setI, xc_cons, xc_nil, x_if, sq_nx, sq_ret, sq_ex, sq_cont, pkB2, pkB, rp, qe, slot0, slotS, un_ow1, un_int, un_bl, un_str, un_tup, un_lst, un_scr, un_non, un_ins, un_dct, un_exc, ow_own, ow_int, ow_bl, ow_str, ow_tup, ow_lst, ow_scr, ow_non, ow_ins, ow_dct, ow_exc, plain,  ↓to_bnd, bnd_ok, bnd_ex, R.of_some, it0, it1, it2, it3, it4, tt0, tt1, tt2, Option.map_some, olOf, isOL, Option.isSome, Bool.false_eq_true, if_false, if_true, calls, grab, back, recvOf, List.getElem?_cons_zero, List.getElem?_cons_succ, oT, b_len2, List.length_map, e]
      · intro q hq
        rcases List.mem_append.1 hq with hq | hq
        · exact hrs q hq
        · simp only [List.mem_singleton] at hq
          omega) (rangeD 0 4) [] [some (Tp.d t), some (partsV p s cs), some (.int p), some (.int s), some (.tup (cs.map .int)), some (.own (planV (.int p) (.int s) (.tup (cs.map .int)))), some (.tup Gs), none, none, none, none] (by simp [rangeD, line]) ⟨t, none, rfl, [], rfl, by simp⟩
  subst hρ hys
  -- each of these
  obtain ⟨ρ2, e2, a, b, hρ2, _⟩ := forGo_ok (tg := .nm 7) (body := execs kls gBody { Φ := callF kls gam (n - 1) })
    (fun zs ρ => ∃ a b, ρ = [some (Tp.d t1), some (partsV p s cs), some (.int p), some (.int s), some (.tup (cs.map .int)), some (.own (planV (.int p) (.int s) (.tup (cs.map .int)))), some (.tup Gs), a, b, none, none] ∧ ∃ rs : List Int, zs = rs.map .int ∧ ∀ r ∈ rs, 0 ≤ r ∧ r < cs.length) (by
      rintro x zs ρ ⟨a, b, rfl, rs, hz, hr⟩
      cases rs with
      | nil => cases hz
      | cons r rs =>
        simp only [List.map_cons, List.cons.injEq] at hz
        obtain ⟨rfl, rfl⟩ := hz
        have hr0 := hr r (by simp)
        obtain ⟨k, rfl⟩ : ∃ k : Nat, r = k := ⟨r.toNat, by omega⟩
        have hk : k < cs.length := by omega
        have hit : itemD (.tup (cs.map .int)) (.int k) = some (.int cs[k]) := item_tup (by simp [hk])
        have hz0 := h.cl.pos _ (List.getElem_mem hk)
        have hz1 := (le_sum h.cl.pos).2 _ (List.getElem_mem hk)
        have hch := (cho_ok p s h2 (by omega) h4).2
        rw [h.cl.sum] at hz1
        have c5 := c_stands_ok (n := n - 1) (by omega) (P := .own (planV (.int p) (.int s) (.tup (cs.map .int)))) (z := cs[k]) (k := k) (.inl rfl) (by omega) h2 (by omega) (by omega) (by omega) (by rw [List.length_map]; omega) hit
        have bm : bop .mul (.int cs[k]) (.int s) = some (.int (cs[k] * s)) := bop_mulR _ s (small_abs (by omega) (by omega))
        have hm0 : 0 ≤ cs[k] * s := Int.mul_nonneg (by omega) (by omega)
        have hm1 : cs[k] * s ≤ 126 * 9 := Int.mul_le_mul (by omega) (by omega) (by omega) (by omega)
        obtain ⟨d1, d2⟩ := small_div hm0 (by omega) h1 h2
        obtain ⟨tx, ex, kx⟩ := repr_pair d1 d2
        have ce := ceil_eq (cs[k] * s) p h1 h2
        generalize cs[k] * s = m at *
        rw [ce] at c5 ex
        refine ⟨[some (Tp.d t1), some (partsV p s cs), some (.int p), some (.int s), some (.tup (cs.map .int)), some (.own (planV (.int p) (.int s) (.tup (cs.map .int)))), some (.tup Gs), some (.int k), b, none, none], [some (Tp.d t1), some (partsV p s cs), some (.int p), some (.int s), some (.tup (cs.map .int)), some (.own (planV (.int p) (.int s) (.tup (cs.map .int)))), some (.tup Gs), some (.int k), some (.int m), none, none], ?_, ?_, ⟨_, _, rfl, rs, rfl, fun q hq => hr q (List.mem_cons_of_mem _ hq)⟩⟩
        · simp only [bindT, List.map, List.replicate, List.cons_append, List.nil_append, List.length_cons, List.length_nil, List.set_cons_zero, List.set_cons_succ, Nat.reduceAdd, Nat.reduceLT, if_true]
        · simp only [gBody, List.map, List.replicate, List.cons_append, List.nil_append, List.length_cons, List.length_nil, List.set_cons_zero, List.set_cons_succ, Nat.reduceAdd, Nat.reduceLT, e_lit, e_loc, e_fld, e_at, e_tup, e_lst, e_dct, e_bin, e_neg, e_cmp, e_cmp2, e_sub, e_slc, e_rev, e_bi, e_bi2, e_isi, e_call, l_nil, l_cons, a_nil, a_cons, e_and, e_or, e_not, e_ite, brl_t, brl_f, fls, trs, x_nm, x_ret0, x_ret, x_setI, xc_cons, xc_nil, x_if, sq_nx, sq_ret, sq_ex, sq_cont, pkB2, pkB, rp, qe, slot0, slotS, un_ow1, un_int, un_bl, un_str, un_tup, un_lst, un_scr, un_non, un_ins, un_dct, un_exc, ow_own, ow_int, ow_bl, ow_str, ow_tup, ow_lst, ow_scr, ow_non, ow_ins, ow_dct, ow_exc, plain,  ↓to_bnd, bnd_ok, bnd_ex, R.of_some, it0, it1, it2, it3, it4, tt0, tt1, tt2, Option.map_some, olOf, isOL, Option.isSome, Bool.false_eq_true, if_false, if_true, calls, grab, back, recvOf, List.getElem?_cons_zero, List.getElem?_cons_succ, hit, bm, c5, bop_sub, bop_fdiv _ p (show 0 < p by omega) (show p < 1073741824 by omega), b_repr ex, cv_ne_self kx])
    (rs.map .int) [some (Tp.d t1), some (partsV p s cs), some (.int p), some (.int s), some (.tup (cs.map .int)), some (.own (planV (.int p) (.int s) (.tup (cs.map .int)))), some (.tup Gs), none, none, none, none] ⟨none, none, rfl, rs, rfl, hrs⟩
  subst hρ2
  -- no place
  obtain ⟨x, t3, hx, e3⟩ := c_any (n := n - 1) (by omega) t1 (.own (.lst [.non, .bl true, .bl false, .int (-1), .int cs.length, .str (Str.ofString "0"), .tup [.int 0], .lst [.int 0], .dct [] [], .int (10 ^ (30 : Int).toNat)])) _ rfl (by simp) (by simp) (by simp [D.isOwn])
  have hxp : pl x = true ∧ inR 0 ((cs.map D.int).length - 1) x = false := by
    simp only [List.mem_cons, List.not_mem_nil, or_false] at hx
    rw [List.length_map]
    rcases hx with rfl | rfl | rfl | rfl | rfl | rfl | rfl | rfl | rfl | rfl
    · exact ⟨rfl, rfl⟩
    · exact ⟨rfl, rfl⟩
    · exact ⟨rfl, rfl⟩
    · exact ⟨rfl, by simp [inR]⟩
    · exact ⟨rfl, by simp [inR]; omega⟩
    · exact ⟨rfl, rfl⟩
    · exact ⟨rfl, rfl⟩
    · exact ⟨rfl, rfl⟩
    · exact ⟨rfl, rfl⟩
    · refine ⟨rfl, ?_⟩
      have : (10 : Int) ^ (30 : Int).toNat = 1000000000000000000000000000000 := by decide +kernel
      rw [this]
      simp [inR]
      omega
  have c6 := c_refused (n := n - 1) (by omega) (P := .own (planV (.int p) (.int s) (.tup (cs.map .int)))) (.inl rfl) hxp.1 hxp.2
  have rf : PyData.eqv (partsV p s cs).py (partsV p s cs).py = true := PySem.SeqAt.eqv_refl _ (by
    have := eqOk_parts p s cs
    simp only [eqOk, Bool.and_eq_true] at this
    exact this.1.2)
  have eq := eqD_some (eqOk_parts p s cs) (eqOk_parts p s cs)
  rw [rf] at eq
  refine ⟨t3, ?_⟩
  have hb : fd113.body = fd113.body.take 3 ++ [.for_ (.nm 7) (.seq (.comp false (.call 101 [(.rd (.loc 0)), (.bi .len (.rd (.loc 4)))]) (.nm 10) (.rng [(.lit (.int 4))]) none [10])) gBody] ++ fd113.body.drop 4 := rfl
  have ud := own_pl hxp.1
  have pz : plainAt [some (Tp.d t), some (partsV p s cs), some (.int p), some (.int s), some (.tup (cs.map .int)), some (.own (planV (.int p) (.int s) (.tup (cs.map .int)))), some (.tup Gs), none, none, none, none] [10] = true := by simp [plainAt, slot]
  simp only [partsV] at *
  rw [hb]
  simp only [fd113, List.map, List.replicate, List.cons_append, List.nil_append, List.length_cons, List.length_nil, List.set_cons_zero, List.set_cons_succ, List.take, List.drop, List.append_assoc, e_lit, e_loc, e_fld, e_at, e_tup, e_lst, e_dct, e_bin, e_neg, e_cmp, e_cmp2, e_sub, e_slc, e_rev, e_bi, e_bi2, e_isi, e_call, l_nil, l_cons, a_nil, a_cons, e_and, e_or, e_not, e_ite, brl_t, brl_f, fls, trs, x_nm, x_ret0, x_ret, x_setI, xc_cons, xc_nil, x_if, sq_nx, sq_ret, sq_ex, sq_cont, pkB2, pkB, rp, qe, slot0, slotS, un_ow1, un_int, un_bl, un_str, un_tup, un_lst, un_scr, un_non, un_ins, un_dct, un_exc, ow_own, ow_int, ow_bl, ow_str, ow_tup, ow_lst, ow_scr, ow_non, ow_ins, ow_dct, ow_exc, plain,  ↓to_bnd, bnd_ok, bnd_ex, R.of_some, it0, it1, it2, it3, it4, tt0, tt1, tt2, Option.map_some, olOf, isOL, Option.isSome, Bool.false_eq_true, if_false, if_true, calls, grab, back, recvOf, List.getElem?_cons_zero, List.getElem?_cons_succ, x_tp3, tp3_t, x_par2, e_new, c1, new_ok, c2, hF, bt, c3, b_repr er, un_pv, ow_pv, cv_ne_self kr, b_len2, gl, c4, cv_neI, Nat.reduceAdd, Nat.reduceLT, x_for, i_seq, e_comp, i_rng, rng1 (show (0 : Int) ≤ 4 by omega) (show (4 : Int) ≤ 1000 by omega)]
  rw [if_pos pz, show Int.toNat 4 = 4 from rfl, e1]
  simp only [List.map, List.replicate, List.cons_append, List.nil_append, List.length_cons, List.length_nil, List.set_cons_zero, List.set_cons_succ, e_lit, e_loc, e_fld, e_at, e_tup, e_lst, e_dct, e_bin, e_neg, e_cmp, e_cmp2, e_sub, e_slc, e_rev, e_bi, e_bi2, e_isi, e_call, l_nil, l_cons, a_nil, a_cons, e_and, e_or, e_not, e_ite, brl_t, brl_f, fls, trs, x_nm, x_ret0, x_ret, x_setI, xc_cons, xc_nil, x_if, sq_nx, sq_ret, sq_ex, sq_cont, pkB2, pkB, rp, qe, slot0, slotS, un_ow1, un_int, un_bl, un_str, un_tup, un_lst, un_scr, un_non, un_ins, un_dct, un_exc, ow_own, ow_int, ow_bl, ow_str, ow_tup, ow_lst, ow_scr, ow_non, ow_ins, ow_dct, ow_exc, plain,  ↓to_bnd, bnd_ok, bnd_ex, R.of_some, it0, it1, it2, it3, it4, tt0, tt1, tt2, Option.map_some, olOf, isOL, Option.isSome, Bool.false_eq_true, if_false, if_true, rest, itemsI, unInts]
  rw [e2]
  have neg1 : (-1 : Int) = -1 := rfl
  simp only [List.map, List.replicate, List.cons_append, List.nil_append, List.length_cons, List.length_nil, List.set_cons_zero, List.set_cons_succ, e_lit, e_loc, e_fld, e_at, e_tup, e_lst, e_dct, e_bin, e_neg, e_cmp, e_cmp2, e_sub, e_slc, e_rev, e_bi, e_bi2, e_isi, e_call, l_nil, l_cons, a_nil, a_cons, e_and, e_or, e_not, e_ite, brl_t, brl_f, fls, trs, x_nm, x_ret0, x_ret, x_setI, xc_cons, xc_nil, x_if, sq_nx, sq_ret, sq_ex, sq_cont, pkB2, pkB, rp, qe, slot0, slotS, un_ow1, un_int, un_bl, un_str, un_tup, un_lst, un_scr, un_non, un_ins, un_dct, un_exc, ow_own, ow_int, ow_bl, ow_str, ow_tup, ow_lst, ow_scr, ow_non, ow_ins, ow_dct, ow_exc, plain,  ↓to_bnd, bnd_ok, bnd_ex, R.of_some, it0, it1, it2, it3, it4, tt0, tt1, tt2, Option.map_some, olOf, isOL, Option.isSome, Bool.false_eq_true, if_false, if_true, calls, grab, back, recvOf, List.getElem?_cons_zero, List.getElem?_cons_succ, oT, b_len2, List.length_map, bop_pow10 30 (by decide) (by decide), e3, ud, c6, ow_pv, un_pv, fl0, fl1, fl2, cv_eqT eq, Nat.reduceAdd, Nat.reduceLT, fin_ret, outsOf]
end Vm

/-! #### part P16 -/
namespace Vm
open PySem
/-- what may stand as a part -/
structure Yk (y : D) : Prop where
  pl : plT y = true
  ok : okD y = true
  wt : wt y ≤ 450000
  dp : y.py.depth ≤ 20
  nd : y.py.hasDict = false ∨ noLst y = true
/-- without dict, without list -/
structure Cl (y : D) : Prop extends Yk y where
  hd : y.py.hasDict = false
  nl : noLst y = true
theorem tl_of {a b c : D} (ha : Yk a) (hb : Yk b) (hc : Yk c) (h : (Cl a ∧ Cl b) ∨ (Cl a ∧ Cl c) ∨ (Cl b ∧ Cl c)) : Tl a b c := by
  refine ⟨pl_plT ha.pl, pl_plT hb.pl, hc.pl, ?_, ?_, ?_, ?_⟩
  · simp only [okD, okDL, ha.ok, hb.ok, hc.ok, Bool.and_self]
  · have := ha.wt; have := hb.wt; have := hc.wt
    simp only [Vm.wt, wtL]
    omega
  · have := ha.dp; have := hb.dp; have := hc.dp
    simp only [D.py, pyL, PyData.depth, PyData.depthAll]
    omega
  · simp only [D.py, pyL, PyData.hasDict, PyData.hasDictAll, noLst, noLsts]
    rcases h with ⟨h1, h2⟩ | ⟨h1, h2⟩ | ⟨h1, h2⟩
    · rw [h1.hd, h2.hd, h1.nl, h2.nl]
      rcases hc.nd with h | h <;> simp [h]
    · rw [h1.hd, h2.hd, h1.nl, h2.nl]
      rcases hb.nd with h | h <;> simp [h]
    · rw [h1.hd, h2.hd, h1.nl, h2.nl]
      rcases ha.nd with h | h <;> simp [h]
theorem cl_int {i : Int} (h : i.natAbs < 10 ^ 40) : Cl (.int i) := ⟨⟨rfl, okI h, by simp [Vm.wt], by simp [D.py, PyData.depth], .inl rfl⟩, rfl, rfl⟩
theorem nl_ints : ∀ ns : List Int, noLsts (ns.map .int) = true
  | [] => rfl
  | n :: ns => by simp only [List.map_cons, noLsts, noLst, nl_ints ns, Bool.and_self]
theorem cl_tup {ns : List Int} (hl : ns.length ≤ 220) (h : ∀ n ∈ ns, (n : Int).natAbs < 10 ^ 40) : Cl (.tup (ns.map .int)) :=
  ⟨⟨pl_ints ns (by omega), by simp only [okD, okDL_ints ns h], by simp only [Vm.wt, wtL_ints]; omega, by simp only [D.py, PyData.depth, dep_ints]; omega, .inl (by simp only [D.py, PyData.hasDict, hd_ints])⟩, by simp only [D.py, PyData.hasDict, hd_ints], by simp only [noLst, nl_ints]⟩
theorem yk_lst {ns : List Int} (hl : ns.length ≤ 220) (h : ∀ n ∈ ns, (n : Int).natAbs < 10 ^ 40) : Yk (.lst (ns.map .int)) :=
  ⟨rfl, by simp only [okD, okDL_ints ns h], by simp only [Vm.wt, wtL_ints]; omega, by simp only [D.py, PyData.depth, dep_ints]; omega, .inl (by simp only [D.py, PyData.hasDict, hd_ints])⟩
theorem pyL_app : ∀ a b : List D, pyL (a ++ b) = pyL a ++ pyL b
  | [], _ => rfl
  | x :: a, b => by simp only [List.cons_append, pyL, pyL_app a b]
theorem okDL_app : ∀ a b : List D, okDL (a ++ b) = (okDL a && okDL b)
  | [], _ => rfl
  | x :: a, b => by simp only [List.cons_append, okDL, okDL_app a b, Bool.and_assoc]
theorem wtL_app : ∀ a b : List D, wtL (a ++ b) = wtL a + wtL b
  | [], _ => by simp [wtL]
  | x :: a, b => by simp only [List.cons_append, wtL, wtL_app a b]; omega
theorem nl_app : ∀ a b : List D, noLsts (a ++ b) = (noLsts a && noLsts b)
  | [], _ => rfl
  | x :: a, b => by simp only [List.cons_append, noLsts, nl_app a b, Bool.and_assoc]
theorem dep_app : ∀ a b : List PyData, PyData.depthAll (a ++ b) = max (PyData.depthAll a) (PyData.depthAll b)
  | [], _ => by simp [PyData.depthAll]
  | x :: a, b => by simp only [List.cons_append, PyData.depthAll, dep_app a b]; omega
theorem hd_app : ∀ a b : List PyData, PyData.hasDictAll (a ++ b) = (PyData.hasDictAll a || PyData.hasDictAll b)
  | [], _ => rfl
  | x :: a, b => by simp only [List.cons_append, PyData.hasDictAll, hd_app a b, Bool.or_assoc]
/-- the odd one -/
structure Od (x : D) : Prop extends Yk x where
  sm : Vm.wt x ≤ 2000
  pp : Vm.pl x = true
  d5 : x.py.depth ≤ 5
theorem yk_mid {a b : List Int} {x : D} (h : Od x) (hl : a.length + b.length ≤ 210) (ha : ∀ n ∈ a, (n : Int).natAbs < 10 ^ 40) (hb : ∀ n ∈ b, (n : Int).natAbs < 10 ^ 40) : Yk (.tup (a.map .int ++ [x] ++ b.map .int)) := by
  have e1 := okDL_ints a ha
  have e2 := okDL_ints b hb
  have pa : ∀ ns : List Int, (ns.map D.int).all Vm.pl = true := fun ns => by
    rw [List.all_map, List.all_eq_true]
    intro y _
    rfl
  refine ⟨?_, ?_, ?_, ?_, ?_⟩
  · simp only [plT, List.all_append, pa, List.all_cons, List.all_nil, h.pp, List.length_append, List.length_map, List.length_cons, List.length_nil, Bool.and_true, Bool.true_and, decide_eq_true_eq]
    omega
  · simp only [okD, okDL_app, e1, e2, okDL, h.ok, Bool.and_self]
  · have := h.sm
    simp only [Vm.wt, wtL_app, wtL_ints, wtL]
    omega
  · have := h.d5
    simp only [D.py, PyData.depth, pyL_app, dep_app, dep_ints, pyL, PyData.depthAll]
    omega
  · simp only [D.py, PyData.hasDict, pyL_app, hd_app, hd_ints, pyL, PyData.hasDictAll, noLst, nl_app, nl_ints, noLsts, Bool.or_false, Bool.false_or, Bool.and_true, Bool.true_and]
    exact h.nd
theorem od_of {x : D} (h : Yk x) (h2 : Vm.wt x ≤ 2000) (h3 : Vm.pl x = true) (h4 : x.py.depth ≤ 5) : Od x := ⟨h, h2, h3, h4⟩
theorem od_int {i : Int} (h : i.natAbs < 10 ^ 40) : Od (.int i) := ⟨(cl_int h).toYk, by simp [Vm.wt], rfl, by simp [D.py, PyData.depth]⟩
theorem lit_yk : Od .non ∧ Od (.bl true) ∧ Od (.bl false) ∧ Od (.str (Str.ofString "2")) ∧ Od (.tup [.int 2]) ∧ Od (.lst [.int 2]) ∧ Od (.dct [] []) ∧ Yk (.str (Str.ofString "classes")) ∧ Yk (.tup []) := by
  refine ⟨⟨⟨rfl, rfl, by decide, by decide, .inl rfl⟩, by decide, rfl, by decide⟩, ⟨⟨rfl, rfl, by decide, by decide, .inl rfl⟩, by decide, rfl, by decide⟩, ⟨⟨rfl, rfl, by decide, by decide, .inl rfl⟩, by decide, rfl, by decide⟩,
    ⟨⟨rfl, by decide +kernel, by decide, by decide, .inl rfl⟩, by decide, rfl, by decide⟩, ⟨⟨rfl, by decide +kernel, by decide, by decide, .inl rfl⟩, by decide, rfl, by decide⟩, ⟨⟨rfl, by decide +kernel, by decide, by decide, .inl rfl⟩, by decide, rfl, by decide⟩,
    ⟨⟨rfl, rfl, by decide, by decide, .inr rfl⟩, by decide, rfl, by decide⟩, ⟨rfl, by decide +kernel, by decide, by decide, .inl rfl⟩, ⟨rfl, rfl, by decide, by decide, .inl rfl⟩⟩
theorem o_add (k i j) (C : Cf) (ρ : Env) (h : slot ρ k = some (.int i)) : evO kls C (some (.bin .add (.rd (.loc k)) (.lit (.int j)))) ρ = some (some (i + j)) := by
  simp only [evO, qe, rp, h, plain, D.isOwn, Bool.false_eq_true, if_false, bop]
theorem cut_sub (cs : List Int) (lo hi : Option Int) : ∃ as : List Int, cutL (cs.map D.int) lo hi = as.map .int ∧ as.length ≤ cs.length ∧ ∀ x ∈ as, x ∈ cs := by
  refine ⟨_, cut_map cs lo hi, ?_, fun x hx => List.mem_of_mem_drop (List.mem_of_mem_take hx)⟩
  rw [List.length_take, List.length_drop]
  omega
theorem yk_nest {cs : List Int} (hl : cs.length ≤ 200) (h : ∀ n ∈ cs, (n : Int).natAbs < 10 ^ 40) : Yk (.tup [.tup (cs.map .int)]) :=
  ⟨rfl, by simp only [okD, okDL, okDL_ints cs h, Bool.and_self], by simp only [Vm.wt, wtL, wtL_ints]; omega, by simp only [D.py, PyData.depth, pyL, PyData.depthAll, dep_ints]; omega, .inl (by simp only [D.py, PyData.hasDict, pyL, PyData.hasDictAll, hd_ints]; rfl)⟩
end Vm

/-! #### part P17 -/
namespace Vm
open PySem
theorem add_tt (a b : List D) (h : a.length + b.length ≤ 2000) : bop .add (.tup a) (.tup b) = some (.tup (a ++ b)) := by
  simp only [bop]
  rw [if_pos (decide_eq_true (by unfold line; omega))]
theorem add_ll (a b : List D) (h : a.length + b.length ≤ 2000) : bop .add (.lst a) (.lst b) = some (.own (.lst (a ++ b))) := by
  simp only [bop]
  rw [if_pos (decide_eq_true (by unfold line; omega))]
theorem pow30 : (10 : Int) ^ (30 : Int).toNat = 1000000000000000000000000000000 := by decide +kernel
/-- the answers of the third kind -/
def bentL (A B A1 : List D) (cs : List Int) (odd : D) (z : Int) : List D :=
  [.lst (cs.map .int), .non, .int 0, .str (Str.ofString "classes"), .dct [] [], .tup [], .tup (cs.map .int ++ [.int 1]), .tup A1, .tup (cs.map D.int).reverse, .tup [.tup (cs.map .int)]] ++
  [.tup (A ++ [odd] ++ B), .tup (A ++ [.int (z + 1)] ++ B)] ++ [.tup (A ++ [.int (z - 1), .int 1] ++ B), .tup (cs.map .int ++ [.int 0]), .tup (cs.map .int ++ [.int (-1), .int 1])]
theorem bent_yk {as bs a1 cs : List Int} {odd : D} {z : Int} (h : Od odd) (hz : z.natAbs < 10 ^ 30) (hc : cs.length ≤ 200) (hn : ∀ n ∈ cs, (n : Int).natAbs < 10 ^ 30) (ha : as.length ≤ cs.length ∧ ∀ x ∈ as, x ∈ cs) (hb : bs.length ≤ cs.length ∧ ∀ x ∈ bs, x ∈ cs) (hab : as.length + bs.length ≤ 205) (h1 : a1.length ≤ cs.length ∧ ∀ x ∈ a1, x ∈ cs) :
    ∀ y ∈ bentL (as.map .int) (bs.map .int) (a1.map .int) cs odd z, Yk y := by
  have big : ∀ n : Int, n.natAbs < 10 ^ 30 → n.natAbs < 10 ^ 40 := fun n h => Nat.lt_trans h (by decide +kernel)
  have hn' : ∀ n ∈ cs, (n : Int).natAbs < 10 ^ 40 := fun n hm => big n (hn n hm)
  have ha' : ∀ n ∈ as, (n : Int).natAbs < 10 ^ 40 := fun n hm => hn' n (ha.2 n hm)
  have hb' : ∀ n ∈ bs, (n : Int).natAbs < 10 ^ 40 := fun n hm => hn' n (hb.2 n hm)
  have h1' : ∀ n ∈ a1, (n : Int).natAbs < 10 ^ 40 := fun n hm => hn' n (h1.2 n hm)
  have p30 : (10 : Nat) ^ 30 + 1 < 10 ^ 40 := by decide +kernel
  have z1 : (z + 1).natAbs < 10 ^ 40 := by omega
  have z2 : (z - 1).natAbs < 10 ^ 40 := by omega
  have app : ∀ (l : List Int) (ks : List Int), l.length + ks.length ≤ 220 → (∀ n ∈ l, (n : Int).natAbs < 10 ^ 40) → (∀ n ∈ ks, (n : Int).natAbs < 10 ^ 40) → Yk (.tup (l.map .int ++ ks.map .int)) := fun l ks h1 h2 h3 => by
    rw [← List.map_append]
    exact (cl_tup (by simpa using h1) (fun n hm => by
      rcases List.mem_append.1 hm with hm | hm
      · exact h2 n hm
      · exact h3 n hm)).toYk
  intro y hy
  simp only [bentL, List.cons_append, List.nil_append, List.mem_cons, List.not_mem_nil, or_false] at hy
  rcases hy with rfl | rfl | rfl | rfl | rfl | rfl | rfl | rfl | rfl | rfl | rfl | rfl | rfl | rfl | rfl
  · exact yk_lst (by omega) hn'
  · exact lit_yk.1.toYk
  · exact (cl_int (by decide +kernel)).toYk
  · exact lit_yk.2.2.2.2.2.2.2.1
  · exact lit_yk.2.2.2.2.2.2.1.toYk
  · exact lit_yk.2.2.2.2.2.2.2.2
  · exact app cs [1] (by simp; omega) hn' (by simp)
  · exact (cl_tup (by omega) h1').toYk
  · rw [← List.map_reverse]
    exact (cl_tup (by simp; omega) (fun n hm => hn' n (List.mem_reverse.1 hm))).toYk
  · exact yk_nest (by omega) hn'
  · have := yk_mid h (a := as) (b := bs) (by omega) ha' hb'
    simpa using this
  · have := yk_mid (od_int z1) (a := as) (b := bs) (by omega) ha' hb'
    simpa using this
  · have := app as ([z - 1, 1] ++ bs) (by simp; omega) ha' (by
      intro n hm
      simp only [List.cons_append, List.nil_append, List.mem_cons] at hm
      rcases hm with rfl | rfl | hm
      · exact z2
      · decide
      · exact hb' n hm)
    simpa using this
  · exact app cs [0] (by simp; omega) hn' (by simp)
  · exact app cs [-1, 1] (by simp; omega) hn' (by simp)
theorem slc_t (xs : List D) (lo hi) : sliceD (.tup xs) lo hi = some (.tup (cutL xs lo hi)) := rfl
theorem rev_t (xs : List D) : revD (.tup xs) = some (.tup xs.reverse) := rfl
theorem b_list (xs : List D) : b1 .list (.tup xs) = some (.own (.lst xs)) := rfl
theorem c_bent {n : Nat} (hn : 4 ≤ n) (t : Tp) {p s : Int} {cs : List Int} (h : Pts p s cs) : ∃ t' a b c, Tl a b c ∧ callF kls gam n 109 [Tp.d t, partsV p s cs] = .ok (.tup [a, b, c]) [some (Tp.d t'), some (partsV p s cs)] := by
  rw [call_eq' (by omega) (fd := fd109) rfl rfl]
  have h1 := h.p1
  have h2 := h.p2
  have h3 := h.s1
  have h4 := h.s2
  have hlen := h.cl.len
  have hcb : ∀ c ∈ cs, 1 ≤ (c : Int) ∧ c ≤ 126 := fun c hc => by
    have k1 := h.cl.pos c hc
    have k2 := (le_sum h.cl.pos).2 c hc
    have k3 := (cho_ok p s h.p2 (by omega) h.s2).2
    rw [h.cl.sum] at k2
    omega
  have hcs : 0 < cs.length := by
    rcases Nat.eq_zero_or_pos cs.length with e | e
    · have := List.length_eq_zero_iff.1 e
      have hs := h.cl.sum
      rw [this] at hs
      have := (cho_ok p s h2 (by omega) h4).1
      simp at hs
      omega
    · exact e
  have kp : Cl (.int p) := cl_int (by omega)
  have ks : Cl (.int s) := cl_int (by omega)
  have kc : Cl (.tup (cs.map .int)) := cl_tup (by omega) fun n hm => by have := hcb n hm; omega
  obtain ⟨odd, t1, hx, e1⟩ := c_any (n := n - 1) (by omega) t (.own (.lst [.non, .bl true, .bl false, .int 0, .int (-1), .int 10, .int (10 ^ (30 : Int).toNat), .str (Str.ofString "2"), .tup [.int 2], .lst [.int 2], .dct [] [], .int (p + 1), .int s, .int p])) _ rfl (by simp) (by simp) (by simp [D.isOwn])
  have ho : Od odd := by
    simp only [List.mem_cons, List.not_mem_nil, or_false] at hx
    rcases hx with rfl | rfl | rfl | rfl | rfl | rfl | rfl | rfl | rfl | rfl | rfl | rfl | rfl | rfl
    · exact lit_yk.1
    · exact lit_yk.2.1
    · exact lit_yk.2.2.1
    · exact od_int (by decide +kernel)
    · exact od_int (by decide +kernel)
    · exact od_int (by decide +kernel)
    · exact od_int (by rw [pow30]; decide +kernel)
    · exact lit_yk.2.2.2.1
    · exact lit_yk.2.2.2.2.1
    · exact lit_yk.2.2.2.2.2.1
    · exact lit_yk.2.2.2.2.2.2.1
    · exact od_int (by omega)
    · exact od_int (by omega)
    · exact od_int (by omega)
  have oo := own_pl ho.pp
  obtain ⟨r, t2, r0, r1, e2⟩ := c_pick (n - 1 - 1) t1 cs.length (by omega) (by omega)
  obtain ⟨q, t3, q0, q1, e3⟩ := c_pick (n - 1 - 1) t2 6 (by omega) (by omega)
  rw [show n - 1 - 1 + 1 = n - 1 by omega] at e2 e3
  by_cases hq0 : q = 0
  · refine ⟨t3, odd, .int s, .tup (cs.map .int), tl_of ho.toYk ks.toYk kc.toYk (.inr (.inr ⟨ks, kc⟩)), ?_⟩
    simp only [fd109, partsV, List.map, List.replicate, List.cons_append, List.nil_append, List.length_cons, List.length_nil, List.set_cons_zero, List.set_cons_succ, e_lit, e_loc, e_fld, e_at, e_tup, e_lst, e_dct, e_bin, e_neg, e_cmp, e_cmp2, e_sub, e_slc, e_rev, e_bi, e_bi2, e_isi, e_call, l_nil, l_cons, a_nil, a_cons, e_and, e_or, e_not, e_ite, brl_t, brl_f, fls, trs, x_nm, x_ret0, x_ret, x_setI, xc_cons, xc_nil, x_if, sq_nx, sq_ret, sq_ex, sq_cont, pkB2, pkB, rp, qe, slot0, slotS, un_ow1, un_int, un_bl, un_str, un_tup, un_lst, un_scr, un_non, un_ins, un_dct, un_exc, ow_own, ow_int, ow_bl, ow_str, ow_tup, ow_lst, ow_scr, ow_non, ow_ins, ow_dct, ow_exc, plain,  ↓to_bnd, bnd_ok, bnd_ex, R.of_some, it0, it1, it2, it3, it4, tt0, tt1, tt2, Option.map_some, olOf, isOL, Option.isSome, Bool.false_eq_true, if_false, if_true, calls, grab, back, recvOf, List.getElem?_cons_zero, List.getElem?_cons_succ, oT, x_tp3, tp3_t, x_par2, bop_pow10 30 (by decide) (by decide), bop_add, e1, b_len2, List.length_map, e2, e3, hq0, Nat.reduceAdd, Nat.reduceLT, cv_eq, decide_true, oo, un_ow oo, fin_ret, outsOf]
  by_cases hq1 : q = 1
  · refine ⟨t3, .int p, odd, .tup (cs.map .int), tl_of kp.toYk ho.toYk kc.toYk (.inr (.inl ⟨kp, kc⟩)), ?_⟩
    have h10 : ¬ (1 : Int) = 0 := by decide
    simp only [fd109, partsV, List.map, List.replicate, List.cons_append, List.nil_append, List.length_cons, List.length_nil, List.set_cons_zero, List.set_cons_succ, e_lit, e_loc, e_fld, e_at, e_tup, e_lst, e_dct, e_bin, e_neg, e_cmp, e_cmp2, e_sub, e_slc, e_rev, e_bi, e_bi2, e_isi, e_call, l_nil, l_cons, a_nil, a_cons, e_and, e_or, e_not, e_ite, brl_t, brl_f, fls, trs, x_nm, x_ret0, x_ret, x_setI, xc_cons, xc_nil, x_if, sq_nx, sq_ret, sq_ex, sq_cont, pkB2, pkB, rp, qe, slot0, slotS, un_ow1, un_int, un_bl, un_str, un_tup, un_lst, un_scr, un_non, un_ins, un_dct, un_exc, ow_own, ow_int, ow_bl, ow_str, ow_tup, ow_lst, ow_scr, ow_non, ow_ins, ow_dct, ow_exc, plain,  ↓to_bnd, bnd_ok, bnd_ex, R.of_some, it0, it1, it2, it3, it4, tt0, tt1, tt2, Option.map_some, olOf, isOL, Option.isSome, Bool.false_eq_true, if_false, if_true, calls, grab, back, recvOf, List.getElem?_cons_zero, List.getElem?_cons_succ, oT, x_tp3, tp3_t, x_par2, bop_pow10 30 (by decide) (by decide), bop_add, e1, b_len2, List.length_map, e2, e3, hq1, h10, Nat.reduceAdd, Nat.reduceLT, cv_eq, decide_true, decide_false, oo, un_ow oo, fin_ret, outsOf]
  obtain ⟨k, rfl⟩ : ∃ k : Nat, r = k := ⟨r.toNat, by omega⟩
  have hk : k < cs.length := by omega
  have hit : itemD (.tup (cs.map .int)) (.int k) = some (.int cs[k]) := item_tup (by simp [hk])
  obtain ⟨as, ea, la⟩ := cut_sub cs none (some k)
  obtain ⟨bs, eb, lb⟩ := cut_sub cs (some (k + 1)) none
  obtain ⟨a1, e11, l1⟩ := cut_sub cs (some 1) none
  have lab : as.length + bs.length ≤ cs.length := by
    have k1 := congrArg List.length ea
    have k2 := congrArg List.length eb
    simp only [cutL, List.length_take, List.length_drop, List.length_map, sIx] at k1 k2
    rw [if_neg (by omega)] at k1 k2
    omega
  have hz := hcb _ (List.getElem_mem hk)
  have hall := bent_yk (as := as) (bs := bs) (a1 := a1) (cs := cs) (z := cs[k]) ho (by omega) (by omega) (fun n hm => by have := hcb n hm; omega) la lb (by omega) l1
  have hlx : (bentL (as.map .int) (bs.map .int) (a1.map .int) cs odd cs[k]).length ≤ 1000 := by simp [bentL]
  obtain ⟨y, t4, hy, e4⟩ := c_any (n := n - 1) (by omega) t3 (.own (.lst (bentL (as.map .int) (bs.map .int) (a1.map .int) cs odd cs[k]))) _ rfl (by simp [bentL]) hlx (fun x hx => own_plT (hall x hx).pl)
  have oy := own_plT (hall y hy).pl
  refine ⟨t4, .int p, .int s, y, tl_of kp.toYk ks.toYk (hall y hy) (.inl ⟨kp, ks⟩), ?_⟩
  have hla : (as.map D.int).length ≤ 200 := by rw [List.length_map]; omega
  have hlb : (bs.map D.int).length ≤ 200 := by rw [List.length_map]; omega
  have hlc : (cs.map D.int).length ≤ 200 := by rw [List.length_map]; omega
  simp only [bentL, List.map, List.replicate, List.cons_append, List.nil_append, List.length_cons, List.length_nil, List.set_cons_zero, List.set_cons_succ] at e4
  generalize as.map D.int = A at *
  generalize bs.map D.int = B at *
  generalize a1.map D.int = A1 at *
  have t1' : ∀ x, bop .add (.tup A) (.tup [x]) = some (.tup (A ++ [x])) := fun x => add_tt _ _ (by simp; omega)
  have t2' : ∀ x, bop .add (.tup (A ++ [x])) (.tup B) = some (.tup (A ++ [x] ++ B)) := fun x => add_tt _ _ (by simp; omega)
  have t3' : ∀ x y, bop .add (.tup A) (.tup [x, y]) = some (.tup (A ++ [x, y])) := fun x y => add_tt _ _ (by simp; omega)
  have t4' : ∀ x y, bop .add (.tup (A ++ [x, y])) (.tup B) = some (.tup (A ++ [x, y] ++ B)) := fun x y => add_tt _ _ (by simp; omega)
  have t5' : ∀ x, bop .add (.tup (cs.map .int)) (.tup [x]) = some (.tup (cs.map .int ++ [x])) := fun x => add_tt _ _ (by simp; omega)
  have t6' : ∀ x y, bop .add (.tup (cs.map .int)) (.tup [x, y]) = some (.tup (cs.map .int ++ [x, y])) := fun x y => add_tt _ _ (by simp; omega)
  have hck : (cs.map D.int)[k]? = some (.int cs[k]) := by simp [hk]
  simp only [fd109, partsV, List.map, List.replicate, List.cons_append, List.nil_append, List.length_cons, List.length_nil, List.set_cons_zero, List.set_cons_succ, e_lit, e_loc, e_fld, e_at, e_tup, e_lst, e_dct, e_bin, e_neg, e_cmp, e_cmp2, e_sub, e_slc, e_rev, e_bi, e_bi2, e_isi, e_call, l_nil, l_cons, a_nil, a_cons, e_and, e_or, e_not, e_ite, brl_t, brl_f, fls, trs, x_nm, x_ret0, x_ret, x_setI, xc_cons, xc_nil, x_if, sq_nx, sq_ret, sq_ex, sq_cont, pkB2, pkB, rp, qe, slot0, slotS, un_ow1, un_int, un_bl, un_str, un_tup, un_lst, un_scr, un_non, un_ins, un_dct, un_exc, ow_own, ow_int, ow_bl, ow_str, ow_tup, ow_lst, ow_scr, ow_non, ow_ins, ow_dct, ow_exc, plain,  ↓to_bnd, bnd_ok, bnd_ex, R.of_some, it0, it1, it2, it3, it4, tt0, tt1, tt2, Option.map_some, olOf, isOL, Option.isSome, Bool.false_eq_true, if_false, if_true, calls, grab, back, recvOf, List.getElem?_cons_zero, List.getElem?_cons_succ, oT, x_tp3, tp3_t, x_par2, bop_pow10 30 (by decide) (by decide), bop_add, e1, b_len2, List.length_map, e2, e3, hq0, hq1, Nat.reduceAdd, Nat.reduceLT, cv_eq, decide_true, decide_false, oo, un_ow oo, b_list, e_slc, slc_t, rev_t, o_none, o_int, evO, bop_sub, hit, ea, eb, e11, t1', t2', t3', t4', t5', t6', add_ll, Nat.reduceLeDiff, e4, oy, un_ow oy, fin_ret, outsOf]
end Vm

/-! #### part P18 -/
namespace Vm
open PySem
def yes : R D → Bool
  | .ok (.bl true) [] => true
  | _ => false
theorem yes_eq {r : R D} (h : yes r = true) : r = .ok (.bl true) [] := by
  unfold yes at h
  split at h
  · rfl
  · cases h
theorem c_known : callF kls gam 29 115 [] = .ok (.bl true) [] := yes_eq (by decide +kernel)
end Vm

/-! #### part P19 -/
namespace Vm
open PySem
theorem pts_of {p s : Int} {cs : List Int} (h1 : 1 ≤ p) (h2 : p ≤ 9) (h3 : 1 ≤ s) (h4 : s ≤ p) (h : ClsOk (cho p s) cs) : Pts p s cs := ⟨h1, h2, h3, h4, h⟩
theorem pts_one : Pts 1 1 [1] := ⟨by decide, by decide, by decide, by decide, ⟨by decide +kernel, by simp, by simp⟩⟩
def lIn : List S := [.if_ (.not (.call 111 [(.call 109 [(.rd (.loc 1)), (.rd (.loc 5))])])) [.ret (.lit (.bl false))] []]
def lOut : List S := [.asg (.nm 3) (.bin .add (.lit (.int 1)) (.call 101 [(.rd (.loc 1)), (.lit (.int 9))])), .asg (.nm 4) (.bin .add (.lit (.int 1)) (.call 101 [(.rd (.loc 1)), (.rd (.loc 3))])), .asg (.nm 5) (.tup [(.rd (.loc 3)), (.rd (.loc 4)), (.call 106 [(.rd (.loc 1)), (.call 105 [(.rd (.loc 3)), (.rd (.loc 4))])])]), .if_ (.or (.not (.call 111 [(.rd (.loc 5))])) (.not (.call 113 [(.rd (.loc 1)), (.rd (.loc 5))]))) [.ret (.lit (.bl false))] [], .asg (.nm 6) (.tup [(.rd (.loc 3)), (.rd (.loc 4)), (.call 106 [(.rd (.loc 1)), (.call 105 [(.rd (.loc 3)), (.rd (.loc 4))])])]), .if_ (.not (.call 114 [(.rd (.loc 5)), (.call 102 [(.rd (.loc 1)), (.lst false [(.rd (.loc 5)), (.rd (.loc 6)), (.tup [(.lit (.int 1)), (.lit (.int 1)), (.tup [(.lit (.int 1))])])])])])) [.ret (.lit (.bl false))] [], .for_ (.nm 7) (.rng [(.lit (.int 6))]) lIn]
theorem law_turn (C : Cf) (hC : C.Φ = callF kls gam 29) (scr : D) (t : Tp) (a b c d e f : Option D) : ∃ t' b' c' d' e' f', execs kls lOut C [some scr, some (Tp.d t), a, b, c, d, e, f] = .ok .nx [some scr, some (Tp.d t'), a, b', c', d', e', f'] := by
  obtain ⟨r1, t1, r10, r11, e1⟩ := c_pick 28 t 9 (by omega) (by omega)
  rw [show 28 + 1 = 29 from rfl] at e1
  generalize hp : 1 + r1 = p at *
  have p1 : 1 ≤ p := by omega
  have p2 : p ≤ 9 := by omega
  obtain ⟨r2, t2, r20, r21, e2⟩ := c_pick 28 t1 p (by omega) (by omega)
  rw [show 28 + 1 = 29 from rfl] at e2
  generalize hs : 1 + r2 = s at *
  have s1 : 1 ≤ s := by omega
  have s2 : s ≤ p := by omega
  have e3 := c_cho (n := 29) (by omega) p s (by omega) p2 (by omega) (by omega)
  have hch := cho_ok p s p2 (by omega) s2
  obtain ⟨t3, cs, k3, e4⟩ := c_classes (n := 29) (by omega) t2 (cho p s) hch.1 hch.2
  have P1 : Pts p s cs := pts_of p1 p2 s1 s2 k3
  have e5 := c_istold (n := 29) (by omega) P1.tl
  obtain ⟨t4, e6⟩ := c_groups (n := 29) (by omega) t3 P1
  obtain ⟨t5, cs2, k5, e7⟩ := c_classes (n := 29) (by omega) t4 (cho p s) hch.1 hch.2
  have P2 : Pts p s cs2 := pts_of p1 p2 s1 s2 k5
  obtain ⟨x, t6, hx, e8⟩ := c_any (n := 29) (by omega) t5 (.own (.lst [partsV p s cs, partsV p s cs2, partsV 1 1 [1]])) _ rfl (by simp) (by simp) (by
    intro x hx
    simp only [List.mem_cons, List.not_mem_nil, or_false] at hx
    rcases hx with rfl | rfl | rfl <;> rfl)
  obtain ⟨p', s', cs', rfl, P3⟩ : ∃ p' s' cs', x = partsV p' s' cs' ∧ Pts p' s' cs' := by
    simp only [List.mem_cons, List.not_mem_nil, or_false] at hx
    rcases hx with rfl | rfl | rfl
    · exact ⟨_, _, _, rfl, P1⟩
    · exact ⟨_, _, _, rfl, P2⟩
    · exact ⟨_, _, _, rfl, pts_one⟩
  have e9 := c_equal (n := 29) (by omega) P1 P3
  obtain ⟨ρ', e10, t7, z, hρ⟩ := forGo_ok (tg := .nm 7) (body := execs kls lIn C) (fun _ ρ => ∃ (t' : Tp) (z : Option D), ρ = [some scr, some (Tp.d t'), a, some (.int p), some (.int s), some (partsV p s cs), some (partsV p s cs2), z]) (by
    rintro x zs ρ ⟨t', z, rfl⟩
    obtain ⟨t'', u, v, w, T, e⟩ := c_bent (n := 29) (by omega) t' P1
    have e' := c_istold (n := 29) (by omega) T
    refine ⟨[some scr, some (Tp.d t'), a, some (.int p), some (.int s), some (partsV p s cs), some (partsV p s cs2), some x], [some scr, some (Tp.d t''), a, some (.int p), some (.int s), some (partsV p s cs), some (partsV p s cs2), some x], ?_, ?_, _, _, rfl⟩
    · simp only [bindT, List.map, List.replicate, List.cons_append, List.nil_append, List.length_cons, List.length_nil, List.set_cons_zero, List.set_cons_succ, Nat.reduceAdd, Nat.reduceLT, if_true]
    · simp only [partsV] at e ⊢
      simp only [lIn, List.map, List.replicate, List.cons_append, List.nil_append, List.length_cons, List.length_nil, List.set_cons_zero, List.set_cons_succ, e_lit, e_loc, e_fld, e_at, e_tup, e_lst, e_dct, e_bin, e_neg, e_cmp, e_cmp2, e_sub, e_slc, e_rev, e_bi, e_bi2, e_isi, e_call, l_nil, l_cons, a_nil, a_cons, e_and, e_or, e_not, e_ite, brl_t, brl_f, fls, trs, x_nm, x_ret0, x_ret, x_setI, xc_cons, xc_nil, x_if, sq_nx, sq_ret, sq_ex, sq_cont, pkB2, pkB, rp, qe, slot0, slotS, un_ow1, un_int, un_bl, un_str, un_tup, un_lst, un_scr, un_non, un_ins, un_dct, un_exc, ow_own, ow_int, ow_bl, ow_str, ow_tup, ow_lst, ow_scr, ow_non, ow_ins, ow_dct, ow_exc, plain,  ↓to_bnd, bnd_ok, bnd_ex, R.of_some, it0, it1, it2, it3, it4, tt0, tt1, tt2, Option.map_some, olOf, isOL, Option.isSome, Bool.false_eq_true, if_false, if_true, calls, grab, back, recvOf, List.getElem?_cons_zero, List.getElem?_cons_succ, hC, oT, e, e']) (rangeD 0 6) [some scr, some (Tp.d t6), a, some (.int p), some (.int s), some (partsV p s cs), some (partsV p s cs2), f] ⟨t6, f, rfl⟩
  subst hρ
  refine ⟨t7, some (.int p), some (.int s), some (partsV p s cs), some (partsV p s cs2), z, ?_⟩
  simp only [partsV, List.map, List.replicate, List.cons_append, List.nil_append, List.length_cons, List.length_nil, List.set_cons_zero, List.set_cons_succ] at *
  simp only [lOut, List.map, List.replicate, List.cons_append, List.nil_append, List.length_cons, List.length_nil, List.set_cons_zero, List.set_cons_succ, e_lit, e_loc, e_fld, e_at, e_tup, e_lst, e_dct, e_bin, e_neg, e_cmp, e_cmp2, e_sub, e_slc, e_rev, e_bi, e_bi2, e_isi, e_call, l_nil, l_cons, a_nil, a_cons, e_and, e_or, e_not, e_ite, brl_t, brl_f, fls, trs, x_nm, x_ret0, x_ret, x_setI, xc_cons, xc_nil, x_if, sq_nx, sq_ret, sq_ex, sq_cont, pkB2, pkB, rp, qe, slot0, slotS, un_ow1, un_int, un_bl, un_str, un_tup, un_lst, un_scr, un_non, un_ins, un_dct, un_exc, ow_own, ow_int, ow_bl, ow_str, ow_tup, ow_lst, ow_scr, ow_non, ow_ins, ow_dct, ow_exc, plain,  ↓to_bnd, bnd_ok, bnd_ex, R.of_some, it0, it1, it2, it3, it4, tt0, tt1, tt2, Option.map_some, olOf, isOL, Option.isSome, Bool.false_eq_true, if_false, if_true, calls, grab, back, recvOf, List.getElem?_cons_zero, List.getElem?_cons_succ, hC, oT, e1, bop_add, hp, e2, hs, e3, e4, e5, e6, e7, e8, e9, x_for, i_rng, rng1 (show (0 : Int) ≤ 6 by omega) (show (6 : Int) ≤ 1000 by omega), Nat.reduceAdd, Nat.reduceLT]
  rw [show Int.toNat 6 = 6 from rfl, e10]
  simp only [List.map, List.replicate, List.cons_append, List.nil_append, List.length_cons, List.length_nil, List.set_cons_zero, List.set_cons_succ, e_lit, e_loc, e_fld, e_at, e_tup, e_lst, e_dct, e_bin, e_neg, e_cmp, e_cmp2, e_sub, e_slc, e_rev, e_bi, e_bi2, e_isi, e_call, l_nil, l_cons, a_nil, a_cons, e_and, e_or, e_not, e_ite, brl_t, brl_f, fls, trs, x_nm, x_ret0, x_ret, x_setI, xc_cons, xc_nil, x_if, sq_nx, sq_ret, sq_ex, sq_cont, pkB2, pkB, rp, qe, slot0, slotS, un_ow1, un_int, un_bl, un_str, un_tup, un_lst, un_scr, un_non, un_ins, un_dct, un_exc, ow_own, ow_int, ow_bl, ow_str, ow_tup, ow_lst, ow_scr, ow_non, ow_ins, ow_dct, ow_exc, plain,  ↓to_bnd, bnd_ok, bnd_ex, R.of_some, it0, it1, it2, it3, it4, tt0, tt1, tt2, Option.map_some, olOf, isOL, Option.isSome, Bool.false_eq_true, if_false, if_true]
theorem law_ok (ns : List Int) (h : ns.length ≤ 63) : ∃ o, callF kls gam 30 116 [.scr (ns.map .int)] = .ok (.bl true) o := by
  have hb : fd116.body = [.asg (.nm 1) (.call 100 [(.rd (.loc 0))]), .if_ (.not (.call 115 [])) [.ret (.lit (.bl false))] [], .for_ (.nm 2) (.rng [(.lit (.int 4))]) lOut, .ret (.lit (.bl true))] := rfl
  rw [call_eq' (by omega) (fd := fd116) rfl rfl]
  obtain ⟨t, e1⟩ := c_tape (n := 29) (by omega) ns h
  obtain ⟨ρ', e2, t', a, b, c, d, e, f, hρ⟩ := forGo_ok (tg := .nm 2) (body := execs kls lOut { Φ := callF kls gam 29 }) (fun _ ρ => ∃ (t' : Tp) (a b c d e f : Option D), ρ = [some (.scr (ns.map .int)), some (Tp.d t'), a, b, c, d, e, f]) (by
    rintro x zs ρ ⟨t', a, b, c, d, e, f, rfl⟩
    obtain ⟨t'', b', c', d', e', f', h⟩ := law_turn { Φ := callF kls gam 29 } rfl (.scr (ns.map .int)) t' (some x) b c d e f
    refine ⟨[some (.scr (ns.map .int)), some (Tp.d t'), some x, b, c, d, e, f], _, ?_, h, _, _, _, _, _, _, _, rfl⟩
    simp only [bindT, List.map, List.replicate, List.cons_append, List.nil_append, List.length_cons, List.length_nil, List.set_cons_zero, List.set_cons_succ, Nat.reduceAdd, Nat.reduceLT, if_true]) (rangeD 0 4) [some (.scr (ns.map .int)), some (Tp.d t), none, none, none, none, none, none] ⟨t, _, _, _, _, _, _, rfl⟩
  subst hρ
  refine ⟨[some (.scr (ns.map .int))], ?_⟩
  have k1 : fd116.keep = [true] := rfl
  have k2 : fd116.ns - fd116.np = 7 := rfl
  rw [hb, k1, k2]
  simp only [List.map, List.replicate, List.cons_append, List.nil_append, List.length_cons, List.length_nil, List.set_cons_zero, List.set_cons_succ, e_lit, e_loc, e_fld, e_at, e_tup, e_lst, e_dct, e_bin, e_neg, e_cmp, e_cmp2, e_sub, e_slc, e_rev, e_bi, e_bi2, e_isi, e_call, l_nil, l_cons, a_nil, a_cons, e_and, e_or, e_not, e_ite, brl_t, brl_f, fls, trs, x_nm, x_ret0, x_ret, x_setI, xc_cons, xc_nil, x_if, sq_nx, sq_ret, sq_ex, sq_cont, pkB2, pkB, rp, qe, slot0, slotS, un_ow1, un_int, un_bl, un_str, un_tup, un_lst, un_scr, un_non, un_ins, un_dct, un_exc, ow_own, ow_int, ow_bl, ow_str, ow_tup, ow_lst, ow_scr, ow_non, ow_ins, ow_dct, ow_exc, plain,  ↓to_bnd, bnd_ok, bnd_ex, R.of_some, it0, it1, it2, it3, it4, tt0, tt1, tt2, Option.map_some, olOf, isOL, Option.isSome, Bool.false_eq_true, if_false, if_true, calls, grab, back, recvOf, List.getElem?_cons_zero, List.getElem?_cons_succ, e1, c_known, x_for, i_rng, rng1 (show (0 : Int) ≤ 4 by omega) (show (4 : Int) ≤ 1000 by omega), Nat.reduceAdd, Nat.reduceLT, Nat.reduceSub]
  rw [show Int.toNat 4 = 4 from rfl, e2]
  simp only [List.map, List.replicate, List.cons_append, List.nil_append, List.length_cons, List.length_nil, List.set_cons_zero, List.set_cons_succ, e_lit, e_loc, e_fld, e_at, e_tup, e_lst, e_dct, e_bin, e_neg, e_cmp, e_cmp2, e_sub, e_slc, e_rev, e_bi, e_bi2, e_isi, e_call, l_nil, l_cons, a_nil, a_cons, e_and, e_or, e_not, e_ite, brl_t, brl_f, fls, trs, x_nm, x_ret0, x_ret, x_setI, xc_cons, xc_nil, x_if, sq_nx, sq_ret, sq_ex, sq_cont, pkB2, pkB, rp, qe, slot0, slotS, un_ow1, un_int, un_bl, un_str, un_tup, un_lst, un_scr, un_non, un_ins, un_dct, un_exc, ow_own, ow_int, ow_bl, ow_str, ow_tup, ow_lst, ow_scr, ow_non, ow_ins, ow_dct, ow_exc, plain,  ↓to_bnd, bnd_ok, bnd_ex, R.of_some, it0, it1, it2, it3, it4, tt0, tt1, tt2, Option.map_some, olOf, isOL, Option.isSome, Bool.false_eq_true, if_false, if_true, fin_ret, outsOf]
end Vm

open PySem PySem.W PyProof.Rows
theorem PySem.Challenge.cw_everygroup_k01_plans_let_and_refused_holds : PySem.Challenge.rw_everygroup_k01_plans_let_and_refused.Holds := by
  w_on; o_law; k_head; (case hw => w_witness2)
  refine Vm.walk_G (n := 63) (k := 2 * 29 + 2) (fid := 116) (Φ := Vm.callF Vm.gt.Κ Vm.gam 30) rfl (by decide) rfl ⟨rfl, by decide, by decide⟩ ?F ?S
  case F =>
    intro w mg fa h Y G hmg
    refine Vm.law_of (G := Vm.gt) (B := Vm.tbl) (Γ := Vm.gam) (SN := Vm.slotN) Vm.kls_lt ?hall (PySem.W.kIn_of Y) G rfl rfl hmg 29
    case hall => kernel_rfl
  case S => exact fun ns h => Vm.law_ok ns h

import PyProof.Rows.All
import KE.KStateDown
import HandS.Ends
import HandS.More
import HandS.Words
import HandS.WordsExc
import HandS.Codes
import HandS.Head0
import HandS.Head1
import HandS.Head2
import HandS.HeadEnd
import HandS.HeadHook1
import HandS.HeadHook2
import HandS.TupSets
import HandS.TryMany
import HandS.ExcField
import HandS.ExcInit
import KE.KExcSuper
import KE.KExcInit
import HandS.ExcSuper
import HandS.ExcOwn
import KE.KFromBytes
import HandS.Iter
import HandS.Zip
import HandS.Comp
import HandS.Style
import HandS.Exc
import HandS.Defaults
import HandS.CallLocal
import KE.DataFind
import HandS.IsInst
import HandS.Sort
import HandS.ExcValue
import PyProof.TupleOfSeq
import KE.DataCmp
import KE.SortData
import KE.DataMinMax
import KE.KeyNested
import HandS.TupAny
import HandS.Flow
import HandS.Deep
import HandS.ForMost
import Wide.All
import OpenK.AllK
import Wide.FinOn
import PySem.Challenge.RW_teefloors_k01_main_pieces_by_three_cells
set_option Elab.async false
set_option linter.all false
set_option maxRecDepth 100000
/-! Rf1 -/
/-! Rf1: abstract values, their order, the small syntax and its evaluator. -/
namespace Rf
open PySem

inductive D where
  | non | bl (b : Bool) | int (i : Int) | str (s : Str)
  | tup (ds : List D) | lst (ds : List D) | dct (ks vs : List D) | ref (n : Nat) | fn (f : Nat)
  deriving Inhabited

/-- the most that a sequence may hold -/
abbrev lim : Nat := 16777216

namespace D
def isRef : D → Bool
  | .ref _ => true
  | _ => false
def isTup : D → Bool
  | .tup _ => true
  | _ => false
/-- plain data, so deep at the most -/
def ok : Nat → D → Bool
  | _, .non => true
  | _, .bl _ => true
  | _, .int _ => true
  | _, .str s => PyData.strOk s
  | n + 1, .tup ds => ds.all (ok n)
  | n + 1, .lst ds => ds.all (ok n)
  | _, _ => false
/-- a key: plain, without truth values and lists -/
def key : Nat → D → Bool
  | _, .non => true
  | _, .int _ => true
  | _, .str s => PyData.strOk s
  | n + 1, .tup ds => ds.all (key n)
  | _, _ => false
mutual
/-- == -/
def eqv : D → D → Bool
  | .non, .non => true
  | .bl a, .bl b => a == b
  | .bl a, .int j => (if a then 1 else 0) == j
  | .int i, .bl b => i == (if b then 1 else 0)
  | .int a, .int b => a == b
  | .str a, .str b => a == b
  | .tup a, .tup b => eqvs a b
  | .lst a, .lst b => eqvs a b
  | _, _ => false
def eqvs : List D → List D → Bool
  | [], [] => true
  | x :: xs, y :: ys => eqv x y && eqvs xs ys
  | _, _ => false
end
mutual
/-- < of two that can be compared -/
def ltb : D → D → Bool
  | .int a, .int b => decide (a < b)
  | .str a, .str b => decide (a.cps.toList < b.cps.toList)
  | .tup a, .tup b => ltbs a b
  | _, _ => false
def ltbs : List D → List D → Bool
  | [], [] => false
  | [], _ :: _ => true
  | _ :: _, [] => false
  | x :: xs, y :: ys => if eqv x y then ltbs xs ys else ltb x y
end
mutual
/-- of one kind place by place: < raises nothing -/
def cmpb : D → D → Bool
  | .int _, .int _ => true
  | .str _, .str _ => true
  | .tup a, .tup b => cmpbs a b
  | _, _ => false
def cmpbs : List D → List D → Bool
  | [], _ => true
  | _ :: _, [] => true
  | x :: xs, y :: ys => cmpb x y && cmpbs xs ys
end
def ins (x : D) : List D → List D
  | [] => [x]
  | y :: ys => if ltb y x then y :: ins x ys else x :: y :: ys
def isort : List D → List D
  | [] => []
  | x :: xs => ins x (isort xs)
def dedup : List D → List D
  | [] => []
  | x :: xs => x :: (dedup xs).filter fun y => !eqv x y
/-- all can be sorted together -/
def sortable (ds : List D) : Bool := ds.all (key 7) && ds.all fun x => ds.all fun y => cmpb x y
def leastOf (x : D) : List D → D
  | [] => x
  | y :: ys => leastOf (if ltb y x then y else x) ys
def greatestOf (x : D) : List D → D
  | [] => x
  | y :: ys => greatestOf (if ltb x y then y else x) ys
def lookup (k : D) : List D → List D → Option D
  | x :: xs, v :: vs => if eqv x k then some v else lookup k xs vs
  | _, _ => none
/-- a place, from the end too -/
def place (n : Nat) (i : Int) : Option Nat := if 0 ≤ i then (if i < n then some i.toNat else none) else if -(n : Int) ≤ i then some (i + n).toNat else none
def sIx (n d : Nat) : Option Int → Nat
  | none => d
  | some i => if i < 0 then (i + n).toNat else min i.toNat n
def cut (xs : List D) (lo hi : Option Int) : List D := (xs.drop (sIx xs.length 0 lo)).take (sIx xs.length xs.length hi - sIx xs.length 0 lo)
end D

/-! ### what may come -/
inductive AObj where
  | lst (ds : List D) | dct (ks vs : List D) | ins (c : Nat) (fs : List (Str × D))
abbrev AH := List AObj
structure Exc where
  cls : Nat
  arg : Option D
inductive Res (α : Type) where
  | ok (a : α) (h : AH) | ex (e : Exc) (h : AH) | no
namespace Res
def bind {α β : Type} (r : Res α) (f : α → AH → Res β) : Res β := match r with
  | .ok a h => f a h
  | .ex e h => .ex e h
  | .no => .no
@[simp] theorem bind_ok {α β : Type} (a : α) (h : AH) (f : α → AH → Res β) : (Res.ok a h).bind f = f a h := rfl
@[simp] theorem bind_ex {α β : Type} (e : Exc) (h : AH) (f : α → AH → Res β) : (Res.ex (α := α) e h).bind f = .ex e h := rfl
@[simp] theorem bind_no {α β : Type} (f : α → AH → Res β) : (Res.no (α := α)).bind f = .no := rfl
/-- a value or nothing -/
def opt {α : Type} (o : Option α) (h : AH) : Res α := match o with
  | some a => .ok a h
  | none => .no
@[simp] theorem opt_some {α : Type} (a : α) (h : AH) : opt (some a) h = .ok a h := rfl
@[simp] theorem opt_none {α : Type} (h : AH) : opt (none : Option α) h = .no := rfl
end Res

/-! ### syntax -/
inductive Op2 where
  | add | sub | mul | fdiv | mod | pow | shl
  deriving DecidableEq
inductive Cp where
  | eq | ne | lt | le | gt | ge | isin | notin | is | isnot
  deriving DecidableEq
/-- built-in functions -/
inductive Bl where
  | len | int | abs | min | max | sorted | list | tuple | all | any | sum | dict | setsort | lenset
  | isInt | isBool | isStr | isTuple | isList | isListTuple | isBoolStr
  deriving DecidableEq
inductive Mt where
  | append | extend | pop | popAt | count | index | insert | get2 | get1
  deriving DecidableEq
inductive Src where
  | it | rng1 | rng2 | enm | zip
  deriving DecidableEq
/-- targets -/
inductive T where
  | nm (i : Nat) | tp (ts : List T)
inductive E where
  | var (i : Nat) | con (d : D) | glb (k : Nat) | fnm (f : Nat)
  | tup (es : List E) | lst (es : List E)
  | bin (o : Op2) (a b : E) | neg (a : E) | not (a : E)
  | cmp (c : Cp) (a b : E) | chn (c c' : Cp) (x y z : E)
  | and (a b : E) | or (a b : E) | ite (c a b : E)
  | call (f : Nat) (es : List E) | cal (i : Nat) (es : List E) | blt (f : Bl) (es : List E) | mth (m : Mt) (o : E) (es : List E)
  | ix (a i : E) | sl (a : E) (lo hi : Option E) | rev (a : E)
  | cmpr (elt : E) (t : T) (s : Src) (args : List E) (ifs : List E) (own : List Nat)
  | fld (o : E) (f : Str)
/-- what an except clause stores: a list or a value, its parts written (some) or what the exception bears (none) -/
inductive Hx where
  | l (ps : List (Option D)) | v (p : Option D)
/-- an except clause: the class, the slot of its name, the slot that it stores, what -/
structure Hdl where
  cls : Nat
  nm : Option Nat
  to : Nat
  x : Hx
inductive S where
  | expr (e : E) | asg (t : T) (e : E) | thaw (i : Nat) (e : E) | par (is : List Nat) (fs : List Bool) (es : List E)
  | setix (o i v : E) | setfld (o : E) (f : Str) (v : E)
  | ite (c : E) (a b : List S) | for_ (t : T) (s : Src) (args : List E) (body : List S) | while_ (c : E) (body : List S)
  | ret (e : E) | retN | raise (c : Nat) (es : List E) | pass | brk | cont
  | try_ (body : List S) (hs : List Hdl) | stuck

/-! ### values -/
section
def truth (h : AH) : D → Option Bool
  | .non => some false
  | .bl b => some b
  | .int i => some (i != 0)
  | .str s => if s.length ≤ lim then some (s.length != 0) else none
  | .tup ds => some !ds.isEmpty
  | .lst ds => some !ds.isEmpty
  | .ref n => match h[n]? with
    | some (.lst ds) => some !ds.isEmpty
    | _ => none
  | _ => none
/-- what a name of a list stands for: a list's items -/
def listOf (h : AH) : D → Option (List D)
  | .lst ds => some ds
  | .ref n => match h[n]? with
    | some (.lst ds) => some ds
    | _ => none
  | _ => none
/-- a list's or a tuple's items -/
def seqOf (h : AH) : D → Option (List D)
  | .tup ds => some ds
  | d => listOf h d
/-- a list at a name is taken as it stands: for what only looks -/
def look (h : AH) : D → D
  | .ref n => match h[n]? with
    | some (.lst ds) => .lst ds
    | _ => .ref n
  | d => d

def guard' (b : Bool) (d : D) : Option D := if b then some d else none
def small (i : Int) : Bool := decide (-(2 ^ 64) < i) && decide (i < 2 ^ 64)
def rep (k : Int) (xs : List D) : List D := (List.replicate k.toNat xs).flatten

def intD (f : Int → Int → Option D) : D → D → Option D
  | .int a, .int b => f a b
  | _, _ => none
def addL (h : AH) (a b : D) : Option D := match listOf h a, listOf h b with
  | some xs, some ys => guard' (decide (xs.length + ys.length ≤ lim)) (.lst (xs ++ ys))
  | _, _ => none
def addD (h : AH) : D → D → Option D
  | .int a, .int b => some (.int (a + b))
  | .tup a, .tup b => guard' (decide (a.length + b.length ≤ lim)) (.tup (a ++ b))
  | .str a, .str b => guard' (decide (a.length + b.length ≤ lim)) (.str (a ++ b))
  | a, b => addL h a b
def mulL (h : AH) (a : D) (k : Int) : Option D := match listOf h a with
  | some xs => guard' (decide (-(2 ^ 63) ≤ k) && decide (k < 2 ^ 63) && decide (xs.length * k.toNat ≤ lim)) (.lst (rep k xs))
  | none => none
def mulD (h : AH) : D → D → Option D
  | .int a, .int b => guard' (small a || small b) (.int (a * b))
  | a, .int k => mulL h a k
  | _, _ => none
def op2 (h : AH) : Op2 → D → D → Option D
  | .add => addD h
  | .sub => intD fun a b => some (.int (a - b))
  | .mul => mulD h
  | .fdiv => intD fun a b => guard' (b != 0 && decide (b.natAbs < 1073741824)) (.int (a.fdiv b))
  | .mod => intD fun a b => guard' (b != 0) (.int (a.fmod b))
  | .pow => intD fun a b => guard' (decide (0 ≤ b) && decide (b ≤ 1000000) && decide (a.natAbs < 2 ^ 64)) (.int (a ^ b.toNat))
  | .shl => intD fun a b => guard' (decide (0 ≤ b) && decide (b ≤ 1000000) && decide (a.natAbs < 2 ^ 64)) (.int (a * 2 ^ b.toNat))

def isNon : D → Bool
  | .non => true
  | _ => false
def eqD (h : AH) (a b : D) : Option Bool := if (look h a).ok 30 && (look h b).ok 30 then some (D.eqv (look h a) (look h b)) else none
def inD (h : AH) (a b : D) : Option Bool := match seqOf h b with
  | some ds => if (look h a).ok 29 && ds.all (D.ok 29) then some (ds.any fun z => D.eqv z (look h a)) else none
  | none => none
def intB (f : Int → Int → Bool) : D → D → Option Bool
  | .int a, .int b => some (f a b)
  | _, _ => none
def ltD : D → D → Option Bool
  | .int a, .int b => some (decide (a < b))
  | .tup a, .tup b => if D.key 7 (.tup a) && D.key 7 (.tup b) && D.cmpbs a b then some (D.ltbs a b) else none
  | _, _ => none
def isD (a b : D) : Option Bool := if isNon b && !a.isRef then some (isNon a) else none
def cmpD (h : AH) : Cp → D → D → Option Bool
  | .eq, a, b => eqD h a b
  | .ne, a, b => (eqD h a b).map (!·)
  | .lt, a, b => ltD a b
  | .le, a, b => intB (fun a b => decide (a ≤ b)) a b
  | .gt, a, b => intB (fun a b => decide (b < a)) a b
  | .ge, a, b => intB (fun a b => decide (b ≤ a)) a b
  | .isin, a, b => inD h a b
  | .notin, a, b => (inD h a b).map (!·)
  | .is, a, b => isD a b
  | .isnot, a, b => (isD a b).map (!·)

def boolsOf : List D → Option (List Bool)
  | [] => some []
  | .bl b :: r => (boolsOf r).map (b :: ·)
  | _ => none
def intsOf : List D → Option (List Int)
  | [] => some []
  | .int b :: r => (intsOf r).map (b :: ·)
  | _ => none
def allInt : List D → Bool
  | [] => true
  | .int _ :: r => allInt r
  | _ => false

def one (f : D → Option D) : List D → Option D
  | [d] => f d
  | _ => none
def lenD (h : AH) : D → Option D
  | .str s => guard' (decide (s.length ≤ lim)) (.int s.length)
  | d => (seqOf h d).map fun ds => .int ds.length
def toInt : D → Option D
  | .int i => some (.int i)
  | .bl b => some (.int (if b then 1 else 0))
  | _ => none
def absD : D → Option D
  | .int i => some (.int i.natAbs)
  | _ => none
/-- a list's items through f -/
def onL (h : AH) (f : List D → Option D) (d : D) : Option D := match listOf h d with
  | some xs => f xs
  | none => none
/-- a list's or a tuple's items through f -/
def onS (h : AH) (f : List D → Option D) (d : D) : Option D := match seqOf h d with
  | some xs => f xs
  | none => none
def minL : List D → Option D
  | x :: xs => guard' (D.sortable (x :: xs)) (D.leastOf x xs)
  | [] => none
def maxL : List D → Option D
  | x :: xs => guard' (D.sortable (x :: xs)) (D.greatestOf x xs)
  | [] => none
def minD (h : AH) : List D → Option D
  | [d] => onL h minL d
  | [a, b] => minL [a, b]
  | _ => none
def maxD (h : AH) : List D → Option D
  | [d] => onL h maxL d
  | [a, b] => maxL [a, b]
  | _ => none
def isTup1 : D → Bool
  | .tup (_ :: _) => true
  | _ => false
def sortL (xs : List D) : Option D := guard' (D.sortable xs && (xs.all isTup1 || xs.all fun x => !x.isTup)) (.lst (D.isort xs))
def intsT : D → Bool
  | .tup ds => !ds.isEmpty && allInt ds
  | _ => false
def setL (xs : List D) : Option D := guard' (D.sortable xs && xs.all intsT && decide (xs.length < 64)) (.lst (D.isort (D.dedup xs)))
def lensetL (xs : List D) : Option D := guard' (xs.all intsT && decide (xs.length < 64)) (.int (D.dedup xs).length)
def allL (xs : List D) : Option D := (boolsOf xs).map fun bs => .bl (bs.all id)
def anyL (xs : List D) : Option D := (boolsOf xs).map fun bs => .bl (bs.any id)
def sumL (xs : List D) : Option D := (intsOf xs).map fun bs => .int bs.sum
inductive Kd where
  | non | bl | int | str | tup | lst
  deriving DecidableEq
def kindOf (h : AH) : D → Option Kd
  | .non => some .non
  | .bl _ => some .bl
  | .int _ => some .int
  | .str _ => some .str
  | .tup _ => some .tup
  | .lst _ => some .lst
  | .ref n => (listOf h (.ref n)).map fun _ => .lst
  | _ => none
/-- is the kind among these, as isinstance asks -/
def isKd : Bl → Kd → Bool
  | .isInt, .int => true
  | .isInt, .bl => true
  | .isBool, .bl => true
  | .isStr, .str => true
  | .isTuple, .tup => true
  | .isList, .lst => true
  | .isListTuple, .lst => true
  | .isListTuple, .tup => true
  | .isBoolStr, .bl => true
  | .isBoolStr, .str => true
  | _, _ => false
def isD1 (h : AH) (f : Bl) (d : D) : Option D := (kindOf h d).map fun k => .bl (isKd f k)

def blt (h : AH) : Bl → List D → Option D
  | .len => one (lenD h)
  | .int => one toInt
  | .abs => one absD
  | .min => minD h
  | .max => maxD h
  | .sorted => one (onS h sortL)
  | .setsort => one (onL h setL)
  | .lenset => one (onL h lensetL)
  | .list => one fun d => (seqOf h d).map .lst
  | .tuple => one fun d => (seqOf h d).map .tup
  | .all => one (onL h allL)
  | .any => one (onL h anyL)
  | .sum => one (onL h sumL)
  | .dict => fun _ => none
  | f => one (isD1 h f)

def mth (h : AH) : Mt → D → List D → Res D
  | .append, .ref n, [d] => (match h[n]? with
    | some (.lst ds) => if !d.isRef && decide (ds.length < lim) then .ok .non (h.set n (.lst (ds ++ [d]))) else .no
    | _ => .no)
  | .extend, .ref n, [d] => (match h[n]?, listOf h d with
    | some (.lst ds), some es => if decide (ds.length + es.length ≤ lim) then .ok .non (h.set n (.lst (ds ++ es))) else .no
    | _, _ => .no)
  | .pop, .ref n, [] => (match h[n]? with
    | some (.lst ds) => (match ds[ds.length - 1]? with
      | some d => .ok d (h.set n (.lst ds.dropLast))
      | none => .no)
    | _ => .no)
  | .popAt, .ref n, [.int i] => (match h[n]? with
    | some (.lst ds) => (match D.place ds.length i with
      | some k => (match ds[k]? with
        | some d => .ok d (h.set n (.lst (ds.eraseIdx k)))
        | none => .no)
      | none => .no)
    | _ => .no)
  | .count, d, [x] => (match listOf h d with
    | some ds => if x.ok 30 && ds.all (D.ok 30) then .ok (.int (ds.filter fun z => D.eqv z x).length) h else .no
    | none => .no)
  | .index, d, [x] => (match listOf h d with
    | some ds => if x.ok 30 && ds.all (D.ok 30) then .opt ((ds.findIdx? fun z => D.eqv z x).map fun k => .int k) h else .no
    | none => .no)
  | _, _, _ => .no

def index (h : AH) : D → D → Option D
  | .dct ks vs, k => if k.key 7 then D.lookup k ks vs else none
  | a, .int i => (match seqOf h a with
    | some ds => (D.place ds.length i).bind fun k => ds[k]?
    | none => none)
  | _, _ => none
def setIx (h : AH) : D → D → D → Option AH
  | .ref n, .int i, v => (match h[n]? with
    | some (.lst ds) => if v.isRef then none else (D.place ds.length i).map fun k => h.set n (.lst (ds.set k v))
    | _ => none)
  | _, _, _ => none
def part : D → Option (Option Int)
  | .int i => some (some i)
  | _ => none
def slice (h : AH) (a : D) (lo hi : Option Int) : Option D := match a with
  | .tup ds => if lo = none ∧ hi = none then none else some (.tup (D.cut ds lo hi))
  | a => (listOf h a).map fun ds => .lst (D.cut ds lo hi)
def revD (h : AH) (a : D) : Option D := (listOf h a).map fun ds => .lst ds.reverse

def rngs (lo : Int) (n : Nat) : List D := (List.range n).map fun (k : Nat) => D.int (lo + k)
def enums (i : Nat) : List D → List D
  | [] => []
  | d :: ds => .tup [.int i, d] :: enums (i + 1) ds
def zips : List D → List D → List D
  | a :: as, b :: bs => .tup [a, b] :: zips as bs
  | _, _ => []
def rok (i : Int) : Bool := decide (-(2 ^ 62) ≤ i) && decide (i < 2 ^ 62)
def items : Src → List D → Option (List D)
  | .it, [.tup ds] => some ds
  | .it, [.lst ds] => some ds
  | .rng1, [.int j] => if rok j then some (rngs 0 j.toNat) else none
  | .rng2, [.int i, .int j] => if rok i && rok j then some (rngs i (j - i).toNat) else none
  | .enm, [.lst ds] => some (enums 0 ds)
  | .zip, [.lst a, .lst b] => some (zips a b)
  | .zip, [.tup a, .tup b] => some (zips a b)
  | _, _ => none
end

abbrev St' := List (Option D)
mutual
/-- a value is stored by a target -/
def assign : T → D → St' → Option St'
  | .nm i, d, σ => some (σ.set i (some d))
  | .tp ts, .tup ds, σ => assigns ts ds σ
  | .tp _, _, _ => none
def assigns : List T → List D → St' → Option St'
  | [], [], σ => some σ
  | t :: ts, d :: ds, σ => (match assign t d σ with
    | some σ' => assigns ts ds σ'
    | none => none)
  | _, _, _ => none
end
def wiped (σ : St') : List Nat → St'
  | [] => σ
  | v :: vs => (wiped σ vs).set v none

abbrev CallF := Nat → List D → AH → Res D

/-- the turns of a comprehension, no exception leaving -/
def turns (f : D → AH → Res (Option D)) : List D → AH → Res (List D)
  | [], h => .ok [] h
  | d :: ds, h => match f d h with
    | .ok o h1 => (match turns f ds h1 with
      | .ok r h2 => .ok (match o with
        | some x => x :: r
        | none => r) h2
      | _ => .no)
    | _ => .no

/-- may the expression's list be written by its first name: it is new -/
def E.fresh (fr : Nat → Bool) : E → Bool
  | .lst _ => true
  | .cmpr .. => true
  | .call f _ => fr f
  | .blt .list _ => true
  | .blt .sorted _ => true
  | .blt .setsort _ => true
  | .or a b => a.fresh fr && b.fresh fr
  | .bin .add _ _ => true
  | .bin .mul _ _ => true
  | .sl .. => true
  | _ => false

/-- the module's constants, which defs hand back a new list -/
structure Glb where
  con : Nat → Option D
  fr : Nat → Bool

section
variable (G : Glb) (cl : CallF)
mutual
def ev : E → St' → AH → Res D
  | .var i, σ, h => .opt (σ[i]?.join) h
  | .con d, _, h => .ok d h
  | .glb k, _, h => .opt (G.con k) h
  | .fnm f, _, h => .ok (.fn f) h
  | .tup es, σ, h => (evs es σ h).bind fun ds h1 => if ds.any D.isRef then .no else if ds.length ≤ lim then .ok (.tup ds) h1 else .no
  | .lst es, σ, h => (evs es σ h).bind fun ds h1 => if ds.any D.isRef then .no else if ds.length ≤ lim then .ok (.lst ds) h1 else .no
  | .bin o a b, σ, h => (ev a σ h).bind fun x h1 => (ev b σ h1).bind fun y h2 => .opt (op2 h2 o x y) h2
  | .neg a, σ, h => (ev a σ h).bind fun x h1 => match x with
    | .int i => .ok (.int (-i)) h1
    | _ => .no
  | .not a, σ, h => (ev a σ h).bind fun x h1 => .opt ((truth h1 x).map fun b => .bl !b) h1
  | .cmp c a b, σ, h => (ev a σ h).bind fun x h1 => (ev b σ h1).bind fun y h2 => .opt ((cmpD h2 c x y).map .bl) h2
  | .chn c c' a b d, σ, h => (ev a σ h).bind fun x h1 => (ev b σ h1).bind fun y h2 => match cmpD h2 c x y with
    | some true => (ev d σ h2).bind fun z h3 => .opt ((cmpD h3 c' y z).map .bl) h3
    | some false => .ok (.bl false) h2
    | none => .no
  | .and a b, σ, h => (ev a σ h).bind fun x h1 => match truth h1 x with
    | some true => ev b σ h1
    | some false => .ok x h1
    | none => .no
  | .or a b, σ, h => (ev a σ h).bind fun x h1 => match truth h1 x with
    | some true => .ok x h1
    | some false => ev b σ h1
    | none => .no
  | .ite c a b, σ, h => (ev c σ h).bind fun x h1 => match truth h1 x with
    | some true => ev a σ h1
    | some false => ev b σ h1
    | none => .no
  | .call f es, σ, h => (evs es σ h).bind fun ds h1 => cl f ds h1
  | .cal i es, σ, h => match σ[i]?.join with
    | some (.fn f) => (evs es σ h).bind fun ds h1 => cl f ds h1
    | _ => .no
  | .blt f es, σ, h => (evs es σ h).bind fun ds h1 => .opt (blt h1 f ds) h1
  | .mth m o es, σ, h => (ev o σ h).bind fun x h1 => if (listOf h1 x).isSome then (evs es σ h1).bind fun ds h2 => mth h2 m x ds else .no
  | .ix a i, σ, h => (ev a σ h).bind fun x h1 => (ev i σ h1).bind fun y h2 => .opt (index h2 x y) h2
  | .sl a lo hi, σ, h => (ev a σ h).bind fun x h1 => (evo lo σ h1).bind fun l h2 => (evo hi σ h2).bind fun u h3 => .opt (slice h3 x l u) h3
  | .rev a, σ, h => (ev a σ h).bind fun x h1 => .opt (revD h1 x) h1
  | .cmpr elt t s args ifs own, σ, h => (evs args σ h).bind fun as h1 => match items s as with
    | some xs => turns (fun d h' => match assign t d (wiped σ own) with
        | some σ' => (match evi ifs σ' h' with
          | .ok true h2 => (match ev elt σ' h2 with
            | .ok x h3 => if x.isRef then .no else .ok (some x) h3
            | _ => .no)
          | .ok false h2 => .ok none h2
          | _ => .no)
        | none => .no) xs h1 |>.bind fun ds h2 => if ds.length ≤ lim then .ok (.lst ds) h2 else .no
    | none => .no
  | .fld o f, σ, h => (ev o σ h).bind fun x h1 => match x with
    | .ref n => (match h1[n]? with
      | some (.ins _ fs) => .opt (fs.lookup f) h1
      | _ => .no)
    | _ => .no
def evs : List E → St' → AH → Res (List D)
  | [], _, h => .ok [] h
  | e :: es, σ, h => (ev e σ h).bind fun x h1 => (evs es σ h1).bind fun xs h2 => .ok (x :: xs) h2
def evo : Option E → St' → AH → Res (Option Int)
  | none, _, h => .ok none h
  | some e, σ, h => (ev e σ h).bind fun x h1 => .opt (part x) h1
/-- a clause's test, if any -/
def evi : List E → St' → AH → Res Bool
  | [], _, h => .ok true h
  | [e], σ, h => (ev e σ h).bind fun x h1 => .opt (truth h1 x) h1
  | _, _, _ => .no
end

/-- how a statement ends -/
inductive Out where
  | nx (σ : St') (h : AH) | rt (d : D) (fr : Bool) (h : AH) | bk (σ : St') (h : AH) | ct (σ : St') (h : AH) | ex (e : Exc) (σ : St') (h : AH) | no
def Res.out {α : Type} (r : Res α) (σ : St') (f : α → AH → Out) : Out := match r with
  | .ok a h => f a h
  | .ex e h => .ex e σ h
  | .no => .no
@[simp] theorem Res.out_ok {α : Type} (a : α) (h : AH) (σ : St') (f : α → AH → Out) : (Res.ok a h).out σ f = f a h := rfl
@[simp] theorem Res.out_ex {α : Type} (e : Exc) (h : AH) (σ : St') (f : α → AH → Out) : (Res.ex (α := α) e h).out σ f = .ex e σ h := rfl
@[simp] theorem Res.out_no {α : Type} (σ : St') (f : α → AH → Out) : (Res.no (α := α)).out σ f = .no := rfl

def loop (body : D → St' → AH → Out) : List D → St' → AH → Out
  | [], σ, h => .nx σ h
  | d :: ds, σ, h => match body d σ h with
    | .nx σ1 h1 => loop body ds σ1 h1
    | .ct σ1 h1 => loop body ds σ1 h1
    | .bk σ1 h1 => .nx σ1 h1
    | o => o
def loopW (body : St' → AH → Out) : Nat → St' → AH → Out
  | 0, _, _ => .no
  | n + 1, σ, h => match body σ h with
    | .nx σ1 h1 => loopW body n σ1 h1
    | .ct σ1 h1 => loopW body n σ1 h1
    | .bk σ1 h1 => .nx σ1 h1
    | o => o
/-- values side by side; those that are marked are new lists which may change from here on -/
def evp : List Bool → List E → St' → AH → Res (List D)
  | [], [], _, h => .ok [] h
  | f :: fs, e :: es, σ, h => (ev G cl e σ h).bind fun d h1 => if f then (match e.fresh G.fr, d with
      | true, .lst xs => (evp fs es σ (h1 ++ [.lst xs])).bind fun ds h2 => .ok (.ref h1.length :: ds) h2
      | _, _ => .no) else (evp fs es σ h1).bind fun ds h2 => .ok (d :: ds) h2
  | _, _, _, _ => .no
def sets : List Nat → List D → St' → St'
  | i :: is, d :: ds, σ => sets is ds (σ.set i (some d))
  | _, _, σ => σ
def hpart (e : Exc) : Option D → Option D
  | some d => some d
  | none => e.arg
def hparts (e : Exc) : List (Option D) → Option (List D)
  | [] => some []
  | p :: ps => match hpart e p, hparts e ps with
    | some d, some ds => some (d :: ds)
    | _, _ => none
def hval (e : Exc) : Hx → Option D
  | .l ps => (hparts e ps).map .lst
  | .v p => hpart e p
/-- the first clause of the class stores -/
def unname (σ : St') : Option Nat → St'
  | none => σ
  | some j => σ.set j none
def nmOk (σ : St') : Option Nat → Bool
  | none => true
  | some j => decide (j < σ.length)
def handle (e : Exc) : List Hdl → St' → AH → Out
  | [], σ, h => .ex e σ h
  | c :: r, σ, h => if c.cls = e.cls then (match hval e c.x with
    | some d => if nmOk σ c.nm then .nx (unname (σ.set c.to (some d)) c.nm) h else .no
    | none => .no) else handle e r σ h

variable (W : Nat)
mutual
def exec : S → St' → AH → Out
  | .expr e, σ, h => (ev G cl e σ h).out σ fun _ h1 => .nx σ h1
  | .asg t e, σ, h => (ev G cl e σ h).out σ fun d h1 => match assign t d σ with
    | some σ' => .nx σ' h1
    | none => .no
  | .thaw i e, σ, h => (ev G cl e σ h).out σ fun d h1 => match e.fresh G.fr, d with
    | true, .lst xs => .nx (σ.set i (some (.ref h1.length))) (h1 ++ [.lst xs])
    | _, _ => .no
  | .par is fs es, σ, h => (evp G cl fs es σ h).out σ fun ds h1 => .nx (sets is ds σ) h1
  | .setix o i v, σ, h => (ev G cl v σ h).out σ fun x h1 => (ev G cl o σ h1).out σ fun y h2 => (ev G cl i σ h2).out σ fun z h3 => match setIx h3 y z x with
    | some h4 => .nx σ h4
    | none => .no
  | .setfld _ _ _, _, _ => .no
  | .stuck, _, _ => .no
  | .ite c a b, σ, h => (ev G cl c σ h).out σ fun x h1 => match truth h1 x with
    | some true => execs a σ h1
    | some false => execs b σ h1
    | none => .no
  | .for_ t s args body, σ, h => (evs G cl args σ h).out σ fun as h1 => match items s as with
    | some xs => loop (fun d σ' h' => match assign t d σ' with
      | some σ2 => execs body σ2 h'
      | none => .no) xs σ h1
    | none => .no
  | .while_ c body, σ, h => loopW (fun σ' h' => (ev G cl c σ' h').out σ' fun x h1 => match truth h1 x with
    | some true => execs body σ' h1
    | some false => .bk σ' h1
    | none => .no) W σ h
  | .ret e, σ, h => (ev G cl e σ h).out σ fun d h1 => .rt d (e.fresh G.fr) h1
  | .retN, _, h => .rt .non false h
  | .raise c es, σ, h => (evs G cl es σ h).out σ fun ds h1 => match ds with
    | [] => .ex ⟨c, none⟩ σ h1
    | [d] => if d.isRef then .no else .ex ⟨c, some d⟩ σ h1
    | _ => .no
  | .pass, σ, h => .nx σ h
  | .brk, σ, h => .bk σ h
  | .cont, σ, h => .ct σ h
  | .try_ body hs, σ, h => match execs body σ h with
    | .ex e σ1 h1 => handle e hs σ1 h1
    | o => o
def execs : List S → St' → AH → Out
  | [], σ, h => .nx σ h
  | s :: ss, σ, h => match exec s σ h with
    | .nx σ1 h1 => execs ss σ1 h1
    | o => o
end
end

/-! ### defs -/
structure Def where
  /-- how many parameters, slots -/
  n : Nat
  m : Nat
  body : List S
  fresh : Bool := false
/-- the end of a call: lists of its own are let go, the rest as it was -/
def close (b : Nat) (fr : Bool) : Out → Res D
  | .nx _ h => if fr then .no else .ok .non (h.take b)
  | .rt (.ref n) f h => if n < b then (if fr then .no else .ok (.ref n) (h.take b)) else (match h[n]? with
    | some (.lst ds) => .ok (.lst ds) (h.take b)
    | _ => .no)
  | .rt d f h => if fr && !f then .no else .ok d (h.take b)
  | .ex e _ h => .ex e (h.take b)
  | _ => .no
structure Prg where
  G : Glb
  defs : Nat → Option Def
  W : Nat
def call (P : Prg) : Nat → CallF
  | 0, _, _, _ => .no
  | k + 1, f, ds, h => match P.defs f with
    | some F => if ds.length = F.n then close h.length F.fresh (execs P.G (call P k) P.W F.body (ds.map some ++ List.replicate (F.m - F.n) none) h) else .no
    | none => .no
theorem ins_perm (x : D) : ∀ xs : List D, (D.ins x xs).Perm (x :: xs)
  | [] => .refl _
  | y :: ys => by
    unfold D.ins
    split
    · exact ((ins_perm x ys).cons y).trans (.swap _ _ _)
    · exact .refl _
theorem isort_perm : ∀ xs : List D, (D.isort xs).Perm xs
  | [] => .refl _
  | x :: xs => (ins_perm x _).trans ((isort_perm xs).cons x)
end Rf
/-! Rf2 -/
set_option maxHeartbeats 1000000
/-! Rf2: how abstract values and heaps stand in the layer's heap. -/
namespace Rf
open PySem PySem.Spec PyProof.Rows L2

/-- what stays the same through a law -/
structure Sta where
  P : Program
  w : World
  K : PySem.W.Frag
  /-- the defs' addresses; the exception classes' -/
  fa : Nat → Option Addr
  ca : Nat → Option Addr
  /-- what an exception of the class bears, by name -/
  cf : Nat → Option Str

def KT (K : PySem.W.Frag) (a : Addr) (vs : List V) : Prop :=
  ∃ (o : Obj) (its : Array Value) (n : Nat), K.lookup a = some o ∧ o.cls = .type "tuple" ∧ o.data = .seq its n ∧ its.size ≤ sizeLine ∧ Vals vs its.toList
def TupAt (K : PySem.W.Frag) (ι hid : List Addr) (H : Hp) (a : Addr) (vs : List V) : Prop := (Rd H a (.tup vs) ∧ a ∉ ι ∧ a ∉ hid) ∨ KT K a vs
def LstAt (ι hid : List Addr) (H : Hp) (a : Addr) (vs : List V) : Prop := Rd H a (.lst vs) ∧ a ∉ ι ∧ a ∉ hid
theorem TupAt.sq {K : PySem.W.Frag} {ι hid : List Addr} {H : Hp} {a : Addr} {vs : List V} (h : TupAt K ι hid H a vs) : SqT K H a vs := h.imp (·.1) id

mutual
/-- a value that holds no mutable name -/
inductive RepN (S : Sta) (ι hid : List Addr) (H : Hp) : D → V → Prop
  | non : RepN S ι hid H .non .non
  | bl (b : Bool) : RepN S ι hid H (.bl b) (.bl b)
  | int (i : Int) : RepN S ι hid H (.int i) (.int i)
  | str (s : Str) : RepN S ι hid H (.str s) (.str s)
  | tup {ds : List D} {vs : List V} {a : Addr} : TupAt S.K ι hid H a vs → RepNs S ι hid H ds vs → RepN S ι hid H (.tup ds) (.ref a)
  | lst {ds : List D} {vs : List V} {a : Addr} : LstAt ι hid H a vs → RepNs S ι hid H ds vs → RepN S ι hid H (.lst ds) (.ref a)
  | fn {f : Nat} {a : Addr} : S.fa f = some a → RepN S ι hid H (.fn f) (.ref a)
inductive RepNs (S : Sta) (ι hid : List Addr) (H : Hp) : List D → List V → Prop
  | nil : RepNs S ι hid H [] []
  | cons {d : D} {v : V} {ds : List D} {vs : List V} : RepN S ι hid H d v → RepNs S ι hid H ds vs → RepNs S ι hid H (d :: ds) (v :: vs)
end
def Rep (S : Sta) (ι hid : List Addr) (H : Hp) (d : D) (v : V) : Prop := RepN S ι hid H d v ∨ ∃ (n : Nat) (a : Addr), d = .ref n ∧ v = .ref a ∧ ι[n]? = some a
inductive Reps (S : Sta) (ι hid : List Addr) (H : Hp) : List D → List V → Prop
  | nil : Reps S ι hid H [] []
  | cons {d : D} {v : V} {ds : List D} {vs : List V} : Rep S ι hid H d v → Reps S ι hid H ds vs → Reps S ι hid H (d :: ds) (v :: vs)

/-- what may be read stays readable -/
def Stay (ι hid ι' hid' : List Addr) (H H' : Hp) : Prop := ∀ a u, Rd H a u → a ∉ ι → a ∉ hid → Rd H' a u ∧ a ∉ ι' ∧ a ∉ hid'
section
variable {S : Sta} {ι hid ι' hid' : List Addr} {H H' H'' : Hp}
mutual
theorem RepN.to (k : Stay ι hid ι' hid' H H') : ∀ (d : D) (v : V), RepN S ι hid H d v → RepN S ι' hid' H' d v
  | .non, _, h => by cases h; exact .non
  | .bl b, _, h => by cases h; exact .bl b
  | .int b, _, h => by cases h; exact .int b
  | .str b, _, h => by cases h; exact .str b
  | .fn f, _, h => by cases h with | fn e => exact .fn e
  | .ref n, _, h => by cases h
  | .dct _ _, _, h => by cases h
  | .tup ds, _, h => by
    cases h with
    | tup h1 h2 => exact .tup (h1.imp (fun ⟨a, b, c⟩ => k _ _ a b c) id) (RepNs.to k ds _ h2)
  | .lst ds, _, h => by
    cases h with
    | lst h1 h2 => exact .lst (k _ _ h1.1 h1.2.1 h1.2.2) (RepNs.to k ds _ h2)
theorem RepNs.to (k : Stay ι hid ι' hid' H H') : ∀ (ds : List D) (vs : List V), RepNs S ι hid H ds vs → RepNs S ι' hid' H' ds vs
  | [], _, h => by cases h; exact .nil
  | d :: ds, _, h => by
    cases h with
    | cons h1 h2 => exact .cons (RepN.to k d _ h1) (RepNs.to k ds _ h2)
end
/-- all that is no abstract mutable object is kept -/
def Kp (ι : List Addr) (H H' : Hp) : Prop := ∀ a o, H a = some o → a ∉ ι → H' a = some o
theorem Kp.refl : Kp ι H H := fun _ _ h _ => h
theorem Kp.trans (h : Kp ι H H') (k : Kp ι H' H'') : Kp ι H H'' := fun a o e n => k a o (h a o e n) n
theorem Kp.rd (k : Kp ι H H') {a : Addr} {u : HO} (h : Rd H a u) (n : a ∉ ι) : Rd H' a u := by
  rcases h with h | ⟨o, h⟩
  · exact .inl (k a _ h n)
  · exact .inr ⟨o, k a _ h n⟩
theorem Kp.stay (k : Kp ι H H') : Stay ι hid ι hid H H' := fun _ _ r a b => ⟨k.rd r a, a, b⟩
theorem Kp.new {p : Addr} {u : HO} (n : H p = none) : Kp ι H (upd H p u) := fun a o e _ => by rw [upd_ne (ne_of_none e n)]; exact e
theorem rd_ne {a : Addr} {u : HO} (h : Rd H a u) {p : Addr} (n : H p = none) : a ≠ p := by
  rcases h with h | ⟨o, h⟩
  · exact ne_of_none h n
  · exact ne_of_none h n
theorem RepN.keep (k : Kp ι H H') {d : D} {v : V} (h : RepN S ι hid H d v) : RepN S ι hid H' d v := RepN.to k.stay d v h
theorem RepNs.keep (k : Kp ι H H') {d : List D} {v : List V} (h : RepNs S ι hid H d v) : RepNs S ι hid H' d v := RepNs.to k.stay d v h
theorem Rep.keep (k : Kp ι H H') {d : D} {v : V} (h : Rep S ι hid H d v) : Rep S ι hid H' d v := h.imp (RepN.keep k) id
theorem Reps.keep (k : Kp ι H H') : ∀ {d : List D} {v : List V}, Reps S ι hid H d v → Reps S ι hid H' d v
  | _, _, .nil => .nil
  | _, _, .cons a b => .cons (a.keep k) (Reps.keep k b)
/-- an untracked place may be hidden -/
theorem stay_hide {p : Addr} (n : H p = none) : Stay ι hid ι (p :: hid) H H := fun a u r x y => ⟨r, x, fun z => (List.mem_cons.mp z).elim (fun e => rd_ne r n e) y⟩
theorem stay_unhide {p : Addr} : Stay ι (p :: hid) ι hid H H := fun a u r x y => ⟨r, x, fun z => y (List.mem_cons_of_mem _ z)⟩
theorem stay_push {p : Addr} (n : H p = none) : Stay ι hid (ι ++ [p]) hid H H := fun a u r x y => ⟨r, fun z => (List.mem_append.mp z).elim x fun q => rd_ne r n (by simpa using q), y⟩
theorem stay_move {p : Addr} : Stay ι (p :: hid) (ι ++ [p]) hid H H := fun a u r x y => ⟨r, fun z => (List.mem_append.mp z).elim x fun q => y (by rw [show a = p by simpa using q]; exact List.mem_cons_self), fun z => y (List.mem_cons_of_mem _ z)⟩
theorem stay_take {b : Nat} : Stay ι hid (ι.take b) hid H H := fun a u r x y => ⟨r, fun z => x (List.mem_of_mem_take z), y⟩

theorem RepNs.length : ∀ {ds : List D} {vs : List V}, RepNs S ι hid H ds vs → ds.length = vs.length
  | _, _, .nil => rfl
  | _, _, .cons _ r => congrArg (· + 1) (RepNs.length r)
theorem Reps.length : ∀ {ds : List D} {vs : List V}, Reps S ι hid H ds vs → ds.length = vs.length
  | _, _, .nil => rfl
  | _, _, .cons _ r => congrArg (· + 1) (Reps.length r)
theorem RepNs.get : ∀ {ds : List D} {vs : List V} {i : Nat} {d : D}, RepNs S ι hid H ds vs → ds[i]? = some d → ∃ v, vs[i]? = some v ∧ RepN S ι hid H d v
  | _, _, _, _, .nil, e => by simp at e
  | _, _, 0, _, .cons r _, e => by simp at e; subst e; exact ⟨_, rfl, r⟩
  | _, _, i + 1, d, .cons _ t, e => by
    obtain ⟨v, h1, h2⟩ := RepNs.get (i := i) (d := d) t (by simpa using e)
    exact ⟨v, by simpa using h1, h2⟩
theorem RepNs.getV : ∀ {ds : List D} {vs : List V} {i : Nat} {v : V}, RepNs S ι hid H ds vs → vs[i]? = some v → ∃ d, ds[i]? = some d ∧ RepN S ι hid H d v
  | _, _, _, _, .nil, e => by simp at e
  | _, _, 0, _, .cons r _, e => by simp at e; subst e; exact ⟨_, rfl, r⟩
  | _, _, i + 1, d, .cons _ t, e => by
    obtain ⟨v, h1, h2⟩ := RepNs.getV (i := i) (v := d) t (by simpa using e)
    exact ⟨v, by simpa using h1, h2⟩
theorem RepNs.append : ∀ {ds es : List D} {vs ws : List V}, RepNs S ι hid H ds vs → RepNs S ι hid H es ws → RepNs S ι hid H (ds ++ es) (vs ++ ws)
  | _, _, _, _, .nil, s => s
  | _, _, _, _, .cons r t, s => .cons r (RepNs.append t s)
theorem RepNs.take : ∀ {ds : List D} {vs : List V} (n : Nat), RepNs S ι hid H ds vs → RepNs S ι hid H (ds.take n) (vs.take n)
  | _, _, 0, _ => .nil
  | _, _, _ + 1, .nil => .nil
  | _, _, n + 1, .cons r t => .cons r (RepNs.take n t)
theorem RepNs.drop : ∀ {ds : List D} {vs : List V} (n : Nat), RepNs S ι hid H ds vs → RepNs S ι hid H (ds.drop n) (vs.drop n)
  | _, _, 0, r => r
  | _, _, _ + 1, .nil => .nil
  | _, _, n + 1, .cons _ t => RepNs.drop n t
theorem RepNs.set {d : D} {v : V} (r : RepN S ι hid H d v) : ∀ {ds : List D} {vs : List V} (i : Nat), RepNs S ι hid H ds vs → RepNs S ι hid H (ds.set i d) (vs.set i v)
  | _, _, _, .nil => .nil
  | _, _, 0, .cons _ t => .cons r t
  | _, _, i + 1, .cons q t => .cons q (RepNs.set r i t)
theorem RepNs.erase : ∀ {ds : List D} {vs : List V} (i : Nat), RepNs S ι hid H ds vs → RepNs S ι hid H (ds.eraseIdx i) (vs.eraseIdx i)
  | _, _, _, .nil => .nil
  | _, _, 0, .cons _ t => t
  | _, _, i + 1, .cons q t => .cons q (RepNs.erase i t)
theorem RepNs.reverse {ds : List D} {vs : List V} (h : RepNs S ι hid H ds vs) : RepNs S ι hid H ds.reverse vs.reverse := by
  induction ds generalizing vs with
  | nil => cases h; exact .nil
  | cons d ds ih =>
    cases h with
    | cons a b => rw [List.reverse_cons, List.reverse_cons]; exact (ih b).append (.cons a .nil)
theorem RepNs.dropLast {ds : List D} {vs : List V} (h : RepNs S ι hid H ds vs) : RepNs S ι hid H ds.dropLast vs.dropLast := by
  rw [List.dropLast_eq_take, List.dropLast_eq_take, h.length]; exact h.take _
theorem RepNs.flat {ds : List D} {vs : List V} (h : RepNs S ι hid H ds vs) : ∀ k : Nat, RepNs S ι hid H (List.replicate k ds).flatten (List.replicate k vs).flatten
  | 0 => .nil
  | k + 1 => h.append (RepNs.flat h k)
theorem Reps.noref : ∀ {ds : List D} {vs : List V}, Reps S ι hid H ds vs → ds.any D.isRef = false → RepNs S ι hid H ds vs
  | _, _, .nil, _ => .nil
  | _, _, .cons r t, e => by
    simp only [List.any_cons, Bool.or_eq_false_iff] at e
    refine .cons ?_ (Reps.noref t e.2)
    rcases r with r | ⟨n, a, rfl, _⟩
    · exact r
    · cases e.1
theorem Rep.noref {d : D} {v : V} (r : Rep S ι hid H d v) (e : d.isRef = false) : RepN S ι hid H d v := by
  rcases r with r | ⟨n, a, rfl, _⟩
  · exact r
  · cases e
theorem RepNs.reps : ∀ {ds : List D} {vs : List V}, RepNs S ι hid H ds vs → Reps S ι hid H ds vs
  | _, _, .nil => .nil
  | _, _, .cons r t => .cons (.inl r) (RepNs.reps t)

/-! ### heaps -/
def ORep (S : Sta) (ι hid : List Addr) (H : Hp) : AObj → HO → Prop
  | .lst ds, u => ∃ vs, u = .lst vs ∧ RepNs S ι hid H ds vs
  | _, _ => False
structure HRep (S : Sta) (ι hid : List Addr) (H : Hp) (h : AH) : Prop where
  len : ι.length = h.length
  nd : ι.Nodup
  obj : ∀ (n : Nat) (a : Addr) (o : AObj), ι[n]? = some a → h[n]? = some o → ∃ u, H a = some u ∧ ORep S ι hid H o u
  dj : ∀ a ∈ hid, a ∉ ι
  trk : ∀ a ∈ hid, H a ≠ none
theorem ORep.to (k : Stay ι hid ι' hid' H H') {o : AObj} {u : HO} (h : ORep S ι hid H o u) : ORep S ι' hid' H' o u := by
  cases o with
  | lst ds => obtain ⟨vs, e, r⟩ := h; exact ⟨vs, e, RepNs.to k _ _ r⟩
  | dct _ _ => exact h
  | ins _ _ => exact h
theorem HRep.at {h : AH} (x : HRep S ι hid H h) {n : Nat} {a : Addr} (e : ι[n]? = some a) : ∃ o u, h[n]? = some o ∧ H a = some u ∧ ORep S ι hid H o u := by
  have hn : n < h.length := by
    rw [← x.len]
    exact (List.getElem?_eq_some_iff.mp e).1
  obtain ⟨u, h1, h2⟩ := x.obj n a h[n] e (by simp)
  exact ⟨_, u, by simp, h1, h2⟩
theorem HRep.trk' {h : AH} (x : HRep S ι hid H h) {a : Addr} (e : a ∈ ι) : H a ≠ none := by
  obtain ⟨n, hn⟩ := List.mem_iff_getElem?.mp e
  obtain ⟨o, u, _, h1, _⟩ := x.at hn
  rw [h1]; intro z; cases z
theorem HRep.nin {h : AH} (x : HRep S ι hid H h) {p : Addr} (n : H p = none) : p ∉ ι ∧ p ∉ hid := ⟨fun e => x.trk' e n, fun e => x.trk p e n⟩
/-- what is not mutable may change -/
theorem HRep.new {h : AH} (x : HRep S ι hid H h) {p : Addr} {u : HO} (n : H p = none) : HRep S ι hid (upd H p u) h :=
  ⟨x.len, x.nd, fun m a o e1 e2 => by
    obtain ⟨u', h1, h2⟩ := x.obj m a o e1 e2
    exact ⟨u', Kp.new (ι := []) n a _ h1 (by simp), h2.to (Kp.new n).stay⟩, x.dj, fun a ha => by
    have := x.trk a ha
    rw [upd_ne (show a ≠ p from fun e => this (by rw [e]; exact n))]; exact this⟩
/-- another new place, hidden from here on -/
theorem HRep.hide {h : AH} (x : HRep S ι hid H h) {p : Addr} (t : H p ≠ none) (ni : p ∉ ι) (k : ∀ o u, ORep S ι hid H o u → ORep S ι (p :: hid) H o u) : HRep S ι (p :: hid) H h :=
  ⟨x.len, x.nd, fun m a o e1 e2 => by
    obtain ⟨u', h1, h2⟩ := x.obj m a o e1 e2
    exact ⟨u', h1, k _ _ h2⟩, fun a ha => (List.mem_cons.mp ha).elim (fun e => e ▸ ni) (x.dj a), fun a ha => (List.mem_cons.mp ha).elim (fun e => e ▸ t) (x.trk a)⟩
theorem HRep.unhide {h : AH} {p : Addr} (x : HRep S ι (p :: hid) H h) : HRep S ι hid H h :=
  ⟨x.len, x.nd, fun m a o e1 e2 => by
    obtain ⟨u', h1, h2⟩ := x.obj m a o e1 e2
    exact ⟨u', h1, h2.to stay_unhide⟩, fun a ha => x.dj a (List.mem_cons_of_mem _ ha), fun a ha => x.trk a (List.mem_cons_of_mem _ ha)⟩
/-- a list's content is written -/
theorem Kp.write {n : Nat} {a : Addr} {u : HO} (e : ι[n]? = some a) : Kp ι H (upd H a u) := fun b o h nb => by
  rw [upd_ne (show b ≠ a from fun z => nb (by rw [z]; exact List.mem_of_getElem? e))]; exact h
theorem HRep.write {h : AH} (x : HRep S ι hid H h) {n : Nat} {a : Addr} {u : HO} {o : AObj} (e : ι[n]? = some a) (r : ORep S ι hid H o u) : HRep S ι hid (upd H a u) (h.set n o) := by
  have kp : Kp ι H (upd H a u) := Kp.write e
  refine ⟨by rw [List.length_set]; exact x.len, x.nd, fun m b o' e1 e2 => ?_, x.dj, fun b hb => ?_⟩
  · by_cases hm : m = n
    · subst hm
      rw [e] at e1; cases e1
      rw [List.getElem?_set_self (by rw [← x.len]; exact (List.getElem?_eq_some_iff.mp e).1)] at e2
      cases e2
      exact ⟨u, upd_same, r.to kp.stay⟩
    · rw [List.getElem?_set_ne (Ne.symm hm)] at e2
      obtain ⟨u', h1, h2⟩ := x.obj m b o' e1 e2
      have : b ≠ a := fun z => hm ((List.getElem?_inj (List.getElem?_eq_some_iff.mp e1).1 x.nd).mp (by rw [e1, e, z]))
      exact ⟨u', by rw [upd_ne this]; exact h1, h2.to kp.stay⟩
  · have t := x.trk b hb
    rw [upd_ne (show b ≠ a from fun z => x.dj b hb (by rw [z]; exact List.mem_of_getElem? e))]; exact t

theorem HRep.newhid {h : AH} (x : HRep S ι hid H h) {p : Addr} {u : HO} (n : H p = none) : HRep S ι (p :: hid) (upd H p u) h := by
  have y := x.new (u := u) n
  refine ⟨y.len, y.nd, fun m a o e1 e2 => ?_, fun a ha => (List.mem_cons.mp ha).elim (fun e => e ▸ (x.nin n).1) (y.dj a), fun a ha => (List.mem_cons.mp ha).elim (fun e => by rw [e, upd_same]; intro z; cases z) (y.trk a)⟩
  obtain ⟨u', h1, h2⟩ := x.obj m a o e1 e2
  exact ⟨u', (by rw [upd_ne (ne_of_none h1 n)]; exact h1), h2.to fun b w r n1 n2 => ⟨(Kp.new n).rd r n1, n1, fun z => (List.mem_cons.mp z).elim (fun e => rd_ne r n e) n2⟩⟩
/-! ### slots -/
def SRep (S : Sta) (ι hid : List Addr) (H : Hp) (σ : St') (σc : L2.St) : Prop := σ.length = σc.length ∧ ∀ (i : Nat) (d : D), σ[i]? = some (some d) → ∃ v, σc[i]? = some (some v) ∧ Rep S ι hid H d v
theorem SRep.keep (k : Kp ι H H') {σ : St'} {σc : L2.St} (h : SRep S ι hid H σ σc) : SRep S ι hid H' σ σc :=
  ⟨h.1, fun i d e => let ⟨v, e1, r⟩ := h.2 i d e; ⟨v, e1, r.keep k⟩⟩
theorem SRep.to' (k : Stay ι hid ι' hid' H H') (m : ∀ (n : Nat) (a : Addr), ι[n]? = some a → ι'[n]? = some a) {σ : St'} {σc : L2.St} (h : SRep S ι hid H σ σc) : SRep S ι' hid' H' σ σc :=
  ⟨h.1, fun i d e => let ⟨v, e1, r⟩ := h.2 i d e; ⟨v, e1, r.imp (RepN.to k _ _) fun ⟨n, a, x, y, z⟩ => ⟨n, a, x, y, m n a z⟩⟩⟩
theorem SRep.var {σ : St'} {σc : L2.St} (h : SRep S ι hid H σ σc) {i : Nat} {d : D} (e : σ[i]?.join = some d) : ∃ v, σc[i]? = some (some v) ∧ Rep S ι hid H d v := by
  refine h.2 i d ?_
  cases q : σ[i]? with
  | none => rw [q] at e; cases e
  | some o =>
    rw [q] at e
    rw [show o = some d from e]
theorem SRep.set {σ : St'} {σc : L2.St} (h : SRep S ι hid H σ σc) {i : Nat} {d : D} {v : V} (r : Rep S ι hid H d v) : SRep S ι hid H (σ.set i (some d)) (σc.set i (some v)) := by
  refine ⟨by rw [List.length_set, List.length_set]; exact h.1, fun j e hj => ?_⟩
  by_cases hij : i = j
  · subst hij
    by_cases hl : i < σ.length
    · rw [List.getElem?_set_self hl] at hj
      cases hj
      exact ⟨v, List.getElem?_set_self (by rw [← h.1]; exact hl), r⟩
    · rw [List.getElem?_eq_none (by simpa using hl)] at hj; cases hj
  · rw [List.getElem?_set_ne hij] at hj
    obtain ⟨w, e1, e2⟩ := h.2 j e hj
    exact ⟨w, by rw [List.getElem?_set_ne hij]; exact e1, e2⟩
/-- the concrete slot may be forgotten where the abstract one is -/
theorem SRep.none {σ : St'} {σc : L2.St} (h : SRep S ι hid H σ σc) {i : Nat} {x : Option V} : SRep S ι hid H (σ.set i none) (σc.set i x) := by
  refine ⟨by rw [List.length_set, List.length_set]; exact h.1, fun j e hj => ?_⟩
  by_cases hij : i = j
  · subst hij
    by_cases hl : i < σ.length
    · rw [List.getElem?_set_self hl] at hj; cases hj
    · rw [List.getElem?_eq_none (by simpa using hl)] at hj; cases hj
  · rw [List.getElem?_set_ne hij] at hj
    obtain ⟨w, e1, e2⟩ := h.2 j e hj
    exact ⟨w, by rw [List.getElem?_set_ne hij]; exact e1, e2⟩
theorem SRep.wiped {σ : St'} {σc : L2.St} (h : SRep S ι hid H σ σc) : ∀ vs : List Nat, SRep S ι hid H (wiped σ vs) (wipe σc vs)
  | [] => h
  | v :: vs => (SRep.wiped h vs).none

/-! ### exceptions -/
def ExRep (S : Sta) (ι hid : List Addr) (H : Hp) (e : Exc) (c : Value) (dx : Option Addr) : Prop :=
  ∃ C, S.ca e.cls = some C ∧ c = .ref C ∧ match e.arg with
    | none => True
    | some d => ∃ (f : Str) (a : Addr) (v : V), S.cf e.cls = some f ∧ dx = some a ∧ H a = some (.xd [(f, v)]) ∧ RepN S ι hid H d v

/-! ### what is wanted behind a piece of code -/
/-- a new list's own place -/
def Fr (S : Sta) (ι hid : List Addr) (H H' : Hp) (h' : AH) (d : D) (v : V) : Prop := ∀ ds, d = .lst ds → ∃ p vs, v = .ref p ∧ H p = none ∧ H' p = some (.lst vs) ∧ RepNs S ι (p :: hid) H' ds vs ∧ HRep S ι (p :: hid) H' h'
def RE (S : Sta) (fr : Bool) (ι hid : List Addr) (H H' : Hp) (h' : AH) (d : D) (v : V) : Prop := Rep S ι hid H' d v ∧ (fr = true → Fr S ι hid H H' h' d v)
def RA (S : Sta) (ι hid : List Addr) (H H' : Hp) (h' : AH) (d : List D) (v : List V) : Prop := Reps S ι hid H' d v
def REq {α : Type} (ι hid : List Addr) (H H' : Hp) (h' : AH) (a b : α) : Prop := a = b
def Post {α β : Type} (S : Sta) (R : List Addr → List Addr → Hp → Hp → AH → α → β → Prop) (W : WX) (ι hid : List Addr) (σc : L2.St) (H : Hp) (r : Res α) (Q : β → Hp → Prop) : Prop :=
  match r with
  | .ok a h' => ∀ b H', Kp ι H H' → HRep S ι hid H' h' → R ι hid H H' h' a b → Q b H'
  | .ex e h' => ∀ c dx H', Kp ι H H' → HRep S ι hid H' h' → ExRep S ι hid H' e c dx → W c dx σc H'
  | .no => False
/-- the reading of a piece of code by the evaluator -/
def tR {α β : Type} (S : Sta) (R : List Addr → List Addr → Hp → Hp → AH → α → β → Prop) (W : WX) (m : St' → AH → Res α) : L2.St → Hp → (β → Hp → Prop) → Prop := fun σc H Q =>
  ∃ σ h ι hid, SRep S ι hid H σ σc ∧ HRep S ι hid H h ∧ Post S R W ι hid σc H (m σ h) Q
theorem Post.imp {α β : Type} {R : List Addr → List Addr → Hp → Hp → AH → α → β → Prop} {W : WX} {σc : L2.St} {r : Res α} {Q Q' : β → Hp → Prop} (h : Post S R W ι hid σc H r Q) (k : ∀ b H', Q b H' → Q' b H') : Post S R W ι hid σc H r Q' := by
  cases r with
  | ok a h' => exact fun b H' x y z => k _ _ (h b H' x y z)
  | ex e h' => exact h
  | no => exact h
/-- what holds of a relation from an earlier heap on -/
def Back {α β : Type} (S : Sta) (R : List Addr → List Addr → Hp → Hp → AH → α → β → Prop) : Prop := ∀ ι hid H H' H'' h' h'' a b, Kp ι H H' → HRep S ι hid H' h' → R ι hid H' H'' h'' a b → R ι hid H H'' h'' a b
theorem none_back {h' : AH} (k : Kp ι H H') (x : HRep S ι hid H' h') {p : Addr} (n : H' p = none) : H p = none := by
  cases e : H p with
  | none => rfl
  | some o => rw [k p o e (x.nin n).1] at n; cases n
theorem back_RE {fr : Bool} : Back S (RE S fr) := fun ι hid H H' H'' h' h'' a b k x ⟨r, f⟩ => ⟨r, fun e ds q => by
  obtain ⟨p, vs, e1, e2, e3, e4, e5⟩ := f e ds q
  exact ⟨p, vs, e1, none_back k x e2, e3, e4, e5⟩⟩
theorem back_RA : Back S (RA S) := fun ι hid H H' H'' h' h'' a b k x r => r
theorem back_REq {α : Type} : Back S (REq (α := α)) := fun ι hid H H' H'' h' h'' a b k x r => r
theorem Post.bind {α β γ δ : Type} {R : List Addr → List Addr → Hp → Hp → AH → α → β → Prop} {R1 : List Addr → List Addr → Hp → Hp → AH → γ → δ → Prop} {W : WX} {σc : L2.St} {r : Res γ} {f : γ → AH → Res α} {Q : β → Hp → Prop} (bk : Back S R) (h : Post S R W ι hid σc H (r.bind f) Q) :
    Post S R1 W ι hid σc H r (fun b H1 => ∃ a h1, Kp ι H H1 ∧ HRep S ι hid H1 h1 ∧ R1 ι hid H H1 h1 a b ∧ Post S R W ι hid σc H1 (f a h1) Q) := by
  cases r with
  | ok a h1 =>
    intro b H1 k1 x1 r1
    refine ⟨a, h1, k1, x1, r1, ?_⟩
    have h : Post S R W ι hid σc H (f a h1) Q := h
    cases q : f a h1 with
    | ok a2 h2 =>
      rw [q] at h
      exact fun b2 H2 k2 x2 r2 => h b2 H2 (k1.trans k2) x2 (bk _ _ _ _ _ _ _ _ _ k1 x1 r2)
    | ex e h2 =>
      rw [q] at h
      exact fun c dx H2 k2 x2 r2 => h c dx H2 (k1.trans k2) x2 r2
    | no => rw [q] at h; exact h
  | ex e h1 => exact h
  | no => exact h
end
end Rf
/-! Rf3 -/
set_option maxHeartbeats 1000000
/-! Rf3: operators, comparisons, truth over abstract values. -/
namespace Rf
open PySem PySem.Spec PyProof.Rows L2
section
variable {S : Sta} {ι hid : List Addr} {H : Hp} {h : AH} {v : V}
theorem Rep.int {i : Int} (r : Rep S ι hid H (.int i) v) : v = .int i := by
  rcases r with r | ⟨n, a, e, _⟩
  · cases r; rfl
  · cases e
theorem Rep.str {i : Str} (r : Rep S ι hid H (.str i) v) : v = .str i := by
  rcases r with r | ⟨n, a, e, _⟩
  · cases r; rfl
  · cases e
theorem Rep.bl {i : Bool} (r : Rep S ι hid H (.bl i) v) : v = .bl i := by
  rcases r with r | ⟨n, a, e, _⟩
  · cases r; rfl
  · cases e
theorem Rep.non (r : Rep S ι hid H .non v) : v = .non := by
  rcases r with r | ⟨n, a, e, _⟩
  · cases r; rfl
  · cases e
theorem Rep.tup {ds : List D} (r : Rep S ι hid H (.tup ds) v) : ∃ a vs, v = .ref a ∧ TupAt S.K ι hid H a vs ∧ RepNs S ι hid H ds vs := by
  rcases r with r | ⟨n, a, e, _⟩
  · cases r with
    | tup h1 h2 => exact ⟨_, _, rfl, h1, h2⟩
  · cases e
theorem Rep.lst {ds : List D} (r : Rep S ι hid H (.lst ds) v) : ∃ a vs, v = .ref a ∧ LstAt ι hid H a vs ∧ RepNs S ι hid H ds vs := by
  rcases r with r | ⟨n, a, e, _⟩
  · cases r with
    | lst h1 h2 => exact ⟨_, _, rfl, h1, h2⟩
  · cases e
theorem Rep.ref {n : Nat} (r : Rep S ι hid H (.ref n) v) : ∃ a, v = .ref a ∧ ι[n]? = some a := by
  rcases r with r | ⟨m, a, e, e2, e3⟩
  · cases r
  · cases e; exact ⟨a, e2, e3⟩
theorem Rep.fn {f : Nat} (r : Rep S ι hid H (.fn f) v) : ∃ a, v = .ref a ∧ S.fa f = some a := by
  rcases r with r | ⟨m, a, e, e2, e3⟩
  · cases r with
    | fn e => exact ⟨_, rfl, e⟩
  · cases e
theorem Rep.listOf (x : HRep S ι hid H h) {d : D} (r : Rep S ι hid H d v) {ds : List D} (e : Rf.listOf h d = some ds) : ∃ a vs, v = .ref a ∧ Rd H a (.lst vs) ∧ RepNs S ι hid H ds vs := by
  cases d with
  | lst es =>
    obtain ⟨a, vs, e1, e2, e3⟩ := r.lst
    have e : some es = some ds := e
    cases e
    exact ⟨a, vs, e1, e2.1, e3⟩
  | ref n =>
    obtain ⟨a, e1, e2⟩ := r.ref
    obtain ⟨o, u, e3, e4, e5⟩ := x.at e2
    simp only [Rf.listOf, e3] at e
    cases o with
    | lst es =>
      have e : some es = some ds := e
      cases e
      obtain ⟨vs, e6, e7⟩ := e5
      exact ⟨a, vs, e1, .inl (by rw [e4, e6]), e7⟩
    | dct _ _ => cases e
    | ins _ _ => cases e
  | _ => cases e
theorem Rep.seqOf {K : PySem.W.Frag} (hK : K = S.K) (x : HRep S ι hid H h) {d : D} (r : Rep S ι hid H d v) {ds : List D} (e : Rf.seqOf h d = some ds) : ∃ a vs, v = .ref a ∧ (SqL K H a vs ∨ SqT K H a vs) ∧ RepNs S ι hid H ds vs := by
  subst hK
  have go : ∀ d', Rep S ι hid H d' v → Rf.listOf h d' = some ds → ∃ a vs, v = .ref a ∧ (SqL S.K H a vs ∨ SqT S.K H a vs) ∧ RepNs S ι hid H ds vs := fun d' r' e' => by
    obtain ⟨a, vs, e1, e2, e3⟩ := r'.listOf x e'
    exact ⟨a, vs, e1, .inl (.inl e2), e3⟩
  cases d with
  | tup es =>
    obtain ⟨a, vs, e1, e2, e3⟩ := r.tup
    have e : some es = some ds := e
    cases e
    exact ⟨a, vs, e1, .inr e2.sq, e3⟩
  | lst es => exact go _ r e
  | ref n => exact go _ r e
  | _ => cases e

/-! ### new objects -/
theorem mk_lst {fr : Bool} (x : HRep S ι hid H h) {p : Addr} (n : H p = none) {ds : List D} {vs : List V} (r : RepNs S ι hid H ds vs) :
    Kp ι H (upd H p (.lst vs)) ∧ HRep S ι hid (upd H p (.lst vs)) h ∧ RE S fr ι hid H (upd H p (.lst vs)) h (.lst ds) (.ref p) := by
  have k : Kp ι H (upd H p (.lst vs)) := Kp.new n
  refine ⟨k, x.new n, .inl (.lst ⟨.inl upd_same, x.nin n⟩ (r.keep k)), fun _ es e => ?_⟩
  cases e
  exact ⟨p, vs, rfl, n, upd_same, RepNs.to (ι := ι) (hid := p :: hid) k.stay _ _ (RepNs.to (stay_hide n) _ _ r), x.newhid n⟩
theorem mk_tup {fr : Bool} (x : HRep S ι hid H h) {p : Addr} (n : H p = none) {ds : List D} {vs : List V} (r : RepNs S ι hid H ds vs) :
    Kp ι H (upd H p (.tup vs)) ∧ HRep S ι hid (upd H p (.tup vs)) h ∧ RE S fr ι hid H (upd H p (.tup vs)) h (.tup ds) (.ref p) := by
  have k : Kp ι H (upd H p (.tup vs)) := Kp.new n
  exact ⟨k, x.new n, .inl (.tup (.inl ⟨.inl upd_same, x.nin n⟩) (r.keep k)), fun _ es e => by cases e⟩
theorem mk_val {fr : Bool} {H' : Hp} {h' : AH} {d : D} (r : Rep S ι hid H' d v) (e : ∀ ds, d ≠ .lst ds) : RE S fr ι hid H H' h' d v := ⟨r, fun _ ds q => absurd q (e ds)⟩

/-! ### plain data -/
mutual
def toPy : D → PyData
  | .non => .none
  | .bl b => .bool b
  | .int i => .int i
  | .str s => .str s
  | .tup ds => .tuple (toPys ds)
  | .lst ds => .list (toPys ds)
  | .dct _ _ => .dict []
  | .ref _ => .dict []
  | .fn _ => .dict []
def toPys : List D → List PyData
  | [] => []
  | d :: ds => toPy d :: toPys ds
end
theorem ok_dp : ∀ (n : Nat) (d : D) (v : V), d.ok n = true → RepN S ι hid H d v → Dp S.K H v (toPy d) ∧ (toPy d).canLay0 = true ∧ (toPy d).depth ≤ n := by
  intro n
  induction n with
  | zero =>
    intro d v e r
    cases r with
    | non => exact ⟨.non, rfl, Nat.zero_le _⟩
    | bl b => exact ⟨.bl b, rfl, Nat.zero_le _⟩
    | int i => exact ⟨.int i, rfl, Nat.zero_le _⟩
    | str s => exact ⟨.str s, e, Nat.zero_le _⟩
    | tup _ _ => cases e
    | lst _ _ => cases e
    | fn _ => cases e
  | succ n ih =>
    have all : ∀ (ds : List D) (vs : List V), ds.all (D.ok n) = true → RepNs S ι hid H ds vs → DpAll S.K H vs (toPys ds) ∧ PyData.canLayAll0 (toPys ds) = true ∧ PyData.depthAll (toPys ds) ≤ n := by
      intro ds
      induction ds with
      | nil => intro vs _ r; cases r; exact ⟨.nil, rfl, Nat.zero_le _⟩
      | cons d ds ih2 =>
        intro vs e r
        cases r with
        | cons r1 r2 =>
          simp only [List.all_cons, Bool.and_eq_true] at e
          obtain ⟨a1, a2, a3⟩ := ih d _ e.1 r1
          obtain ⟨b1, b2, b3⟩ := ih2 _ e.2 r2
          refine ⟨.cons a1 b1, ?_, ?_⟩
          · show (_ && _) = true
            rw [a2, b2]; rfl
          · show max _ _ ≤ n
            omega
    intro d v e r
    cases r with
    | non => exact ⟨.non, rfl, Nat.zero_le _⟩
    | bl b => exact ⟨.bl b, rfl, Nat.zero_le _⟩
    | int i => exact ⟨.int i, rfl, Nat.zero_le _⟩
    | str s => exact ⟨.str s, e, Nat.zero_le _⟩
    | tup h1 h2 =>
      obtain ⟨a1, a2, a3⟩ := all _ _ e h2
      exact ⟨.tup h1.sq a1, a2, Nat.succ_le_succ a3⟩
    | lst h1 h2 =>
      obtain ⟨a1, a2, a3⟩ := all _ _ e h2
      exact ⟨.lst (.inl h1.1) a1, a2, Nat.succ_le_succ a3⟩
    | fn _ => cases e
theorem oks_dp {n : Nat} : ∀ (ds : List D) (vs : List V), ds.all (D.ok n) = true → RepNs S ι hid H ds vs → DpAll S.K H vs (toPys ds) ∧ PyData.canLayAll0 (toPys ds) = true ∧ PyData.depthAll (toPys ds) ≤ n := by
  intro ds
  induction ds with
  | nil => intro vs _ r; cases r; exact ⟨.nil, rfl, Nat.zero_le _⟩
  | cons d ds ih2 =>
    intro vs e r
    cases r with
    | cons r1 r2 =>
      simp only [List.all_cons, Bool.and_eq_true] at e
      obtain ⟨a1, a2, a3⟩ := ok_dp n d _ e.1 r1
      obtain ⟨b1, b2, b3⟩ := ih2 _ e.2 r2
      refine ⟨.cons a1 b1, ?_, ?_⟩
      · show (_ && _) = true
        rw [a2, b2]; rfl
      · show max _ _ ≤ n
        omega
mutual
theorem eqv_py : ∀ d e : D, (∃ n, d.ok n = true) → (∃ n, e.ok n = true) → PyData.eqv (toPy d) (toPy e) = D.eqv d e
  | .non, .non, _, _ => rfl
  | .non, .bl _, _, _ => rfl
  | .non, .int _, _, _ => rfl
  | .non, .str _, _, _ => rfl
  | .non, .tup _, _, _ => rfl
  | .non, .lst _, _, _ => rfl
  | .bl _, .non, _, _ => rfl
  | .bl _, .bl _, _, _ => rfl
  | .bl _, .int _, _, _ => rfl
  | .bl _, .str _, _, _ => rfl
  | .bl _, .tup _, _, _ => rfl
  | .bl _, .lst _, _, _ => rfl
  | .int _, .non, _, _ => rfl
  | .int _, .bl _, _, _ => rfl
  | .int _, .int _, _, _ => rfl
  | .int _, .str _, _, _ => rfl
  | .int _, .tup _, _, _ => rfl
  | .int _, .lst _, _, _ => rfl
  | .str _, .non, _, _ => rfl
  | .str _, .bl _, _, _ => rfl
  | .str _, .int _, _, _ => rfl
  | .str _, .str _, _, _ => rfl
  | .str _, .tup _, _, _ => rfl
  | .str _, .lst _, _, _ => rfl
  | .tup _, .non, _, _ => rfl
  | .tup _, .bl _, _, _ => rfl
  | .tup _, .int _, _, _ => rfl
  | .tup _, .str _, _, _ => rfl
  | .tup _, .lst _, _, _ => rfl
  | .lst _, .non, _, _ => rfl
  | .lst _, .bl _, _, _ => rfl
  | .lst _, .int _, _, _ => rfl
  | .lst _, .str _, _, _ => rfl
  | .lst _, .tup _, _, _ => rfl
  | .tup a, .tup b, ⟨n, ha⟩, ⟨m, hb⟩ => by
    cases n with
    | zero => cases ha
    | succ n =>
      cases m with
      | zero => cases hb
      | succ m => exact eqvs_py a b ⟨n, ha⟩ ⟨m, hb⟩
  | .lst a, .lst b, ⟨n, ha⟩, ⟨m, hb⟩ => by
    cases n with
    | zero => cases ha
    | succ n =>
      cases m with
      | zero => cases hb
      | succ m => exact eqvs_py a b ⟨n, ha⟩ ⟨m, hb⟩
  | .dct _ _, _, ⟨n, h⟩, _ => by cases n <;> cases h
  | .ref _, _, ⟨n, h⟩, _ => by cases n <;> cases h
  | .fn _, _, ⟨n, h⟩, _ => by cases n <;> cases h
  | _, .dct _ _, _, ⟨n, h⟩ => by cases n <;> cases h
  | _, .ref _, _, ⟨n, h⟩ => by cases n <;> cases h
  | _, .fn _, _, ⟨n, h⟩ => by cases n <;> cases h
theorem eqvs_py : ∀ a b : List D, (∃ n, a.all (D.ok n) = true) → (∃ n, b.all (D.ok n) = true) → PyData.eqvAll (toPys a) (toPys b) = D.eqvs a b
  | [], [], _, _ => rfl
  | [], _ :: _, _, _ => rfl
  | _ :: _, [], _, _ => rfl
  | x :: xs, y :: ys, ⟨n, ha⟩, ⟨m, hb⟩ => by
    simp only [List.all_cons, Bool.and_eq_true] at ha hb
    show (PyData.eqv (toPy x) (toPy y) && PyData.eqvAll (toPys xs) (toPys ys)) = (D.eqv x y && D.eqvs xs ys)
    rw [eqv_py x y ⟨n, ha.1⟩ ⟨m, hb.1⟩, eqvs_py xs ys ⟨n, ha.2⟩ ⟨m, hb.2⟩]
end
theorem look_dp (x : HRep S ι hid H h) {d : D} (r : Rep S ι hid H d v) {n : Nat} (e : (look h d).ok n = true) : Dp S.K H v (toPy (look h d)) ∧ (toPy (look h d)).canLay0 = true ∧ (toPy (look h d)).depth ≤ n := by
  rcases r with r | ⟨m, a, rfl, rfl, e2⟩
  · have q : look h d = d := by cases r <;> rfl
    rw [q] at e ⊢
    exact ok_dp n d v e r
  · obtain ⟨o, u, e3, e4, e5⟩ := x.at e2
    simp only [look, e3] at e ⊢
    cases o with
    | lst ds =>
      obtain ⟨vs, e6, e7⟩ := e5
      cases n with
      | zero => cases e
      | succ n =>
        obtain ⟨a1, a2, a3⟩ := oks_dp ds vs (n := n) e e7
        exact ⟨.lst (.inl (.inl (by rw [e4, e6]))) a1, a2, Nat.succ_le_succ a3⟩
    | dct _ _ => cases n <;> cases e
    | ins _ _ => cases n <;> cases e
theorem shaped_of {d : PyData} {n : Nat} (h1 : d.canLay0 = true) (h2 : d.depth ≤ n) (hn : n ≤ 64) : SeqAt.shaped d = true := by
  unfold SeqAt.shaped
  rw [h1, Bool.true_and]
  exact decide_eq_true (Nat.le_trans h2 hn)
theorem toPys_any (x : D) (hx : ∃ n, x.ok n = true) : ∀ ds : List D, (∃ n, ds.all (D.ok n) = true) → (toPys ds).any (fun z => PyData.eqv z (toPy x)) = ds.any fun z => D.eqv z x
  | [], _ => rfl
  | d :: ds, ⟨n, h⟩ => by
    simp only [List.all_cons, Bool.and_eq_true] at h
    show (PyData.eqv (toPy d) (toPy x) || _) = (D.eqv d x || _)
    rw [eqv_py d x ⟨n, h.1⟩ hx]
    congr 1
    exact toPys_any x hx ds ⟨n, h.2⟩
end

/-! ### the operators' rules -/
/-- a value by the evaluator, over a heap that stays -/
def Done (S : Sta) (ι hid : List Addr) (H : Hp) (h : AH) (d : D) (Q : VK) : Prop := ∀ v H', Kp ι H H' → HRep S ι hid H' h → RE S true ι hid H H' h d v → Q v H'
theorem Done.lst {S : Sta} {ι hid : List Addr} {H : Hp} {h : AH} {ds : List D} {vs : List V} {Q : VK} (q : Done S ι hid H h (.lst ds) Q) (x : HRep S ι hid H h) (r : RepNs S ι hid H ds vs) : ∀ p, H p = none → Q (.ref p) (upd H p (.lst vs)) := fun p n =>
  let ⟨a, b, c⟩ := mk_lst (fr := true) x n r
  q _ _ a b c
theorem Done.tup {S : Sta} {ι hid : List Addr} {H : Hp} {h : AH} {ds : List D} {vs : List V} {Q : VK} (q : Done S ι hid H h (.tup ds) Q) (x : HRep S ι hid H h) (r : RepNs S ι hid H ds vs) : ∀ p, H p = none → Q (.ref p) (upd H p (.tup vs)) := fun p n =>
  let ⟨a, b, c⟩ := mk_tup (fr := true) x n r
  q _ _ a b c
theorem Done.val {S : Sta} {ι hid : List Addr} {H : Hp} {h : AH} {d : D} {v : V} {Q : VK} (q : Done S ι hid H h d Q) (x : HRep S ι hid H h) (r : Rep S ι hid H d v) (e : ∀ ds, d ≠ .lst ds) : Q v H := q _ _ Kp.refl x (mk_val r e)
theorem Done.int {S : Sta} {ι hid : List Addr} {H : Hp} {h : AH} {i : Int} {Q : VK} (q : Done S ι hid H h (.int i) Q) (x : HRep S ι hid H h) : Q (.int i) H := q.val x (.inl (.int i)) (fun _ z => by cases z)
theorem Done.bl {S : Sta} {ι hid : List Addr} {H : Hp} {h : AH} {i : Bool} {Q : VK} (q : Done S ι hid H h (.bl i) Q) (x : HRep S ι hid H h) : Q (.bl i) H := q.val x (.inl (.bl i)) (fun _ z => by cases z)
theorem Done.str {S : Sta} {ι hid : List Addr} {H : Hp} {h : AH} {i : Str} {Q : VK} (q : Done S ι hid H h (.str i) Q) (x : HRep S ι hid H h) : Q (.str i) H := q.val x (.inl (.str i)) (fun _ z => by cases z)
def rD2 (S : Sta) (f : AH → D → D → Option D) : R2 := fun x y H Q => ∃ ι hid h d e r, HRep S ι hid H h ∧ Rep S ι hid H d x ∧ Rep S ι hid H e y ∧ f h d e = some r ∧ Done S ι hid H h r Q
theorem guard_some {b : Bool} {d r : D} (e : guard' b d = some r) : b = true ∧ r = d := by
  unfold guard' at e
  cases b with
  | false => cases e
  | true => exact ⟨rfl, (Option.some.inj e).symm⟩

section
variable {X : Cx} {S : Sta}
theorem Inv.rdl {pins : List (Addr × Obj)} {σ : L2.St} {H : Hp} {s : Shared} {a : Addr} {xs : List V} (I : Inv X pins σ H s) (r : Rd H a (.lst xs)) :
    xs.length ≤ sizeLine ∧ ∃ (its : List Value) (n : Nat), Vals xs its ∧ s.heap.get? a = some { cls := .type "list", data := .seq its.toArray n } := by
  obtain ⟨z, its, n, rv, e⟩ := r.ok I.hok
  exact ⟨z, its, n, rv, e⟩
theorem small_spec {i : Int} (h : small i = true) : -(2 ^ 64) < i ∧ i < 2 ^ 64 := by
  unfold small at h
  rw [Bool.and_eq_true] at h
  exact ⟨of_decide_eq_true h.1, of_decide_eq_true h.2⟩
theorem add_lists : OpR X (binaryOp .Add) (fun x y H Q => ∃ a b xs ys, x = .ref a ∧ y = .ref b ∧ Rd H a (.lst xs) ∧ Rd H b (.lst ys) ∧ xs.length + ys.length ≤ sizeLine ∧ ∀ p, H p = none → Q (.ref p) (upd H p (.lst (xs ++ ys)))) := by
  intro pins s σ H x y v u Q I rx ry h
  obtain ⟨a, b, xs, ys, rfl, rfl, h1, h2, hz, q⟩ := h
  cases rx
  cases ry
  obtain ⟨z1, its1, n1, r1, e1⟩ := Inv.rdl I h1
  obtain ⟨z2, its2, n2, r2, e2⟩ := Inv.rdl I h2
  have l1 := r1.length
  have l2 := r2.length
  refine PySem.P.add_list e1 e2 ?_ (by simp only [List.size_toArray]; omega)
  rw [show its1.toArray ++ its2.toArray = (its1 ++ its2).toArray by simp]
  exact ⟨.ref s.heap.objs.size, _, I.lnew (t' := s.toks) (r1.append r2) (by rw [List.length_append]; exact hz), rfl, q _ I.fresh⟩
theorem lenline {n : Nat} (h : n ≤ lim) : n ≤ sizeLine := by rw [sizeLine_eq]; exact h
end
end Rf
/-! Rf3b -/
set_option maxHeartbeats 1000000
/-! Rf3b: the operators' soundness. -/
namespace Rf
open PySem PySem.Spec PyProof.Rows L2
section
variable {X : Cx} {S : Sta}
theorem mul_list : OpR X (binaryOp .Mult) (fun x y H Q => ∃ a k xs, x = .ref a ∧ y = .int k ∧ Rd H a (.lst xs) ∧ -(2 ^ 63) ≤ k ∧ k < 2 ^ 63 ∧ xs.length * k.toNat ≤ sizeLine ∧ ∀ p, H p = none → Q (.ref p) (upd H p (.lst (List.replicate k.toNat xs).flatten))) := by
  intro pins s σ H x y v u Q I rx ry h
  obtain ⟨a, k, xs, rfl, rfl, h1, k1, k2, hz, q⟩ := h
  cases rx
  obtain ⟨t, rfl⟩ := ry
  obtain ⟨z, its, n, r, e⟩ := Inv.rdl I h1
  have hl := r.length
  have z2 : its.length * k.toNat ≤ sizeLine := by rw [← hl]; exact hz
  have c1 : ¬ its.toArray.size * k.toNat > (2 ^ 63 - 1) / 8 := by
    rw [List.size_toArray]
    have : (sizeLine : Nat) ≤ (2 ^ 63 - 1) / 8 := by decide
    omega
  have c2 : ¬ (!Builtin.List.listFitsIndex k) = true := by rw [fitsIndex_both k1 k2]; exact Bool.false_ne_true
  have c3 : ¬ Builtin.List.listTooLong (its.toArray.size * k.toNat) = true := by rw [List.size_toArray, notLongL z2]; exact Bool.false_ne_true
  have c4 : List.foldl (fun x1 x2 => x1 ++ x2) #[] (List.replicate (if its.toArray.isEmpty = true then 0 else k.toNat) its.toArray) = (List.replicate k.toNat its).flatten.toArray := by
    have f0 : ∀ m : Nat, List.foldl (fun x1 x2 => x1 ++ x2) #[] (List.replicate m its.toArray) = (List.replicate m its).flatten.toArray := fun m => by
      simpa using foldl_rep its m []
    rw [f0]
    cases its with
    | nil => simp
    | cons _ _ => rw [if_neg (by simp)]
  refine wpAny_binaryOp_repeat_ref (T := "list") (U := "int") (by decide) ⟨_, e, rfl⟩ (fun s' => typeIs_int s' k t) noFill_list_mul F.fills_int_mul F.slot_int_rmul repeat_list F.slot_int_index.lookup ?_
  refine call_meets F.slot_int_rmul (typeIs_int s k t) F.entry_int_rmul (F.args_int_rmul_2 _ _) (int___rmul___int_list k t a its.toArray n) ⟨e, rfl, ⟨_, e, rfl⟩, ?_⟩
  refine call_meets F.slot_list_mul ⟨_, e, rfl⟩ F.entry_list_mul (F.args_list_mul_2 _ _) (AutoListH.list___mul___list_int_3 a its.toArray n k t c2 c1 c3) ⟨e, ?_⟩
  rw [c4]
  exact ⟨.ref _, _, I.lnew (t' := s.toks) (r.rep k.toNat) (by rw [PyProof.Rows.lm_len_rep_flat, Nat.mul_comm]; exact hz), rfl, q _ I.fresh⟩
def oO : Op2 → Operator
  | .add => .Add
  | .sub => .Sub
  | .mul => .Mult
  | .fdiv => .FloorDiv
  | .mod => .Mod
  | .pow => .Pow
  | .shl => .LShift

theorem intD_some {f : Int → Int → Option D} {d e r : D} (q : intD f d e = some r) : ∃ a b, d = .int a ∧ e = .int b ∧ f a b = some r := by
  cases d <;> cases e <;> first | exact ⟨_, _, rfl, rfl, q⟩ | cases q
theorem addL_some {h : AH} {d e r : D} (q : addL h d e = some r) : ∃ xs ys, listOf h d = some xs ∧ listOf h e = some ys ∧ xs.length + ys.length ≤ lim ∧ r = .lst (xs ++ ys) := by
  unfold addL at q
  split at q
  · rename_i xs ys h1 h2
    obtain ⟨g1, g2⟩ := guard_some q
    exact ⟨xs, ys, h1, h2, of_decide_eq_true g1, g2⟩
  · cases q
theorem mulL_some {h : AH} {d r : D} {k : Int} (q : mulL h d k = some r) : ∃ xs, listOf h d = some xs ∧ -(2 ^ 63) ≤ k ∧ k < 2 ^ 63 ∧ xs.length * k.toNat ≤ lim ∧ r = .lst (rep k xs) := by
  unfold mulL at q
  split at q
  · rename_i xs h1
    obtain ⟨g1, g2⟩ := guard_some q
    simp only [Bool.and_eq_true, decide_eq_true_eq] at g1
    exact ⟨xs, h1, g1.1.1, g1.1.2, g1.2, g2⟩
  · cases q
theorem op2_ok (hK : X.K = S.K) (o : Op2) : OpR X (binaryOp (oO o)) (rD2 S fun h => op2 h o) := by
  intro pins s σ H x y v u Q I rx ry hh
  obtain ⟨ι, hid, h, d, e, r, hr, r1, r2, q, dn⟩ := hh
  have ii : ∀ {f : Int → Int → Option D}, intD f d e = some r → ∃ a b, x = .int a ∧ y = .int b ∧ f a b = some r := fun z => by
    obtain ⟨a, b, rfl, rfl, e3⟩ := intD_some z
    exact ⟨a, b, r1.int, r2.int, e3⟩
  cases o with
  | sub =>
    obtain ⟨a, b, rfl, rfl, e3⟩ := ii q
    cases e3
    exact op_sub pins s σ H _ _ v u Q I rx ry ⟨a, b, rfl, rfl, dn.int hr⟩
  | fdiv =>
    obtain ⟨a, b, rfl, rfl, e3⟩ := ii q
    obtain ⟨g1, rfl⟩ := guard_some e3
    simp only [Bool.and_eq_true, bne_iff_ne, decide_eq_true_eq] at g1
    exact op_fdivN pins s σ H _ _ v u Q I rx ry ⟨a, b, rfl, rfl, g1, dn.int hr⟩
  | mod =>
    obtain ⟨a, b, rfl, rfl, e3⟩ := ii q
    obtain ⟨g1, rfl⟩ := guard_some e3
    simp only [bne_iff_ne] at g1
    exact op_modN pins s σ H _ _ v u Q I rx ry ⟨a, b, rfl, rfl, g1, dn.int hr⟩
  | pow =>
    obtain ⟨a, b, rfl, rfl, e3⟩ := ii q
    obtain ⟨g1, rfl⟩ := guard_some e3
    simp only [Bool.and_eq_true, decide_eq_true_eq] at g1
    exact op_pow pins s σ H _ _ v u Q I rx ry ⟨a, b, rfl, rfl, ⟨g1.1.1, g1.1.2, g1.2⟩, dn.int hr⟩
  | shl =>
    obtain ⟨a, b, rfl, rfl, e3⟩ := ii q
    obtain ⟨g1, rfl⟩ := guard_some e3
    simp only [Bool.and_eq_true, decide_eq_true_eq] at g1
    exact op_shl pins s σ H _ _ v u Q I rx ry ⟨a, b, rfl, rfl, ⟨g1.1.1, g1.1.2, g1.2⟩, dn.int hr⟩
  | add =>
    have ls : addL h d e = some r → wpAny (model X.prog X.w) X.A (binaryOp .Add v u) (EP X pins σ Q) X.xe s := fun z => by
      obtain ⟨xs, ys, e1, e2, e3, rfl⟩ := addL_some z
      obtain ⟨a, vs, rfl, a1, a2⟩ := r1.listOf hr e1
      obtain ⟨b, ws, rfl, b1, b2⟩ := r2.listOf hr e2
      exact add_lists pins s σ H _ _ v u Q I rx ry ⟨a, b, vs, ws, rfl, rfl, a1, b1, by rw [← a2.length, ← b2.length]; exact lenline e3, dn.lst hr (a2.append b2)⟩
    have q : addD h d e = some r := q
    unfold addD at q
    split at q
    · cases q
      rw [r1.int] at rx
      rw [r2.int] at ry
      exact op_add pins s σ H _ _ v u Q I rx ry ⟨_, _, rfl, rfl, dn.int hr⟩
    · obtain ⟨g1, rfl⟩ := guard_some q
      obtain ⟨a, vs, rfl, a1, a2⟩ := r1.tup
      obtain ⟨b, ws, rfl, b1, b2⟩ := r2.tup
      have l1 := a2.length
      have l2 := b2.length
      refine op_catA pins s σ H _ _ v u Q I rx ry ⟨a, b, vs, ws, rfl, rfl, by rw [hK]; exact a1.sq, by rw [hK]; exact b1.sq, by rw [← l1, ← l2]; exact lenline (of_decide_eq_true g1), fun z => ?_, fun z1 z => ?_, fun _ _ => dn.tup hr (a2.append b2)⟩
      · subst z
        cases a2
        exact dn.val hr r2 (fun _ z => by cases z)
      · subst z
        cases b2
        rw [List.append_nil] at dn
        exact dn.val hr r1 (fun _ z => by cases z)
    · obtain ⟨g1, rfl⟩ := guard_some q
      rw [r1.str] at rx
      rw [r2.str] at ry
      exact op_add_str pins s σ H _ _ v u Q I rx ry ⟨_, _, rfl, rfl, lenline (of_decide_eq_true g1), dn.str hr⟩
    · exact ls q
  | mul =>
    have ls : ∀ k, e = .int k → mulL h d k = some r → wpAny (model X.prog X.w) X.A (binaryOp .Mult v u) (EP X pins σ Q) X.xe s := fun k ek z => by
      subst ek
      obtain ⟨xs, e1, k1, k2, k3, rfl⟩ := mulL_some z
      obtain ⟨a, vs, rfl, a1, a2⟩ := r1.listOf hr e1
      rw [r2.int] at ry
      exact mul_list pins s σ H _ _ v u Q I rx ry ⟨a, k, vs, rfl, rfl, a1, k1, k2, by rw [← a2.length]; exact lenline k3, dn.lst hr (a2.flat k.toNat)⟩
    have q : mulD h d e = some r := q
    unfold mulD at q
    split at q
    · obtain ⟨g1, rfl⟩ := guard_some q
      rw [r1.int] at rx
      rw [r2.int] at ry
      rw [Bool.or_eq_true] at g1
      exact op_mul pins s σ H _ _ v u Q I rx ry ⟨_, _, rfl, rfl, g1.imp small_spec small_spec, dn.int hr⟩
    · exact ls _ rfl q
    · cases q
end
end Rf
/-! Rf4 -/
set_option maxHeartbeats 1000000
/-! Rf4: comparisons and truth. -/
namespace Rf
open PySem PySem.Spec PyProof.Rows L2
theorem key_ok : ∀ (n : Nat) (d : D), d.key n = true → d.ok n = true := by
  intro n
  induction n with
  | zero => intro d h; cases d <;> first | rfl | exact h | cases h
  | succ n ih =>
    intro d h
    cases d with
    | tup ds => exact List.all_eq_true.mpr fun x hx => ih x (List.all_eq_true.mp h x hx)
    | str s => exact h
    | _ => first | rfl | cases h
theorem keys_ok {n : Nat} {ds : List D} (h : ds.all (D.key n) = true) : ds.all (D.ok n) = true := List.all_eq_true.mpr fun x hx => key_ok n x (List.all_eq_true.mp h x hx)
mutual
theorem alike_py : ∀ d e : D, D.cmpb d e = true → PySem.W.alike (toPy d) (toPy e) = true
  | .int _, .int _, _ => rfl
  | .str _, .str _, _ => rfl
  | .tup a, .tup b, h => alikes_py a b h
  | .non, _, h => by cases h
  | .bl _, _, h => by cases h
  | .lst _, _, h => by cases h
  | .dct _ _, _, h => by cases h
  | .ref _, _, h => by cases h
  | .fn _, _, h => by cases h
  | .int _, .non, h => by cases h
  | .int _, .bl _, h => by cases h
  | .int _, .str _, h => by cases h
  | .int _, .tup _, h => by cases h
  | .int _, .lst _, h => by cases h
  | .int _, .dct _ _, h => by cases h
  | .int _, .ref _, h => by cases h
  | .int _, .fn _, h => by cases h
  | .str _, .non, h => by cases h
  | .str _, .bl _, h => by cases h
  | .str _, .int _, h => by cases h
  | .str _, .tup _, h => by cases h
  | .str _, .lst _, h => by cases h
  | .str _, .dct _ _, h => by cases h
  | .str _, .ref _, h => by cases h
  | .str _, .fn _, h => by cases h
  | .tup _, .non, h => by cases h
  | .tup _, .bl _, h => by cases h
  | .tup _, .int _, h => by cases h
  | .tup _, .str _, h => by cases h
  | .tup _, .lst _, h => by cases h
  | .tup _, .dct _ _, h => by cases h
  | .tup _, .ref _, h => by cases h
  | .tup _, .fn _, h => by cases h
theorem alikes_py : ∀ a b : List D, D.cmpbs a b = true → PySem.W.alikeAll (toPys a) (toPys b) = true
  | [], _, _ => by unfold toPys PySem.W.alikeAll; rfl
  | _ :: _, [], _ => by rfl
  | x :: xs, y :: ys, h => by
    have h : (D.cmpb x y && D.cmpbs xs ys) = true := h
    rw [Bool.and_eq_true] at h
    show (PySem.W.alike (toPy x) (toPy y) && PySem.W.alikeAll (toPys xs) (toPys ys)) = true
    rw [alike_py x y h.1, alikes_py xs ys h.2]; rfl
end
mutual
theorem ltb_py : ∀ (d e : D), D.cmpb d e = true → (∃ n, d.ok n = true) → (∃ n, e.ok n = true) → PySem.W.dataLt (toPy d) (toPy e) = D.ltb d e
  | .int a, .int b, _, _, _ => PySem.W.dataLt_int a b
  | .str a, .str b, _, _, _ => PySem.W.dataLt_str a b
  | .tup a, .tup b, h, ⟨n, ha⟩, ⟨m, hb⟩ => by
    cases n with
    | zero => cases ha
    | succ n =>
      cases m with
      | zero => cases hb
      | succ m => exact (PySem.W.dataLt_tuple (toPys a) (toPys b)).trans (ltbs_py a b h ⟨n, ha⟩ ⟨m, hb⟩)
  | .non, _, h, _, _ => by cases h
  | .bl _, _, h, _, _ => by cases h
  | .lst _, _, h, _, _ => by cases h
  | .dct _ _, _, h, _, _ => by cases h
  | .ref _, _, h, _, _ => by cases h
  | .fn _, _, h, _, _ => by cases h
  | .int _, .non, h, _, _ => by cases h
  | .int _, .bl _, h, _, _ => by cases h
  | .int _, .str _, h, _, _ => by cases h
  | .int _, .tup _, h, _, _ => by cases h
  | .int _, .lst _, h, _, _ => by cases h
  | .int _, .dct _ _, h, _, _ => by cases h
  | .int _, .ref _, h, _, _ => by cases h
  | .int _, .fn _, h, _, _ => by cases h
  | .str _, .non, h, _, _ => by cases h
  | .str _, .bl _, h, _, _ => by cases h
  | .str _, .int _, h, _, _ => by cases h
  | .str _, .tup _, h, _, _ => by cases h
  | .str _, .lst _, h, _, _ => by cases h
  | .str _, .dct _ _, h, _, _ => by cases h
  | .str _, .ref _, h, _, _ => by cases h
  | .str _, .fn _, h, _, _ => by cases h
  | .tup _, .non, h, _, _ => by cases h
  | .tup _, .bl _, h, _, _ => by cases h
  | .tup _, .int _, h, _, _ => by cases h
  | .tup _, .str _, h, _, _ => by cases h
  | .tup _, .lst _, h, _, _ => by cases h
  | .tup _, .dct _ _, h, _, _ => by cases h
  | .tup _, .ref _, h, _, _ => by cases h
  | .tup _, .fn _, h, _, _ => by cases h
theorem ltbs_py : ∀ (a b : List D), D.cmpbs a b = true → (∃ n, a.all (D.ok n) = true) → (∃ n, b.all (D.ok n) = true) →
    PyProof.Rows.lexLt PyProof.Rows.itemOrd (PySem.W.keyToksAll (toPys a)) (PySem.W.keyToksAll (toPys b)) = D.ltbs a b
  | [], [], _, _, _ => by decide +kernel
  | [], y :: ys, _, _, _ => by
    show PyProof.Rows.lexLt PyProof.Rows.itemOrd [.inl 0] (.inl 1 :: (PySem.W.keyToks (toPy y) ++ PySem.W.keyToksAll (toPys ys))) = true
    rfl
  | x :: xs, [], _, _, _ => by
    show PyProof.Rows.lexLt PyProof.Rows.itemOrd (.inl 1 :: (PySem.W.keyToks (toPy x) ++ PySem.W.keyToksAll (toPys xs))) [.inl 0] = false
    rfl
  | x :: xs, y :: ys, h, ⟨n, ha⟩, ⟨m, hb⟩ => by
    have h : (D.cmpb x y && D.cmpbs xs ys) = true := h
    rw [Bool.and_eq_true] at h
    simp only [List.all_cons, Bool.and_eq_true] at ha hb
    refine (PySem.W.dataLt_cons (alike_py x y h.1) (toPys xs) (toPys ys)).trans ?_
    rw [eqv_py x y ⟨n, ha.1⟩ ⟨m, hb.1⟩, ltbs_py xs ys h.2 ⟨n, ha.2⟩ ⟨m, hb.2⟩, ltb_py x y h.1 ⟨n, ha.1⟩ ⟨m, hb.1⟩]
    rfl
end

/-! ### the comparisons' rule -/
def cO : Cp → CmpOp
  | .eq => .Eq
  | .ne => .NotEq
  | .lt => .Lt
  | .le => .LtE
  | .gt => .Gt
  | .ge => .GtE
  | .isin => .In
  | .notin => .NotIn
  | .is => .Is
  | .isnot => .IsNot
/-- a truth value by the evaluator -/
def rB2 (S : Sta) (f : AH → D → D → Option Bool) : R2 := fun x y H Q => ∃ ι hid h d e r, HRep S ι hid H h ∧ Rep S ι hid H d x ∧ Rep S ι hid H e y ∧ f h d e = some r ∧ Q (.bl r) H
theorem map_not {o : Option Bool} {r : Bool} (h : o.map (!·) = some r) : o = some (!r) := by
  cases o with
  | none => cases h
  | some b =>
    have e : (!b) = r := Option.some.inj h
    rw [← e, Bool.not_not]
section
variable {X : Cx} {S : Sta} {ι hid : List Addr} {H : Hp} {h : AH} {d e : D} {x y : V}
theorem eqD_dp (hr : HRep S ι hid H h) (r1 : Rep S ι hid H d x) (r2 : Rep S ι hid H e y) {r : Bool} (q : eqD h d e = some r) :
    Dp S.K H x (toPy (look h d)) ∧ Dp S.K H y (toPy (look h e)) ∧ SeqAt.shaped (toPy (look h d)) = true ∧ SeqAt.shaped (toPy (look h e)) = true ∧ PyData.eqv (toPy (look h d)) (toPy (look h e)) = r := by
  unfold eqD at q
  split at q
  · rename_i hc
    rw [Bool.and_eq_true] at hc
    obtain ⟨a1, a2, a3⟩ := look_dp hr r1 hc.1
    obtain ⟨b1, b2, b3⟩ := look_dp hr r2 hc.2
    exact ⟨a1, b1, shaped_of a2 a3 (by decide), shaped_of b2 b3 (by decide), (eqv_py _ _ ⟨30, hc.1⟩ ⟨30, hc.2⟩).trans (Option.some.inj q)⟩
  · cases q
theorem intB_some {f : Int → Int → Bool} {r : Bool} (q : intB f d e = some r) : ∃ a b, d = .int a ∧ e = .int b ∧ f a b = r := by
  cases d <;> cases e <;> first | exact ⟨_, _, rfl, rfl, Option.some.inj q⟩ | cases q
theorem inD_ok (hK : X.K = S.K) (hu : X.A.units + 65 < cLine) {op : CmpOp} {g : Bool → Bool} (ho : (op = .In ∧ g = id) ∨ (op = .NotIn ∧ g = (!·))) {pins : List (Addr × Obj)} {s : Shared} {σ : L2.St} {v u : Value} {Q : VK}
    (I : Inv X pins σ H s) (rx : RelV x v) (ry : RelV y u) (hr : HRep S ι hid H h) (r1 : Rep S ι hid H d x) (r2 : Rep S ι hid H e y) {r : Bool} (q : inD h d e = some r) (dn : Q (.bl (g r)) H) :
    wpAny (model X.prog X.w) X.A (compareOp op v u) (EP X pins σ Q) X.xe s := by
  unfold inD at q
  cases hq : seqOf h e with
  | none => rw [hq] at q; cases q
  | some ds =>
    rw [hq] at q
    have q : (if (look h d).ok 29 && ds.all (D.ok 29) then some (ds.any fun z => D.eqv z (look h d)) else none) = some r := q
    split at q
    · rename_i hc
      rw [Bool.and_eq_true] at hc
      obtain ⟨a1, a2, a3⟩ := look_dp hr r1 hc.1
      obtain ⟨a, vs, rfl, b1, b2⟩ := r2.seqOf hK hr hq
      obtain ⟨c1, c2, c3⟩ := oks_dp ds vs hc.2 b2
      have e1 : (toPys ds).any (fun z => PyData.eqv z (toPy (look h d))) = r := (toPys_any (look h d) ⟨29, hc.1⟩ ds ⟨29, hc.2⟩).trans (Option.some.inj q)
      have hd : SeqAt.shaped (toPy (look h d)) = true := shaped_of a2 a3 (by decide)
      have hl : SeqAt.shaped (.list (toPys ds)) = true := shaped_of (n := 30) c2 (Nat.succ_le_succ c3) (by decide)
      have ht : SeqAt.shaped (.tuple (toPys ds)) = true := shaped_of (n := 30) c2 (Nat.succ_le_succ c3) (by decide)
      rw [← hK] at a1 c1
      obtain ⟨as, w1⟩ := Dp.reads I _ x v a1 rx
      have fin : EP X pins σ Q (.bool (g r)) s := ⟨.bl (g r), H, I, rfl, dn⟩
      have hu' : ∀ z : PyData, X.A.units + 1 + min (PyData.depthAll (toPys ds)) z.depth < cLine := fun z => by
        have := Nat.min_le_left (PyData.depthAll (toPys ds)) z.depth
        omega
      rcases b1 with b1 | b1
      · obtain ⟨bs, w2⟩ := Dp.reads I (.list (toPys ds)) _ u (.lst b1 c1) ry
        rcases ho with ⟨rfl, rfl⟩ | ⟨rfl, rfl⟩
        · exact SeqAt.in_list_reads w2 w1 c2 a2 (hu' _) (by rw [e1]; exact fin)
        · exact SeqAt.notIn_list_reads w2 w1 c2 a2 (hu' _) (by rw [e1]; exact fin)
      · obtain ⟨bs, w2⟩ := Dp.reads I (.tuple (toPys ds)) _ u (.tup b1 c1) ry
        rcases ho with ⟨rfl, rfl⟩ | ⟨rfl, rfl⟩
        · exact SeqAt.in_tuple_reads w2 w1 c2 a2 (hu' _) (by rw [e1]; exact fin)
        · exact SeqAt.notIn_tuple_reads w2 w1 c2 a2 (hu' _) (by rw [e1]; exact fin)
    · cases q
theorem isD_ok {r : Bool} (r1 : Rep S ι hid H d x) (r2 : Rep S ι hid H e y) (q : isD d e = some r) : y = .non ∧ decide (x = .non) = r := by
  unfold isD at q
  split at q
  · rename_i hc
    rw [Bool.and_eq_true] at hc
    have e0 : e = .non := by cases e <;> first | rfl | cases hc.1
    subst e0
    refine ⟨r2.non, ?_⟩
    have q := Option.some.inj q
    rw [← q]
    cases d with
    | non => rw [r1.non]; rfl
    | bl b => rw [r1.bl]; rfl
    | int b => rw [r1.int]; rfl
    | str b => rw [r1.str]; rfl
    | tup b => obtain ⟨a, vs, rfl, _⟩ := r1.tup; rfl
    | lst b => obtain ⟨a, vs, rfl, _⟩ := r1.lst; rfl
    | fn b => obtain ⟨a, rfl, _⟩ := r1.fn; rfl
    | ref b => cases hc.2
    | dct b c =>
      rcases r1 with r1 | ⟨_, _, z, _⟩
      · cases r1
      · cases z
  · cases q
theorem cmpD_ok (hK : X.K = S.K) (hu : X.A.units + 65 < cLine) (c : Cp) : OpR X (compareOp (cO c)) (rB2 S fun h => cmpD h c) := by
  intro pins s σ H x y v u Q I rx ry hh
  obtain ⟨ι, hid, h, d, e, r, hr, r1, r2, q, dn⟩ := hh
  cases c with
  | eq =>
    obtain ⟨a1, a2, a3, a4, a5⟩ := eqD_dp hr r1 r2 q
    exact op_eqD (by omega) pins s σ H x y v u Q I rx ry ⟨_, _, by rw [hK]; exact a1, by rw [hK]; exact a2, a3, a4, by rw [a5]; exact dn⟩
  | ne =>
    obtain ⟨a1, a2, a3, a4, a5⟩ := eqD_dp hr r1 r2 (map_not q)
    exact op_neD (by omega) pins s σ H x y v u Q I rx ry ⟨_, _, by rw [hK]; exact a1, by rw [hK]; exact a2, a3, a4, by rw [a5, Bool.not_not]; exact dn⟩
  | le =>
    obtain ⟨a, b, rfl, rfl, rfl⟩ := intB_some q
    exact op_le pins s σ H x y v u Q I rx ry ⟨a, b, r1.int, r2.int, dn⟩
  | gt =>
    obtain ⟨a, b, rfl, rfl, rfl⟩ := intB_some q
    exact op_gt pins s σ H x y v u Q I rx ry ⟨a, b, r1.int, r2.int, dn⟩
  | ge =>
    obtain ⟨a, b, rfl, rfl, rfl⟩ := intB_some q
    exact op_ge pins s σ H x y v u Q I rx ry ⟨a, b, r1.int, r2.int, dn⟩
  | isin => exact inD_ok hK hu (.inl ⟨rfl, rfl⟩) I rx ry hr r1 r2 q dn
  | notin => exact inD_ok hK hu (.inr ⟨rfl, rfl⟩) I rx ry hr r1 r2 (map_not q) (by simpa using dn)
  | is =>
    obtain ⟨a1, a2⟩ := isD_ok r1 r2 q
    exact op_isN pins s σ H x y v u Q I rx ry ⟨a1, by rw [a2]; exact dn⟩
  | isnot =>
    obtain ⟨a1, a2⟩ := isD_ok r1 r2 (map_not q)
    exact op_notN pins s σ H x y v u Q I rx ry ⟨a1, by rw [a2, Bool.not_not]; exact dn⟩
  | lt =>
    replace q : ltD d e = some r := q
    unfold ltD at q
    split at q
    · have q := Option.some.inj q
      exact op_lt pins s σ H x y v u Q I rx ry ⟨_, _, r1.int, r2.int, by show Q (.bl (decide _)) H; rw [q]; exact dn⟩
    · rename_i a b
      split at q
      · rename_i hc
        rw [Bool.and_eq_true, Bool.and_eq_true] at hc
        have k1 := key_ok 7 _ hc.1.1
        have k2 := key_ok 7 _ hc.1.2
        obtain ⟨a1, a2, a3⟩ := ok_dp 7 _ x k1 (r1.noref rfl)
        obtain ⟨b1, b2, b3⟩ := ok_dp 7 _ y k2 (r2.noref rfl)
        rw [← hK] at a1 b1
        obtain ⟨as, w1⟩ := Dp.reads I _ x v a1 rx
        obtain ⟨bs, w2⟩ := Dp.reads I _ y u b1 ry
        refine PySem.W.lt_data w1 w2 (alike_py (.tup a) (.tup b) hc.2) (fun z => by cases z) ?_ ⟨.bl r, H, I, ?_, dn⟩
        · have := Nat.min_le_left (toPy (.tup a)).depth (toPy (.tup b)).depth
          omega
        · show Value.bool _ = Value.bool r
          rw [ltb_py (.tup a) (.tup b) hc.2 ⟨7, k1⟩ ⟨7, k2⟩, ← Option.some.inj q]
          rfl
      · cases q
    · cases q
/-! ### truth -/
theorem truth_v (hK : X.K = S.K) {r : Bool} (hr : HRep S ι hid H h) (r1 : Rep S ι hid H d x) (q : truth h d = some r) : TruV X.K x H r := by
  cases d with
  | non => rw [r1.non]; exact (Option.some.inj q).symm
  | bl b => rw [r1.bl]; exact (Option.some.inj q).symm
  | int b => rw [r1.int]; exact (Option.some.inj q).symm
  | str b =>
    rw [r1.str]
    have q : (if b.length ≤ lim then some (b.length != 0) else none) = some r := q
    split at q
    · rename_i hl
      refine ⟨lenline hl, ?_⟩
      rw [← Option.some.inj q]
      by_cases z : b.length = 0
      · rw [z]; rfl
      · have z2 : ¬ ((b.length : Int) = 0) := by omega
        rw [show (b.length != 0) = true from bne_iff_ne.mpr z, show ((b.length : Int) != 0) = true from bne_iff_ne.mpr z2]
    · cases q
  | tup ds =>
    obtain ⟨a, vs, rfl, a1, a2⟩ := r1.tup
    refine .inr (.inl ⟨vs, by rw [hK]; exact a1.sq, ?_⟩)
    rw [← Option.some.inj q]
    cases a2 <;> rfl
  | lst ds =>
    obtain ⟨a, vs, rfl, a1, a2⟩ := r1.lst
    refine .inl ⟨vs, .inl a1.1, ?_⟩
    rw [← Option.some.inj q]
    cases a2 <;> rfl
  | ref n =>
    obtain ⟨a, vs, rfl, a1, a2⟩ : ∃ a vs, x = .ref a ∧ Rd H a (.lst vs) ∧ r = !vs.isEmpty := by
      cases e : h[n]? with
      | none => simp only [truth, e] at q; cases q
      | some o =>
        cases o with
        | lst ds =>
          simp only [truth, e] at q
          obtain ⟨a, vs, e1, e2, e3⟩ := r1.listOf hr (ds := ds) (by simp only [listOf, e])
          refine ⟨a, vs, e1, e2, ?_⟩
          rw [← Option.some.inj q]
          cases e3 <;> rfl
        | dct _ _ => simp only [truth, e] at q; cases q
        | ins _ _ => simp only [truth, e] at q; cases q
    exact .inl ⟨vs, .inl a1, a2⟩
  | _ => cases q
theorem truth_ok (hK : X.K = S.K) : TruR X (fun x H Q => ∃ ι hid h d r, HRep S ι hid H h ∧ Rep S ι hid H d x ∧ truth h d = some r ∧ Q r H) := by
  intro pins s σ H x v Q I rx hh
  obtain ⟨ι, hid, h, d, r, hr, r1, q, dn⟩ := hh
  exact tru_ok pins s σ H x v Q I rx ⟨r, truth_v hK hr r1 q, dn⟩
end
end Rf
/-! Rf5 -/
set_option maxHeartbeats 1000000
/-! Rf5: the order of keys; sorting. -/
namespace Rf
open PySem PySem.Spec PyProof.Rows L2
mutual
theorem eq_keys : ∀ (d e : D), (∃ n, d.key n = true) → (∃ n, e.key n = true) → D.eqv d e = true → d = e
  | .non, .non, _, _, _ => rfl
  | .int a, .int b, _, _, h => by rw [show a = b from of_decide_eq_true h]
  | .str a, .str b, _, _, h => by rw [show a = b from of_decide_eq_true h]
  | .tup a, .tup b, ⟨n, ha⟩, ⟨m, hb⟩, h => by
    cases n with
    | zero => cases ha
    | succ n =>
      cases m with
      | zero => cases hb
      | succ m => rw [eqs_keys a b ⟨n, ha⟩ ⟨m, hb⟩ h]
  | .bl _, _, ⟨n, h⟩, _, _ => by cases n <;> cases h
  | .lst _, _, ⟨n, h⟩, _, _ => by cases n <;> cases h
  | .dct _ _, _, ⟨n, h⟩, _, _ => by cases n <;> cases h
  | .ref _, _, ⟨n, h⟩, _, _ => by cases n <;> cases h
  | .fn _, _, ⟨n, h⟩, _, _ => by cases n <;> cases h
  | _, .bl _, _, ⟨n, h⟩, _ => by cases n <;> cases h
  | _, .lst _, _, ⟨n, h⟩, _ => by cases n <;> cases h
  | _, .dct _ _, _, ⟨n, h⟩, _ => by cases n <;> cases h
  | _, .ref _, _, ⟨n, h⟩, _ => by cases n <;> cases h
  | _, .fn _, _, ⟨n, h⟩, _ => by cases n <;> cases h
  | .non, .int _, _, _, h => by cases h
  | .non, .str _, _, _, h => by cases h
  | .non, .tup _, _, _, h => by cases h
  | .int _, .non, _, _, h => by cases h
  | .int _, .str _, _, _, h => by cases h
  | .int _, .tup _, _, _, h => by cases h
  | .str _, .non, _, _, h => by cases h
  | .str _, .int _, _, _, h => by cases h
  | .str _, .tup _, _, _, h => by cases h
  | .tup _, .non, _, _, h => by cases h
  | .tup _, .int _, _, _, h => by cases h
  | .tup _, .str _, _, _, h => by cases h
theorem eqs_keys : ∀ (a b : List D), (∃ n, a.all (D.key n) = true) → (∃ n, b.all (D.key n) = true) → D.eqvs a b = true → a = b
  | [], [], _, _, _ => rfl
  | [], _ :: _, _, _, h => by cases h
  | _ :: _, [], _, _, h => by cases h
  | x :: xs, y :: ys, ⟨n, ha⟩, ⟨m, hb⟩, h => by
    simp only [List.all_cons, Bool.and_eq_true] at ha hb
    have h : (D.eqv x y && D.eqvs xs ys) = true := h
    rw [Bool.and_eq_true] at h
    rw [eq_keys x y ⟨n, ha.1⟩ ⟨m, hb.1⟩ h.1, eqs_keys xs ys ⟨n, ha.2⟩ ⟨m, hb.2⟩ h.2]
end
/-- < by the rows of signs: an order for any data -/
def lt0 (x y : D) : Bool := PySem.W.dataLt (toPy x) (toPy y)
theorem lt0_trans {x y z : D} (h : lt0 x z = true) : lt0 x y = true ∨ lt0 y z = true := PyProof.Rows.lex_negTrans (O := PyProof.Rows.itemOrd) _ _ _ h
theorem lt0_tr {x y z : D} (h : lt0 x y = true) (k : lt0 y z = true) : lt0 x z = true := PyProof.Rows.lex_trans (O := PyProof.Rows.itemOrd) _ _ _ h k
theorem lt0_irr (x : D) : lt0 x x = false := PyProof.Rows.lex_irrefl (O := PyProof.Rows.itemOrd) _
theorem lt0_anti {x y : D} (k : D.cmpb x y = true) (hx : x.key 7 = true) (hy : y.key 7 = true) (h1 : lt0 x y = false) (h2 : lt0 y x = false) : x = y := by
  have e := PyProof.Rows.lex_total (O := PyProof.Rows.itemOrd) _ _ h1 h2
  refine eq_keys x y ⟨7, hx⟩ ⟨7, hy⟩ ?_
  rw [← eqv_py x y ⟨7, key_ok 7 x hx⟩ ⟨7, key_ok 7 y hy⟩]
  cases q : PyData.eqv (toPy x) (toPy y) with
  | true => rfl
  | false =>
    have z := (PySem.W.toks_eqv (toPy x) (toPy y) (alike_py x y k)).2 q [] [.inl 0]
    rw [show PySem.W.keyToks (toPy x) = PySem.W.keyToks (toPy y) from e, PySem.W.lex_pre] at z
    rw [show PyProof.Rows.lexLt PyProof.Rows.itemOrd (PySem.W.keyToks (toPy y)) (PySem.W.keyToks (toPy y)) = false from PyProof.Rows.lex_irrefl (O := PyProof.Rows.itemOrd) _] at z
    exact absurd z.symm Bool.false_ne_true
/-- all of them are keys that can be compared -/
def Srt (L : List D) : Prop := ∀ x ∈ L, x.key 7 = true ∧ ∀ y ∈ L, D.cmpb x y = true
theorem srt_of {L : List D} (h : D.sortable L = true) : Srt L := by
  unfold D.sortable at h
  rw [Bool.and_eq_true] at h
  exact fun x hx => ⟨List.all_eq_true.mp h.1 x hx, fun y hy => List.all_eq_true.mp (List.all_eq_true.mp h.2 x hx) y hy⟩
theorem Srt.ltb {L : List D} (h : Srt L) {x y : D} (hx : x ∈ L) (hy : y ∈ L) : D.ltb x y = lt0 x y :=
  (ltb_py x y ((h x hx).2 y hy) ⟨7, key_ok 7 x (h x hx).1⟩ ⟨7, key_ok 7 y (h y hy).1⟩).symm
theorem Srt.sub {L M : List D} (h : Srt L) (s : ∀ x ∈ M, x ∈ L) : Srt M := fun x hx => ⟨(h x (s x hx)).1, fun y hy => (h x (s x hx)).2 y (s y hy)⟩
theorem ins_pair {L : List D} (h : Srt L) {x : D} (hx : x ∈ L) : ∀ xs : List D, (∀ y ∈ xs, y ∈ L) → xs.Pairwise (fun a b => lt0 b a = false) → (D.ins x xs).Pairwise fun a b => lt0 b a = false
  | [], _, _ => .cons (fun y hy => by cases hy) .nil
  | y :: ys, hs, hp => by
    unfold D.ins
    have hy := hs y List.mem_cons_self
    obtain ⟨p1, p2⟩ := List.pairwise_cons.mp hp
    split
    · rename_i c
      rw [h.ltb hy hx] at c
      refine .cons (fun z hz => ?_) (ins_pair h hx ys (fun z hz => hs z (List.mem_cons_of_mem _ hz)) p2)
      rcases List.mem_cons.mp ((ins_perm x ys).mem_iff.mp hz) with rfl | hz
      · cases q : lt0 z y with
        | false => rfl
        | true =>
          have := lt0_tr q c
          rw [lt0_irr] at this; cases this
      · exact p1 z hz
    · rename_i c
      rw [h.ltb hy hx, Bool.not_eq_true] at c
      refine .cons (fun z hz => ?_) hp
      rcases List.mem_cons.mp hz with rfl | hz
      · exact c
      · cases q : lt0 z x with
        | false => rfl
        | true =>
          rcases lt0_trans (y := y) q with k | k
          · rw [p1 z hz] at k; cases k
          · rw [c] at k; cases k
theorem isort_pair : ∀ xs : List D, ∀ {L : List D}, Srt L → (∀ y ∈ xs, y ∈ L) → (D.isort xs).Pairwise fun a b => lt0 b a = false
  | [], _, _, _ => .nil
  | x :: xs, _, h, hs => ins_pair h (hs x List.mem_cons_self) _ (fun y hy => hs y (List.mem_cons_of_mem _ ((isort_perm xs).mem_iff.mp hy))) (isort_pair xs h fun y hy => hs y (List.mem_cons_of_mem _ hy))
/-- a sorted list of the same items is the one -/
theorem isort_uniq {xs ys : List D} (h : Srt xs) (p : ys.Perm xs) (q : ys.Pairwise fun a b => lt0 b a = false) : ys = D.isort xs := by
  refine List.Perm.eq_of_pairwise (le := fun a b => lt0 b a = false) (fun a b ha hb h1 h2 => ?_) q (isort_pair xs h fun y hy => hy) (p.trans (isort_perm xs).symm)
  have ha' := p.mem_iff.mp ha
  have hb' := (isort_perm xs).mem_iff.mp hb
  exact lt0_anti ((h a ha').2 b hb') (h a ha').1 (h b hb').1 h2 h1
theorem merge_isort {xs : List D} (h : Srt xs) : xs.mergeSort (PySem.W.dataLe false toPy) = D.isort xs := by
  refine isort_uniq h (List.mergeSort_perm _ _) ?_
  have e : PySem.W.dataLe false toPy = fun a b => !lt0 b a := PySem.W.dataLe_eq false toPy
  rw [e]
  refine (List.pairwise_mergeSort (le := fun a b => !lt0 b a) (fun a b c h1 h2 => ?_) (fun a b => ?_) xs).imp fun {a b} k => by simpa using k
  · simp only [Bool.not_eq_true'] at h1 h2 ⊢
    cases q : lt0 c a with
    | false => rfl
    | true =>
      rcases lt0_trans (y := b) q with k | k
      · rw [h2] at k; cases k
      · rw [h1] at k; cases k
  · cases q : lt0 b a with
    | false => rfl
    | true =>
      cases q2 : lt0 a b with
      | false => rfl
      | true =>
        have := lt0_tr q q2
        rw [lt0_irr] at this; cases this
theorem least_fold (x : D) : ∀ xs : List D, D.leastOf x xs = xs.foldl (fun a y => if D.ltb y a then y else a) x := by
  intro xs
  induction xs generalizing x with
  | nil => rfl
  | cons y ys ih => exact ih _
theorem greatest_fold (x : D) : ∀ xs : List D, D.greatestOf x xs = xs.foldl (fun a y => if D.ltb a y then y else a) x := by
  intro xs
  induction xs generalizing x with
  | nil => rfl
  | cons y ys ih => exact ih _
end Rf
/-! Rf6 -/
set_option maxHeartbeats 1000000
/-! Rf6: the built-in functions' soundness. -/
namespace Rf
open PySem PySem.Spec PyProof.Rows L2
/-- a call by the evaluator -/
def rBl (S : Sta) (f : AH → List D → Option D) : List V → Hp → VK → Prop := fun vs H Q => ∃ ι hid h ds r, HRep S ι hid H h ∧ Reps S ι hid H ds vs ∧ f h ds = some r ∧ Done S ι hid H h r Q
theorem one_some {f : D → Option D} {ds : List D} {r : D} (h : one f ds = some r) : ∃ d, ds = [d] ∧ f d = some r := by
  cases ds with
  | nil => cases h
  | cons d ds =>
    cases ds with
    | nil => exact ⟨d, rfl, h⟩
    | cons _ _ => cases h
theorem onS_some {h : AH} {f : List D → Option D} {d r : D} (q : onS h f d = some r) : ∃ xs, seqOf h d = some xs ∧ f xs = some r := by
  unfold onS at q
  split at q
  · rename_i xs e
    exact ⟨xs, e, q⟩
  · cases q
theorem onL_some {h : AH} {f : List D → Option D} {d r : D} (q : onL h f d = some r) : ∃ xs, listOf h d = some xs ∧ f xs = some r := by
  unfold onL at q
  split at q
  · rename_i xs e
    exact ⟨xs, e, q⟩
  · cases q
section
variable {S : Sta} {ι hid : List Addr} {H : Hp} {h : AH}
theorem reps1 {d : D} {vs : List V} (r : Reps S ι hid H [d] vs) : ∃ v, vs = [v] ∧ Rep S ι hid H d v := by
  cases r with
  | cons a b => cases b; exact ⟨_, rfl, a⟩
theorem reps2 {d e : D} {vs : List V} (r : Reps S ι hid H [d, e] vs) : ∃ v u, vs = [v, u] ∧ Rep S ι hid H d v ∧ Rep S ι hid H e u := by
  cases r with
  | cons a b =>
    cases b with
    | cons b c => cases c; exact ⟨_, _, rfl, a, b⟩
theorem bools_rep : ∀ {xs : List D} {vs : List V} {bs : List Bool}, RepNs S ι hid H xs vs → boolsOf xs = some bs → vs = bs.map V.bl
  | [], _, _, .nil, e => by cases e; rfl
  | d :: xs, _, bs, .cons a b, e => by
    cases d with
    | bl b0 =>
      obtain ⟨cs, e1, e2⟩ := Option.map_eq_some_iff.mp (show (boolsOf xs).map (b0 :: ·) = some bs from e)
      subst e2
      cases a
      rw [List.map_cons, bools_rep b e1]
    | _ => cases e
theorem ints_rep : ∀ {xs : List D} {vs : List V} {bs : List Int}, RepNs S ι hid H xs vs → intsOf xs = some bs → vs = bs.map V.int
  | [], _, _, .nil, e => by cases e; rfl
  | d :: xs, _, bs, .cons a b, e => by
    cases d with
    | int b0 =>
      obtain ⟨cs, e1, e2⟩ := Option.map_eq_some_iff.mp (show (intsOf xs).map (b0 :: ·) = some bs from e)
      subst e2
      cases a
      rw [List.map_cons, ints_rep b e1]
    | _ => cases e
end
section
variable {X : Cx} {S : Sta}
theorem len_ok (hK : X.K = S.K) : CallR X (.builtin "len") (rBl S fun h => one (lenD h)) := by
  intro pins s σ H vs us Q I rv hh
  obtain ⟨ι, hid, h, ds, r, hr, rs, q, dn⟩ := hh
  obtain ⟨d, rfl, q⟩ := one_some q
  obtain ⟨v, rfl, r1⟩ := reps1 rs
  have go : (seqOf h d).map (fun ds => D.int ds.length) = some r → wpAny (model X.prog X.w) X.A (PySem.call (.builtin "len") us) (EP X pins σ Q) X.xe s := fun q => by
    obtain ⟨xs, e1, e2⟩ := Option.map_eq_some_iff.mp q
    subst e2
    obtain ⟨a, ys, rfl, b1, b2⟩ := r1.seqOf hK hr e1
    exact call_len_seq pins s σ H _ us Q I rv ⟨a, ys, rfl, b1, by rw [← b2.length]; exact dn.int hr⟩
  cases d with
  | str x =>
    obtain ⟨g1, rfl⟩ := guard_some q
    rw [r1.str] at rv
    exact call_len_str pins s σ H _ us Q I rv ⟨x, rfl, lenline (of_decide_eq_true g1), dn.int hr⟩
  | _ => exact go q
theorem int_ok : CallR X (.type "int") (rBl S fun _ => one toInt) := by
  intro pins s σ H vs us Q I rv hh
  obtain ⟨ι, hid, h, ds, r, hr, rs, q, dn⟩ := hh
  obtain ⟨d, rfl, q⟩ := one_some q
  obtain ⟨v, rfl, r1⟩ := reps1 rs
  cases d with
  | int i =>
    cases q
    rw [r1.int] at rv
    exact call_int1 pins s σ H _ us Q I rv (.inl ⟨i, rfl, dn.int hr⟩)
  | bl b =>
    cases q
    rw [r1.bl] at rv
    exact call_int1 pins s σ H _ us Q I rv (.inr ⟨b, rfl, dn.int hr⟩)
  | _ => cases q
theorem abs_ok : CallR X (.builtin "abs") (rBl S fun _ => one absD) := by
  intro pins s σ H vs us Q I rv hh
  obtain ⟨ι, hid, h, ds, r, hr, rs, q, dn⟩ := hh
  obtain ⟨d, rfl, q⟩ := one_some q
  obtain ⟨v, rfl, r1⟩ := reps1 rs
  cases d with
  | int i =>
    cases q
    rw [r1.int] at rv
    refine call_abs pins s σ H _ us Q I rv ⟨i, rfl, ?_⟩
    rw [show (if i < 0 then -i else i) = (i.natAbs : Int) by split <;> omega]
    exact dn.int hr
  | _ => cases q
theorem list_ok (hK : X.K = S.K) : CallR X (.type "list") (rBl S fun h => one fun d => (seqOf h d).map .lst) := by
  intro pins s σ H vs us Q I rv hh
  obtain ⟨ι, hid, h, ds, r, hr, rs, q, dn⟩ := hh
  obtain ⟨d, rfl, q⟩ := one_some q
  obtain ⟨v, rfl, r1⟩ := reps1 rs
  obtain ⟨xs, e1, e2⟩ := Option.map_eq_some_iff.mp q
  subst e2
  obtain ⟨a, ys, rfl, b1, b2⟩ := r1.seqOf hK hr e1
  exact call_list_of pins s σ H _ us Q I rv ⟨a, ys, rfl, b1, dn.lst hr b2⟩
theorem tuple_ok (hK : X.K = S.K) : CallR X (.type "tuple") (rBl S fun h => one fun d => (seqOf h d).map .tup) := by
  intro pins s σ H vs us Q I rv hh
  obtain ⟨ι, hid, h, ds, r, hr, rs, q, dn⟩ := hh
  obtain ⟨d, rfl, q⟩ := one_some q
  obtain ⟨v, rfl, r1⟩ := reps1 rs
  obtain ⟨xs, e1, e2⟩ := Option.map_eq_some_iff.mp q
  subst e2
  have ls : listOf h d = some xs → wpAny (model X.prog X.w) X.A (PySem.call (.type "tuple") us) (EP X pins σ Q) X.xe s := fun e => by
    obtain ⟨a, ys, rfl, b1, b2⟩ := r1.listOf hr e
    exact call_tuple_of pins s σ H _ us Q I rv ⟨a, ys, rfl, .inl ⟨.inl b1, dn.tup hr b2⟩⟩
  cases d with
  | tup es =>
    have e1 : some es = some xs := e1
    cases e1
    obtain ⟨a, ys, rfl, b1, b2⟩ := r1.tup
    exact call_tuple_of pins s σ H _ us Q I rv ⟨a, ys, rfl, .inr ⟨by rw [hK]; exact b1.sq, dn.val hr r1 (fun _ z => by cases z)⟩⟩
  | _ => exact ls e1
theorem all_ok (hc : X.calm = true) : CallR X (.builtin "all") (rBl S fun h => one (onL h allL)) := by
  intro pins s σ H vs us Q I rv hh
  obtain ⟨ι, hid, h, ds, r, hr, rs, q, dn⟩ := hh
  obtain ⟨d, rfl, q⟩ := one_some q
  obtain ⟨v, rfl, r1⟩ := reps1 rs
  obtain ⟨xs, e1, e2⟩ := onL_some q
  obtain ⟨bs, e3, e4⟩ := Option.map_eq_some_iff.mp e2
  subst e4
  obtain ⟨a, ys, rfl, b1, b2⟩ := r1.listOf hr e1
  exact cr_all hc pins s σ H _ us Q I rv ⟨a, bs, rfl, by rw [← bools_rep b2 e3]; exact .inl b1, dn.bl hr⟩
theorem any_ok (hc : X.calm = true) : CallR X (.builtin "any") (rBl S fun h => one (onL h anyL)) := by
  intro pins s σ H vs us Q I rv hh
  obtain ⟨ι, hid, h, ds, r, hr, rs, q, dn⟩ := hh
  obtain ⟨d, rfl, q⟩ := one_some q
  obtain ⟨v, rfl, r1⟩ := reps1 rs
  obtain ⟨xs, e1, e2⟩ := onL_some q
  obtain ⟨bs, e3, e4⟩ := Option.map_eq_some_iff.mp e2
  subst e4
  obtain ⟨a, ys, rfl, b1, b2⟩ := r1.listOf hr e1
  exact cr_any hc pins s σ H _ us Q I rv ⟨a, bs, rfl, by rw [← bools_rep b2 e3]; exact .inl b1, dn.bl hr⟩
theorem sum_ok (hc : X.calm = true) : CallR X (.builtin "sum") (rBl S fun h => one (onL h sumL)) := by
  intro pins s σ H vs us Q I rv hh
  obtain ⟨ι, hid, h, ds, r, hr, rs, q, dn⟩ := hh
  obtain ⟨d, rfl, q⟩ := one_some q
  obtain ⟨v, rfl, r1⟩ := reps1 rs
  obtain ⟨xs, e1, e2⟩ := onL_some q
  obtain ⟨bs, e3, e4⟩ := Option.map_eq_some_iff.mp e2
  subst e4
  obtain ⟨a, ys, rfl, b1, b2⟩ := r1.listOf hr e1
  exact cr_sum hc pins s σ H _ us Q I rv ⟨a, bs, rfl, by rw [← ints_rep b2 e3]; exact .inl b1, dn.int hr⟩

/-! ### keys over a heap -/
theorem toPys_map : ∀ ds : List D, toPys ds = ds.map toPy
  | [] => rfl
  | d :: ds => congrArg (toPy d :: ·) (toPys_map ds)
theorem key_not_lst {d : D} {n : Nat} (k : d.key n = true) : ∀ ds, d ≠ .lst ds := fun ds e => by
  subst e
  cases n <;> cases k
/-- a value of the layer behind a raw one -/
def RV (S : Sta) (ι hid : List Addr) (H : Hp) (u : Value) (d : D) : Prop := ∃ v, RelV v u ∧ RepN S ι hid H d v
theorem rv_each {ι hid : List Addr} {H : Hp} : ∀ {ds : List D} {vs : List V} {us : List Value}, RepNs S ι hid H ds vs → Vals vs us → PySem.W.EachIs (RV S ι hid H) us ds
  | _, _, _, .nil, .nil => .nil
  | _, _, _, .cons a b, .cons c d => .cons ⟨_, c, a⟩ (rv_each b d)
theorem each_rv {ι hid : List Addr} {H : Hp} : ∀ {ds : List D} {us : List Value}, PySem.W.EachIs (RV S ι hid H) us ds → ∃ vs, Vals vs us ∧ RepNs S ι hid H ds vs
  | _, _, .nil => ⟨[], .nil, .nil⟩
  | _, _, .cons ⟨v, c, a⟩ t => let ⟨vs, e, f⟩ := each_rv t; ⟨v :: vs, .cons c e, .cons a f⟩
theorem rv_reads {pins : List (Addr × Obj)} {s : Shared} {σ : L2.St} {ι hid : List Addr} {H : Hp} (hK : X.K = S.K) (I : Inv X pins σ H s) {d : D} (k : d.key 7 = true) {u : Value} (r : RV S ι hid H u d) : (∃ as, Reads s.heap u (toPy d) as) ∧ (toPy d).depth ≤ 7 := by
  obtain ⟨v, a, b⟩ := r
  obtain ⟨c1, c2, c3⟩ := ok_dp 7 d v (key_ok 7 d k) b
  rw [← hK] at c1
  exact ⟨Dp.reads I _ v u c1 a, c3⟩
theorem each_mono' {α β : Type} {R R' : α → β → Prop} : ∀ {as : List α} {bs : List β}, PySem.W.EachIs R as bs → (∀ a b, b ∈ bs → R a b → R' a b) → PySem.W.EachIs R' as bs
  | _, _, .nil, _ => .nil
  | _, _, .cons h t, k => .cons (k _ _ List.mem_cons_self h) (each_mono' t fun a b hb => k a b (List.mem_cons_of_mem _ hb))
theorem srt_alike {xs : List D} (h : Srt xs) : PySem.W.AllAlike (xs.map toPy) := by
  intro d hd d' hd'
  obtain ⟨x, hx, rfl⟩ := List.mem_map.mp hd
  obtain ⟨y, hy, rfl⟩ := List.mem_map.mp hd'
  exact alike_py x y ((h x hx).2 y hy)
section
open PySem.W
variable {prog : Program} {w : World} {A : Around} {E : Value → Shared → Prop} {s : Shared} {β : Type} {bs : List β} {enc : β → PyData} {R : Value → β → Prop}
/-- sorted(a tuple) -/
theorem sorted_tup {it : Addr} {o : Obj} {items : List Value} {n : Nat} {Q : Value → Shared → Prop} (ho : s.heap.get? it = some o) (hc : o.cls = .type "tuple") (hd : o.data = .seq items.toArray n) (e : EachIs R items bs) (er : EachIs (fun v b => ∃ as, Reads s.heap v (enc b) as) items bs) (hal : AllAlike (bs.map enc)) (hk : Sortable (bs.map enc)) (hL : bs.length ≤ sizeLine)
    (hu : ∀ b, b ∈ bs → A.units + 2 + (enc b).depth < cLine) (h : ∀ (h1 h2 : Heap) (p : Addr) (out : List Value) (c : Nat), (∀ b u, s.heap.get? b = some u → h1.get? b = some u) → (∀ b u, h1.get? b = some u → h2.get? b = some u) → h1.objs.size ≤ p → h2.get? p = some (seqObj "list" out.toArray c) → out.length = bs.length → EachIs R out (bs.mergeSort (dataLe false enc)) → Q (.ref p) { s with heap := h2 }) :
    wpAny (model prog w) A (PySem.call (.builtin "sorted") [.ref it]) Q E s := by
  have hz : items.length ≤ sizeLine := by rw [e.length]; exact hL
  refine Calls.call_function_entry kind_sorted plain_sorted entry_sorted (args_sorted1 _) ?_
  unfold Builtin.«sorted»
  refine wpAny_bind (m := checkCount "sorted" 1 1 _) (wpAny_pure ?_)
  refine wpAny_bind (wpAny_collect_seq it (.inr rfl) ho hc hd (fun h1 k1 => ?_) (by rw [List.size_toArray]; exact hz))
  show wpAny _ _ _ _ _ _
  refine wpAny_bind (wpAny_newList ?_ (by simpa using hz))
  have et : items.toArray.toList = items := by simp
  rw [et]
  have hoL : (h1.push (seqObj "list" items.toArray 0)).get? h1.objs.size = some (seqObj "list" items.toArray 0) := Heap.get?_push_size _ rfl
  have er' : EachIs (fun v b => ∃ as, Reads (sortingHeap (h1.push (seqObj "list" items.toArray 0)) h1.objs.size items) v (enc b) as) items bs := er.mono fun _ _ ⟨as, r⟩ => ⟨as, PyProof.Rows.Reads.keeps (fun b u q => sortingHeap_old (Nat.ne_of_lt (Heap.lt_size (k1 b u q))) (Heap.get?_push_of_some _ (k1 b u q))) r⟩
  refine wpAny_bind (wpAny_holding (wpAny_call_entry slot_list_sort ⟨_, hoL, rfl⟩ entry_list_sort (list_sort_vals (s := { s with heap := h1.push (seqObj "list" items.toArray 0) }) (κ := dataKind (sortingHeap (h1.push (seqObj "list" items.toArray 0)) h1.objs.size items) (bs.map enc)) hoL (SortsAt.data (s := { s with heap := sortingHeap (h1.push (seqObj "list" items.toArray 0)) h1.objs.size items }) (each_map (R := fun v d => ∃ as, Reads (sortingHeap (h1.push (seqObj "list" items.toArray 0)) h1.objs.size items) v d as) enc er') hal hk (bound_map hu)) hz ⟨_, rfl, ?_⟩) (args_list_sort _)))
  obtain ⟨c, hcc⟩ := PyProof.Rows.sortedHeap_at (vs := items) (out := (sortVals (dataKind (sortingHeap (h1.push (seqObj "list" items.toArray 0)) h1.objs.size items) (bs.map enc)) false items items).toArray) hoL
  exact wpAny_pure ⟨_, rfl, h h1 _ _ _ c k1 (fun b u q => by
    have hlt := Heap.lt_size q
    show (PyProof.Rows.sortedHeap _ _ _ _).get? b = some u
    rw [PyProof.Rows.sortedHeap_old (Nat.ne_of_lt hlt) (by rw [size_push']; exact Nat.lt_succ_of_lt hlt)]
    exact Heap.get?_push_of_some _ q) (Nat.le_refl _) hcc (by rw [sortVals_length false rfl]; exact e.length) (sortVals_data false e er' hal)⟩
end
theorem sorted_ok (hK : X.K = S.K) (hu : X.A.units + 65 < cLine) : CallR X (.builtin "sorted") (rBl S fun h => one (onS h sortL)) := by
  intro pins s σ H vs us Q I rv hh
  obtain ⟨ι, hid, h, ds, r, hr, rs, q, dn⟩ := hh
  obtain ⟨d, rfl, q⟩ := one_some q
  obtain ⟨v, rfl, r1⟩ := reps1 rs
  obtain ⟨xs, e1, e2⟩ := onS_some q
  obtain ⟨g, rfl⟩ := guard_some e2
  rw [Bool.and_eq_true] at g
  have sr := srt_of g.1
  have so : PySem.W.Sortable (xs.map toPy) := by
    have g2 := g.2
    rw [Bool.or_eq_true] at g2
    rcases g2 with g2 | g2
    · refine .inl fun d hd => ?_
      obtain ⟨x, hx, rfl⟩ := List.mem_map.mp hd
      have k := List.all_eq_true.mp g2 x hx
      unfold isTup1 at k
      split at k
      · exact ⟨_, _, rfl⟩
      · cases k
    · refine .inr fun d hd => ?_
      obtain ⟨x, hx, rfl⟩ := List.mem_map.mp hd
      have k := List.all_eq_true.mp g2 x hx
      have k2 := (sr x hx).2 x hx
      cases x with
      | int i => exact ⟨fun z => PyData.noConfusion z, fun ys z => PyData.noConfusion z⟩
      | str i => exact ⟨fun z => PyData.noConfusion z, fun ys z => PyData.noConfusion z⟩
      | tup i => exact absurd (show (!true) = true from k) (by decide)
      | _ => exact absurd (show false = true from k2) Bool.false_ne_true
  have dep : ∀ {ys : List V} {its : List Value}, RepNs S ι hid H xs ys → Vals ys its → ∀ b ∈ xs, X.A.units + 2 + (toPy b).depth < cLine := by
    intro ys its b2 rv2 b hb
    obtain ⟨v, hv⟩ : ∃ v, v ∈ its ∧ RV S ι hid H v b := by
      obtain ⟨i, hi, e⟩ := List.mem_iff_getElem.mp hb
      obtain ⟨v, e3, e4⟩ := b2.get (show xs[i]? = some b by rw [List.getElem?_eq_getElem hi, e])
      obtain ⟨u, e5, e6⟩ := rv2.get e3
      exact ⟨u, List.mem_of_getElem? e5, v, e6, e4⟩
    have := (rv_reads hK I (sr b hb).1 hv.2).2
    omega
  have ls : listOf h d = some xs → wpAny (model X.prog X.w) X.A (PySem.call (.builtin "sorted") us) (EP X pins σ Q) X.xe s := fun e1 => by
    obtain ⟨a, ys, rfl, b1, b2⟩ := r1.listOf hr e1
    rw [Vals.ref1 rv]
    obtain ⟨its, rv2, hl, hz⟩ := I.list (.inl b1)
    have ea := rv_each b2 rv2
    refine PySem.W.sorted_data (enc := toPy) (R := RV S ι hid H) hl.isList ea (each_mono' ea fun u b hb r => (rv_reads hK I (sr b hb).1 r).1) (srt_alike sr) so (by rw [b2.length]; exact hz) (dep b2 rv2) fun out ho eo => ?_
    rw [merge_isort sr] at eo
    obtain ⟨ws, w1, w2⟩ := each_rv eo
    obtain ⟨ep, he'⟩ := PyProof.Rows.sortedAll_at s.heap its out.toArray
    have hlen : ws.length ≤ sizeLine := by rw [w1.length, ho, b2.length]; exact hz
    exact ⟨.ref _, upd H (s.heap.objs.size + 1) (.lst ws), I.laid (t' := s.toks) (fun _ _ => PyProof.Rows.sortedAll_old) (Nat.le_succ _) ⟨hlen, out, ep, w1, he'⟩, rfl, dn.lst hr w2 _ (I.hok.fresh (Nat.le_succ _))⟩
  cases d with
  | tup es =>
    have e1 : some es = some xs := e1
    cases e1
    obtain ⟨a, ys, rfl, b1, b2⟩ := r1.tup
    rw [Vals.ref1 rv]
    obtain ⟨its, rv2, ⟨o, ho, hc, n, hd⟩, hz⟩ := I.tuple (by rw [hK]; exact b1.sq)
    have ea := rv_each b2 rv2
    refine sorted_tup (enc := toPy) (R := RV S ι hid H) ho hc hd ea (each_mono' ea fun u b hb r => (rv_reads hK I (sr b hb).1 r).1) (srt_alike sr) so (by rw [b2.length]; exact hz) (dep b2 rv2) fun h1 h2 p out c k1 k2 hp hg hl eo => ?_
    rw [merge_isort sr] at eo
    obtain ⟨ws, w1, w2⟩ := each_rv eo
    have hlen : ws.length ≤ sizeLine := by rw [w1.length, hl, b2.length]; exact hz
    have hn : H p = none := (I.hok.kept k1).fresh hp
    have hp0 : s.heap.get? p = none := by
      cases q : s.heap.get? p with
      | none => rfl
      | some u => exact absurd (Nat.lt_of_lt_of_le (Heap.lt_size (k1 p u q)) hp) (Nat.lt_irrefl _)
    exact ⟨.ref p, upd H p (.lst ws), I.laidN (t' := s.toks) (fun b u q => k2 b u (k1 b u q)) hp0 hn ⟨hlen, out, c, w1, hg⟩, rfl, dn.lst hr w2 _ hn⟩
  | _ => exact ls e1
end
end Rf
/-! Rf7 -/
set_option maxHeartbeats 1000000
/-! Rf7: min and max; isinstance. -/
namespace Rf
open PySem PySem.Spec PyProof.Rows L2
section
variable {prog : Program} {w : World} {A : Around} {E : Value → Shared → Prop} {s : Shared}
/-- min(a, b), the items compared where a heap stands -/
theorem min_twoH {a b : Value} {Q : Value → Shared → Prop}
    (h : wpAny (model prog w) A.in1 (pyIter (.ref s.heap.objs.size)) (fun it s₂ => ∃ I fp wr G n P St H bt, it = .ref I ∧ WalksS prog w A.in1 I fp wr G n P St ∧ St 0 s₂ ∧ (∀ b ∈ fp, b < s₂.heap.objs.size) ∧ 0 < n ∧
      (∀ b o, H.get? b = some o → b ∉ wr) ∧ (∀ b o, H.get? b = some o → s₂.heap.get? b = some o) ∧ CmpIn prog w A.in1 .Lt H P bt ∧ ∀ v s', P (argBest bt (n - 1)) v → Moved wr G s₂ s' → Q v s') E
      { s with heap := s.heap.push { cls := .type "tuple", data := .seq #[a, b] } }) :
    wpAny (model prog w) A (PySem.call (.builtin "min") [a, b]) Q E s := by
  refine call_function_tree F.kind_min F.plain_min F.entry_min (F.args_min2 _ _) ?_
  refine wpAny_bind (wpAny_of_eq (show Builtin.Builtins.bindParams "min" ["key", "default"] 0 ⟨[], []⟩ = pure [none, none] from rfl) ?_)
  show wpAny _ A.in1 (newTuple [a, b] >>= _) _ _ s
  refine wpAny_bind (wpAny_newObj_type (wpAny_bind (wpAny_mono h (fun it s₂ h₂ => ?_) fun _ _ e => e)))
  obtain ⟨J, fp, wr, G, n, P, St, H, bt, rfl, W, hst, hfp, hn, hw, hkeep, hcmp, hQ⟩ := h₂
  refine wpAny_bind (wpAny_newObj_type ?_)
  have nf : s₂.heap.objs.size ∉ fp := fun hm => Nat.lt_irrefl _ (hfp _ hm)
  rw [show (toString "min" ++ toString ".loop" : String) = "min.loop" by decide]
  exact wpAny_pure ⟨plainId_quiet F.plain_min_loop _, codeAny_min_loop_firstH W H hw bt hcmp s₂.heap.objs.size nf (fresh_in hkeep) _ hn (fun b o e => Heap.get?_push_of_some _ (hkeep b o e)) (W.frame 0 s₂ _ s₂.toks hst (Nat.le_refl _) fun b _ o e => Heap.get?_push_of_some _ e) (Heap.get?_push_size _ rfl)
    fun v s' hP hm => hQ v s' hP (Moved.drop_new (tk := s₂.toks) hm (Nat.le_refl _))⟩
theorem max_twoH {a b : Value} {Q : Value → Shared → Prop}
    (h : wpAny (model prog w) A.in1 (pyIter (.ref s.heap.objs.size)) (fun it s₂ => ∃ I fp wr G n P St H bt, it = .ref I ∧ WalksS prog w A.in1 I fp wr G n P St ∧ St 0 s₂ ∧ (∀ b ∈ fp, b < s₂.heap.objs.size) ∧ 0 < n ∧
      (∀ b o, H.get? b = some o → b ∉ wr) ∧ (∀ b o, H.get? b = some o → s₂.heap.get? b = some o) ∧ CmpIn prog w A.in1 .Gt H P bt ∧ ∀ v s', P (argBest bt (n - 1)) v → Moved wr G s₂ s' → Q v s') E
      { s with heap := s.heap.push { cls := .type "tuple", data := .seq #[a, b] } }) :
    wpAny (model prog w) A (PySem.call (.builtin "max") [a, b]) Q E s := by
  refine call_function_tree F.kind_max F.plain_max F.entry_max (F.args_max2 _ _) ?_
  refine wpAny_bind (wpAny_of_eq (show Builtin.Builtins.bindParams "max" ["key", "default"] 0 ⟨[], []⟩ = pure [none, none] from rfl) ?_)
  show wpAny _ A.in1 (newTuple [a, b] >>= _) _ _ s
  refine wpAny_bind (wpAny_newObj_type (wpAny_bind (wpAny_mono h (fun it s₂ h₂ => ?_) fun _ _ e => e)))
  obtain ⟨J, fp, wr, G, n, P, St, H, bt, rfl, W, hst, hfp, hn, hw, hkeep, hcmp, hQ⟩ := h₂
  refine wpAny_bind (wpAny_newObj_type ?_)
  have nf : s₂.heap.objs.size ∉ fp := fun hm => Nat.lt_irrefl _ (hfp _ hm)
  rw [show (toString "max" ++ toString ".loop" : String) = "max.loop" by decide]
  exact wpAny_pure ⟨plainId_quiet F.plain_max_loop _, codeAny_max_loop_firstH W H hw bt hcmp s₂.heap.objs.size nf (fresh_in hkeep) _ hn (fun b o e => Heap.get?_push_of_some _ (hkeep b o e)) (W.frame 0 s₂ _ s₂.toks hst (Nat.le_refl _) fun b _ o e => Heap.get?_push_of_some _ e) (Heap.get?_push_size _ rfl)
    fun v s' hP hm => hQ v s' hP (Moved.drop_new (tk := s₂.toks) hm (Nat.le_refl _))⟩
end
section
variable {X : Cx} {S : Sta} {pins : List (Addr × Obj)} {s : Shared} {σ : L2.St} {ι hid : List Addr} {H : Hp}
theorem each_get {α β : Type} {R : α → β → Prop} : ∀ {as : List α} {bs : List β} {i : Nat} {a : α}, PySem.W.EachIs R as bs → as[i]? = some a → ∃ b, bs[i]? = some b ∧ R a b
  | _, _, _, _, .nil, e => by simp at e
  | _, _, 0, _, .cons h _, e => by simp at e; subst e; exact ⟨_, rfl, h⟩
  | _, _, i + 1, a, .cons _ t, e => by
    obtain ⟨b, e1, e2⟩ := each_get (i := i) t (by simpa using e)
    exact ⟨b, by simpa using e1, e2⟩
theorem srt_depth {xs : List D} (h : Srt xs) : ∀ x ∈ xs, ∀ e : x = .non, False := fun x hx e => by
  have := (h x hx).2 x hx
  subst e
  cases this
theorem cmp_lt (hK : X.K = S.K) (I : Inv X pins σ H s) {A : Around} (hu : A.units + 8 < cLine) {xs : List D} {us : List Value} (sr : Srt xs) (ea : PySem.W.EachIs (RV S ι hid H) us xs) {vs : Array Value} (ev : vs.toList = us) :
    CmpIn X.prog X.w A .Lt s.heap (fun i v => vs[i]? = some v) (fun i j => D.ltb (xs.getD i .non) (xs.getD j .non)) := fun i j vi vj s' Q E hk hi hj hq => by
  obtain ⟨x, e1, r1⟩ := each_get (i := i) (a := vi) ea (by rw [← ev, Array.getElem?_toList]; exact hi)
  obtain ⟨y, e2, r2⟩ := each_get (i := j) (a := vj) ea (by rw [← ev, Array.getElem?_toList]; exact hj)
  have m1 := List.mem_of_getElem? e1
  have m2 := List.mem_of_getElem? e2
  obtain ⟨⟨as1, k1⟩, d1⟩ := rv_reads hK I (sr x m1).1 r1
  obtain ⟨⟨as2, k2⟩, d2⟩ := rv_reads hK I (sr y m2).1 r2
  have g1 : xs.getD i .non = x := by rw [List.getD_eq_getElem?_getD, e1]; rfl
  have g2 : xs.getD j .non = y := by rw [List.getD_eq_getElem?_getD, e2]; rfl
  simp only [g1, g2, sr.ltb m1 m2] at hq
  refine PySem.W.rcLt_alike _ _ A s' vi vj _ _ (PySem.W.reads_keeps hk k1) (PySem.W.reads_keeps hk k2) (alike_py x y ((sr x m1).2 y m2)) (fun z => ?_) ?_ X.prog X.w E Q hq
  · cases x <;> first | exact srt_depth sr _ m1 rfl | exact PyData.noConfusion z
  · have := Nat.min_le_left (toPy x).depth (toPy y).depth
    omega
theorem cmp_gt (hK : X.K = S.K) (I : Inv X pins σ H s) {A : Around} (hu : A.units + 8 < cLine) {xs : List D} {us : List Value} (sr : Srt xs) (ea : PySem.W.EachIs (RV S ι hid H) us xs) {vs : Array Value} (ev : vs.toList = us) :
    CmpIn X.prog X.w A .Gt s.heap (fun i v => vs[i]? = some v) (fun i j => D.ltb (xs.getD j .non) (xs.getD i .non)) := fun i j vi vj s' Q E hk hi hj hq => by
  obtain ⟨x, e1, r1⟩ := each_get (i := i) (a := vi) ea (by rw [← ev, Array.getElem?_toList]; exact hi)
  obtain ⟨y, e2, r2⟩ := each_get (i := j) (a := vj) ea (by rw [← ev, Array.getElem?_toList]; exact hj)
  have m1 := List.mem_of_getElem? e1
  have m2 := List.mem_of_getElem? e2
  obtain ⟨⟨as1, k1⟩, d1⟩ := rv_reads hK I (sr x m1).1 r1
  obtain ⟨⟨as2, k2⟩, d2⟩ := rv_reads hK I (sr y m2).1 r2
  have g1 : xs.getD i .non = x := by rw [List.getD_eq_getElem?_getD, e1]; rfl
  have g2 : xs.getD j .non = y := by rw [List.getD_eq_getElem?_getD, e2]; rfl
  simp only [g1, g2, sr.ltb m2 m1] at hq
  refine PySem.W.rcGt_alike _ _ A s' vi vj _ _ (PySem.W.reads_keeps hk k1) (PySem.W.reads_keeps hk k2) (alike_py x y ((sr x m1).2 y m2)) (fun z => ?_) ?_ X.prog X.w E Q hq
  · cases x <;> first | exact srt_depth sr _ m1 rfl | exact PyData.noConfusion z
  · have := Nat.min_le_left (toPy x).depth (toPy y).depth
    omega
/-- the item that a walk ends with -/
theorem best_item {xs : List D} {us : List Value} (sr : Srt xs) (ea : PySem.W.EachIs (RV S ι hid H) us xs) {vs : Array Value} (ev : vs.toList = us) {i : Nat} {v : Value} (hv : vs[i]? = some v) {r : D} (e : xs.getD i .non = r) : RV S ι hid H v r ∧ ∀ ds, r ≠ .lst ds := by
  obtain ⟨x, e1, r1⟩ := each_get (i := i) (a := v) ea (by rw [← ev, Array.getElem?_toList]; exact hv)
  rw [List.getD_eq_getElem?_getD, e1] at e
  have e : x = r := e
  subst e
  exact ⟨r1, key_not_lst (sr x (List.mem_of_getElem? e1)).1⟩
theorem argLeast (x : D) (xs : List D) : (x :: xs).getD (argBest (fun i j => D.ltb ((x :: xs).getD i .non) ((x :: xs).getD j .non)) xs.length) .non = D.leastOf x xs := by
  have e2 := (PySem.W.argBest_fold D.ltb D.non x xs xs.length (Nat.le_refl _)).2
  rw [List.take_length] at e2
  rw [e2, least_fold]
theorem argGreatest (x : D) (xs : List D) : (x :: xs).getD (argBest (fun i j => D.ltb ((x :: xs).getD j .non) ((x :: xs).getD i .non)) xs.length) .non = D.greatestOf x xs := by
  have e2 := (PySem.W.argBest_fold (fun a b => D.ltb b a) D.non x xs xs.length (Nat.le_refl _)).2
  rw [List.take_length] at e2
  rw [e2, greatest_fold]
theorem minL_some {ds : List D} {r : D} (h : minL ds = some r) : ∃ x xs, ds = x :: xs ∧ Srt (x :: xs) ∧ r = D.leastOf x xs := by
  cases ds with
  | nil => cases h
  | cons x xs =>
    obtain ⟨g, e⟩ := guard_some h
    exact ⟨x, xs, rfl, srt_of g, e⟩
theorem maxL_some {ds : List D} {r : D} (h : maxL ds = some r) : ∃ x xs, ds = x :: xs ∧ Srt (x :: xs) ∧ r = D.greatestOf x xs := by
  cases ds with
  | nil => cases h
  | cons x xs =>
    obtain ⟨g, e⟩ := guard_some h
    exact ⟨x, xs, rfl, srt_of g, e⟩
theorem rep_key {h : AH} {d : D} {v : V} (k : d.key 7 = true) (r : Rep S ι hid H d v) : RepN S ι hid H d v := by
  rcases r with r | ⟨n, a, rfl, _⟩
  · exact r
  · cases k
theorem each_len {α β : Type} {R : α → β → Prop} : ∀ {as : List α} {bs : List β}, PySem.W.EachIs R as bs → as.length = bs.length
  | _, _, .nil => rfl
  | _, _, .cons _ t => congrArg (· + 1) (each_len t)
theorem min_ok (hc : X.calm = true) (hK : X.K = S.K) (hu : X.A.units + 65 < cLine) : CallR X (.builtin "min") (rBl S minD) := by
  intro pins s σ H vs us Q I rv hh
  obtain ⟨ι, hid, h, ds, r, hr, rs, q, dn⟩ := hh
  unfold minD at q
  split at q
  · rename_i d
    obtain ⟨v, rfl, r1⟩ := reps1 rs
    obtain ⟨xs, e1, e2⟩ := onL_some q
    obtain ⟨x, ys, rfl, sr, rfl⟩ := minL_some e2
    obtain ⟨a, ws, rfl, b1, b2⟩ := r1.listOf hr e1
    rw [Vals.ref1 rv]
    obtain ⟨its, rv2, hl, hz⟩ := I.list (.inl b1)
    have ea := rv_each b2 rv2
    have hn : its.length = ys.length + 1 := each_len ea
    refine call_min_walkH (PySem.W.iter_listW (A := X.A.in1) (I.ok.hd hc) hl.isList fun s₂ e W st hfp hw hk => ?_)
    refine ⟨_, _, _, _, _, _, _, s.heap, _, rfl, W, st, hfp, by rw [List.size_toArray, hn]; omega, hw, hk, cmp_lt hK I (A := X.A.in1) (by show X.A.units + 1 + 8 < _; omega) sr ea (vs := its.toArray) rfl, fun v s' hP m => ?_⟩
    obtain ⟨h', tk, rfl, hk'⟩ := PySem.W.moved_old e rfl m
    rw [show its.toArray.size - 1 = ys.length by rw [List.size_toArray, hn]; rfl] at hP
    obtain ⟨⟨y, z1, z2⟩, z3⟩ := best_item sr ea (vs := its.toArray) rfl hP (argLeast x ys)
    exact ⟨y, H, I.kept hk', z1, dn.val hr (.inl z2) z3⟩
  · rename_i a b
    obtain ⟨v, u, rfl, r1, r2⟩ := reps2 rs
    obtain ⟨x, ys, e0, sr, rfl⟩ := minL_some q
    injection e0 with e0 e3
    subst e0 e3
    obtain ⟨v', u', rfl, rv1, rv2⟩ := vals2 rv
    have k1 := (sr a List.mem_cons_self).1
    have k2 := (sr b (List.mem_cons_of_mem _ List.mem_cons_self)).1
    have ea : PySem.W.EachIs (RV S ι hid H) [v', u'] [a, b] := .cons ⟨v, rv1, rep_key (h := h) k1 r1⟩ (.cons ⟨u, rv2, rep_key (h := h) k2 r2⟩ .nil)
    refine min_twoH (PySem.W.iter_tupleW (A := X.A.in1) (vs := #[v', u']) (I.ok.hd hc) ⟨_, Heap.get?_push_size _ rfl, rfl, 0, rfl⟩ fun s₂ e W st hfp hw hk => ?_)
    refine ⟨_, _, _, _, _, _, _, s.heap, _, rfl, W, st, hfp, (by show 0 < 2; omega), fun b o e => hw b o (Heap.get?_push_of_some _ e), fun b o e => hk b o (Heap.get?_push_of_some _ e), cmp_lt hK I (A := X.A.in1) (by show X.A.units + 1 + 8 < _; omega) sr ea (vs := #[v', u']) rfl, fun v s' hP m => ?_⟩
    obtain ⟨h', tk, rfl, hk'⟩ := PySem.W.moved_old e rfl m
    obtain ⟨⟨y, z1, z2⟩, z3⟩ := best_item sr ea (vs := #[v', u']) rfl hP (argLeast a [b])
    exact ⟨y, H, I.kept (fun b o e => hk' b o (Heap.get?_push_of_some _ e)), z1, dn.val hr (.inl z2) z3⟩
  · cases q
theorem max_ok (hc : X.calm = true) (hK : X.K = S.K) (hu : X.A.units + 65 < cLine) : CallR X (.builtin "max") (rBl S maxD) := by
  intro pins s σ H vs us Q I rv hh
  obtain ⟨ι, hid, h, ds, r, hr, rs, q, dn⟩ := hh
  unfold maxD at q
  split at q
  · rename_i d
    obtain ⟨v, rfl, r1⟩ := reps1 rs
    obtain ⟨xs, e1, e2⟩ := onL_some q
    obtain ⟨x, ys, rfl, sr, rfl⟩ := maxL_some e2
    obtain ⟨a, ws, rfl, b1, b2⟩ := r1.listOf hr e1
    rw [Vals.ref1 rv]
    obtain ⟨its, rv2, hl, hz⟩ := I.list (.inl b1)
    have ea := rv_each b2 rv2
    have hn : its.length = ys.length + 1 := each_len ea
    refine call_max_walkH (PySem.W.iter_listW (A := X.A.in1) (I.ok.hd hc) hl.isList fun s₂ e W st hfp hw hk => ?_)
    refine ⟨_, _, _, _, _, _, _, s.heap, _, rfl, W, st, hfp, by rw [List.size_toArray, hn]; omega, hw, hk, cmp_gt hK I (A := X.A.in1) (by show X.A.units + 1 + 8 < _; omega) sr ea (vs := its.toArray) rfl, fun v s' hP m => ?_⟩
    obtain ⟨h', tk, rfl, hk'⟩ := PySem.W.moved_old e rfl m
    rw [show its.toArray.size - 1 = ys.length by rw [List.size_toArray, hn]; rfl] at hP
    obtain ⟨⟨y, z1, z2⟩, z3⟩ := best_item sr ea (vs := its.toArray) rfl hP (argGreatest x ys)
    exact ⟨y, H, I.kept hk', z1, dn.val hr (.inl z2) z3⟩
  · rename_i a b
    obtain ⟨v, u, rfl, r1, r2⟩ := reps2 rs
    obtain ⟨x, ys, e0, sr, rfl⟩ := maxL_some q
    injection e0 with e0 e3
    subst e0 e3
    obtain ⟨v', u', rfl, rv1, rv2⟩ := vals2 rv
    have k1 := (sr a List.mem_cons_self).1
    have k2 := (sr b (List.mem_cons_of_mem _ List.mem_cons_self)).1
    have ea : PySem.W.EachIs (RV S ι hid H) [v', u'] [a, b] := .cons ⟨v, rv1, rep_key (h := h) k1 r1⟩ (.cons ⟨u, rv2, rep_key (h := h) k2 r2⟩ .nil)
    refine max_twoH (PySem.W.iter_tupleW (A := X.A.in1) (vs := #[v', u']) (I.ok.hd hc) ⟨_, Heap.get?_push_size _ rfl, rfl, 0, rfl⟩ fun s₂ e W st hfp hw hk => ?_)
    refine ⟨_, _, _, _, _, _, _, s.heap, _, rfl, W, st, hfp, (by show 0 < 2; omega), fun b o e => hw b o (Heap.get?_push_of_some _ e), fun b o e => hk b o (Heap.get?_push_of_some _ e), cmp_gt hK I (A := X.A.in1) (by show X.A.units + 1 + 8 < _; omega) sr ea (vs := #[v', u']) rfl, fun v s' hP m => ?_⟩
    obtain ⟨h', tk, rfl, hk'⟩ := PySem.W.moved_old e rfl m
    obtain ⟨⟨y, z1, z2⟩, z3⟩ := best_item sr ea (vs := #[v', u']) rfl hP (argGreatest a [b])
    exact ⟨y, H, I.kept (fun b o e => hk' b o (Heap.get?_push_of_some _ e)), z1, dn.val hr (.inl z2) z3⟩
  · cases q

/-! ### isinstance -/
def kdName : Kd → String
  | .non => "NoneType"
  | .bl => "bool"
  | .int => "int"
  | .str => "str"
  | .tup => "tuple"
  | .lst => "list"
theorem kind_ty {h : AH} {K : PySem.W.Frag} (hK : K = S.K) (hr : HRep S ι hid H h) {d : D} {v : V} (r : Rep S ι hid H d v) {k : Kd} (e : kindOf h d = some k) : TyX K H v (.type (kdName k)) := by
  subst hK
  have ls : ∀ {a : Addr} {vs : List V}, Rd H a (.lst vs) → TyX S.K H (.ref a) (.type "list") := fun q => by
    rcases q with q | ⟨o, q⟩
    · exact .base (.lst q)
    · exact .base (.frz q)
  cases d with
  | non => cases e; rw [r.non]; exact .base .non
  | bl b => cases e; rw [r.bl]; exact .base (.bl b)
  | int b => cases e; rw [r.int]; exact .base (.int b)
  | str b => cases e; rw [r.str]; exact .base (.str b)
  | tup ds =>
    cases e
    obtain ⟨a, vs, rfl, b1, b2⟩ := r.tup
    rcases b1 with ⟨q, _⟩ | ⟨o, its, n, q, c, _⟩
    · rcases q with q | ⟨o, q⟩
      · exact .base (.tup q)
      · exact .fTuple q
    · exact .kTuple q c
  | lst ds =>
    cases e
    obtain ⟨a, vs, rfl, b1, b2⟩ := r.lst
    exact ls b1.1
  | ref n =>
    obtain ⟨xs, e1, e2⟩ := Option.map_eq_some_iff.mp (show (listOf h (.ref n)).map (fun _ => Kd.lst) = some k from e)
    subst e2
    obtain ⟨a, vs, rfl, b1, b2⟩ := r.listOf hr e1
    exact ls b1
  | _ => cases e
/-- the types asked for -/
def isTys : Bl → List String
  | .isInt => ["int"]
  | .isBool => ["bool"]
  | .isStr => ["str"]
  | .isTuple => ["tuple"]
  | .isList => ["list"]
  | .isListTuple => ["list", "tuple"]
  | .isBoolStr => ["bool", "str"]
  | _ => []
theorem kit_one {K : PySem.W.Frag} (f : Bl) (k : Kd) (T : String) (e : isTys f = [T]) : PySem.W.kitOne K (.type (kdName k)) (.type T) = some (isKd f k) := by
  refine kit_ty ?_
  cases f <;> first
    | (cases e; done)
    | (obtain rfl : _ = T := by injection e
       cases k <;> decide +kernel)
theorem kit_two {K : PySem.W.Frag} (f : Bl) (k : Kd) (T U : String) (e : isTys f = [T, U]) : PySem.W.kitAny K (.type (kdName k)) [.type T, .type U] = some (isKd f k) := by
  cases f <;> first
    | (cases e; done)
    | (obtain ⟨rfl, rfl⟩ : _ = T ∧ _ = U := by
         injection e with e1 e2
         injection e2 with e2
         exact ⟨e1, e2⟩
       cases k <;> first
         | exact kitAny_cons (b := true) (kit_ty (by decide +kernel)) (fun z => by cases z) (fun _ => rfl)
         | exact kitAny_cons (b := false) (kit_ty (by decide +kernel)) (fun _ => kitAny_cons (b := true) (kit_ty (by decide +kernel)) (fun z => by cases z) (fun _ => rfl)) (fun z => by cases z)
         | exact kitAny_cons (b := false) (kit_ty (by decide +kernel)) (fun _ => kitAny_cons (b := false) (kit_ty (by decide +kernel)) (fun _ => kitAny_nil) (fun z => by cases z)) (fun z => by cases z))
end
end Rf
/-! Rf8 -/
set_option maxHeartbeats 1000000
/-! Rf8: subscripts, slices, methods, stores. -/
namespace Rf
open PySem PySem.Spec PyProof.Rows L2
theorem place_ix (n : Nat) (i : Int) : D.place n i = ixN n i := rfl
section
variable {X : Cx} {S : Sta}
/-- a subscript by the evaluator: the item as it stands -/
def rIxD (S : Sta) : R2 := fun x y H Q => ∃ ι hid h d e r, HRep S ι hid H h ∧ Rep S ι hid H d x ∧ Rep S ι hid H e y ∧ index h d e = some r ∧ ∀ v, Rep S ι hid H r v → Q v H
theorem index_some {h : AH} {a e r : D} (q : index h a e = some r) (nd : ∀ ks vs, a ≠ .dct ks vs) : ∃ i ds, e = .int i ∧ seqOf h a = some ds ∧ (D.place ds.length i).bind (fun k => ds[k]?) = some r := by
  have go : ∀ i, e = .int i → (match seqOf h a with
      | some ds => (D.place ds.length i).bind fun k => ds[k]?
      | none => none) = some r → ∃ i ds, e = .int i ∧ seqOf h a = some ds ∧ (D.place ds.length i).bind (fun k => ds[k]?) = some r := fun i e0 q => by
    split at q
    · rename_i ds hq
      exact ⟨i, ds, e0, hq, q⟩
    · cases q
  unfold index at q
  split at q
  · exact absurd rfl (nd _ _)
  · exact go _ rfl q
  · cases q
theorem seq_cases {ι hid : List Addr} {H : Hp} {h : AH} {v : V} (hr : HRep S ι hid H h) {d : D} (r : Rep S ι hid H d v) {ds : List D} (e : seqOf h d = some ds) :
    ∃ a vs, v = .ref a ∧ (Rd H a (.lst vs) ∨ TupAt S.K ι hid H a vs) ∧ RepNs S ι hid H ds vs := by
  cases d with
  | tup es =>
    obtain ⟨a, vs, e1, e2, e3⟩ := r.tup
    have e : some es = some ds := e
    cases e
    exact ⟨a, vs, e1, .inr e2, e3⟩
  | lst es =>
    obtain ⟨a, vs, e1, e2, e3⟩ := r.listOf hr (show listOf h (.lst es) = some ds from e)
    exact ⟨a, vs, e1, .inl e2, e3⟩
  | ref n =>
    obtain ⟨a, vs, e1, e2, e3⟩ := r.listOf hr (show listOf h (.ref n) = some ds from e)
    exact ⟨a, vs, e1, .inl e2, e3⟩
  | _ => cases e
theorem ix_ok (hK : X.K = S.K) : IxR X (rIxD S) := by
  intro value slice pins s σ H x y v u Q I rx ry h hs
  obtain ⟨ι, hid, h, d, e, r, hr, r1, r2, q, dn⟩ := h
  obtain ⟨i, ds, rfl, e1, e2⟩ := index_some q (fun ks vs z => by
    subst z
    rcases r1 with r1 | ⟨_, _, z, _⟩
    · cases r1
    · cases z)
  obtain ⟨k, e3, e4⟩ := Option.bind_eq_some_iff.mp e2
  rw [r2.int] at ry
  obtain ⟨a, vs, rfl, b1, b2⟩ := seq_cases hr r1 e1
  obtain ⟨z, e5, e6⟩ := b2.get e4
  have ea : atI vs i = some z := by
    show (ixN vs.length i).bind (fun j => vs[j]?) = some z
    rw [← b2.length, ← place_ix, e3]
    exact e5
  rcases b1 with b1 | b1
  · exact ix_list value slice pins s σ H _ _ v u Q I rx ry ⟨a, vs, i, z, rfl, rfl, .inl b1, ea, dn z (.inl e6)⟩ hs
  · exact ix_tup value slice pins s σ H _ _ v u Q I rx ry ⟨a, vs, i, z, rfl, rfl, by rw [hK]; exact b1.sq, ea, dn z (.inl e6)⟩ hs

theorem sIx_eq : D.sIx = HT.sIx := by
  funext n d o
  cases o <;> rfl
theorem RepNs.cut {ι hid : List Addr} {H : Hp} {ds : List D} {vs : List V} (r : RepNs S ι hid H ds vs) (lo hi : Option Int) : RepNs S ι hid H (D.cut ds lo hi) (cutV vs lo hi) := by
  unfold D.cut cutV
  rw [sIx_eq, r.length]
  exact (r.drop _).take _
def rSlD (S : Sta) : V → Option Int → Option Int → Hp → VK → Prop := fun x lo hi H Q => ∃ ι hid h d r, HRep S ι hid H h ∧ Rep S ι hid H d x ∧ slice h d lo hi = some r ∧ Done S ι hid H h r Q
theorem sIx_le' (n d : Nat) (hd : d ≤ n) (o : Option Int) : HT.sIx n d o ≤ n := HT.sIx_le n d hd o
theorem sl_ok (hK : X.K = S.K) : SlR X (rSlD S) := by
  intro pins s σ H x v vl vu lo hi sl Q I rx hs pl pu h
  obtain ⟨ι, hid, h, d, r, hr, r1, q, dn⟩ := h
  have ls : (listOf h d).map (fun ds => D.lst (D.cut ds lo hi)) = some r → ∃ T id, typeLookup (.type T) "__getitem__" = pure (some (.builtin id)) ∧ s.TypeIs v T ∧ wpAny (model X.prog X.w) X.A (getItem v (.ref sl)) (EP X pins σ Q) X.xe s := fun q => by
    obtain ⟨ds, e1, e2⟩ := Option.map_eq_some_iff.mp q
    subst e2
    obtain ⟨a, vs, rfl, b1, b2⟩ := r1.listOf hr e1
    exact sl_list pins s σ H _ v vl vu lo hi sl Q I rx hs pl pu ⟨a, vs, rfl, .inl b1, dn.lst hr (b2.cut lo hi)⟩
  cases d with
  | tup ds =>
    have q : (if lo = none ∧ hi = none then none else some (D.tup (D.cut ds lo hi))) = some r := q
    split at q
    · cases q
    · cases q
      obtain ⟨a, vs, rfl, b1, b2⟩ := r1.tup
      refine sl_tupA pins s σ H _ v vl vu lo hi sl Q I rx hs pl pu ⟨a, vs, rfl, by rw [hK]; exact b1.sq, fun w => ?_, fun _ => dn.tup hr (b2.cut lo hi)⟩
      have e : D.cut ds lo hi = ds := by
        unfold D.cut
        rw [sIx_eq, b2.length, w.1, w.2, ← b2.length, List.drop_zero, Nat.sub_zero, List.take_length]
      rw [e] at dn
      exact dn.val hr r1 (fun _ z => by cases z)
  | lst _ => exact ls q
  | ref _ => exact ls q
  | _ => cases q

/-! ### xs[::-1] -/
/-- the reverse of what x is -/
def rRevD (S : Sta) : V → Hp → VK → Prop := fun x H Q => ∃ ι hid h d r, HRep S ι hid H h ∧ Rep S ι hid H d x ∧ revD h d = some r ∧ Done S ι hid H h r Q

/-! ### methods -/
def OkF (S : Sta) (fr : Bool) (ι hid : List Addr) (H : Hp) (r : Res D) (Q : VK) : Prop := ∃ d h', r = .ok d h' ∧ ∀ v H', Kp ι H H' → HRep S ι hid H' h' → RE S fr ι hid H H' h' d v → Q v H'
def rMtD (S : Sta) (m : Mt) : V → List V → Hp → VK → Prop := fun x xs H Q => ∃ ι hid h d ds, HRep S ι hid H h ∧ Rep S ι hid H d x ∧ Reps S ι hid H ds xs ∧ OkF S false ι hid H (mth h m d ds) Q
theorem mk0 {ι hid : List Addr} {H H' : Hp} {h' : AH} {d : D} {v : V} (r : Rep S ι hid H' d v) : RE S false ι hid H H' h' d v := ⟨r, fun e => by cases e⟩
theorem ref_lst {ι hid : List Addr} {H : Hp} {h : AH} (hr : HRep S ι hid H h) {n : Nat} {x : V} (r : Rep S ι hid H (.ref n) x) {ds : List D} (e : h[n]? = some (.lst ds)) : ∃ a vs, x = .ref a ∧ ι[n]? = some a ∧ H a = some (.lst vs) ∧ RepNs S ι hid H ds vs := by
  obtain ⟨a, e1, e2⟩ := r.ref
  obtain ⟨u, e3, vs, e4, e5⟩ := hr.obj n a _ e2 e
  exact ⟨a, vs, e1, e2, by rw [e3, e4], e5⟩
theorem append_ok : MtR X "list.append" (rMtD S .append) := by
  intro pins s σ H x xs v us Q I rx rxs hh
  obtain ⟨ι, hid, h, d, ds, hr, r1, rs, r, h', e, dn⟩ := hh
  unfold mth at e
  split at e <;> try contradiction
  rename_i n y
  split at e <;> try contradiction
  rename_i es hn
  split at e <;> try contradiction
  rename_i hc
  simp only [Bool.and_eq_true, Bool.not_eq_true', decide_eq_true_eq] at hc
  injection e with e1 e2
  subst e1 e2
  obtain ⟨w, rfl, r2⟩ := reps1 rs
  obtain ⟨a, vs, rfl, e3, e4, e5⟩ := ref_lst hr r1 hn
  refine mt_append pins s σ H _ _ v us Q I rx rxs ⟨a, vs, w, rfl, rfl, e4, by rw [← e5.length]; have := lenline (Nat.le_of_lt hc.2); rw [sizeLine_eq]; exact hc.2, ?_⟩
  have k := Kp.write (ι := ι) (H := H) (u := .lst (vs ++ [w])) e3
  exact dn _ _ k (hr.write e3 ⟨vs ++ [w], rfl, e5.append (.cons (r2.noref hc.1) .nil)⟩) (mk0 (.inl .non))
theorem pop_ok : MtR X "list.pop" (rMtD S .pop) := by
  intro pins s σ H x xs v us Q I rx rxs hh
  obtain ⟨ι, hid, h, d, ds, hr, r1, rs, r, h', e, dn⟩ := hh
  unfold mth at e
  split at e <;> try contradiction
  rename_i n
  split at e <;> try contradiction
  rename_i es hn
  split at e <;> try contradiction
  rename_i z hz
  injection e with e1 e2
  subst e1 e2
  cases rs
  obtain ⟨a, vs, rfl, e3, e4, e5⟩ := ref_lst hr r1 hn
  obtain ⟨w, e6, e7⟩ := e5.get hz
  refine mt_pop pins s σ H _ _ v us Q I rx rxs ⟨a, vs, w, rfl, rfl, e4, by rw [← e5.length]; exact e6, ?_⟩
  have k := Kp.write (ι := ι) (H := H) (u := .lst vs.dropLast) e3
  exact dn _ _ k (hr.write e3 ⟨_, rfl, e5.dropLast⟩) (mk0 (.inl (e7.keep k)))
theorem popAt_ok : MtR X "list.pop" (rMtD S .popAt) := by
  intro pins s σ H x xs v us Q I rx rxs hh
  obtain ⟨ι, hid, h, d, ds, hr, r1, rs, r, h', e, dn⟩ := hh
  unfold mth at e
  split at e <;> try contradiction
  rename_i n i _
  split at e <;> try contradiction
  rename_i es hn
  split at e <;> try contradiction
  rename_i k hk
  split at e <;> try contradiction
  rename_i z hz
  injection e with e1 e2
  subst e1 e2
  obtain ⟨w0, rfl, r2⟩ := reps1 rs
  obtain ⟨a, vs, rfl, e3, e4, e5⟩ := ref_lst hr r1 hn
  obtain ⟨w, e6, e7⟩ := e5.get hz
  obtain ⟨h1, h2, h3, h4⟩ := ixN_seq (show ixN es.length i = some k from hk)
  have hl : vs.length ≤ sizeLine := (I.lstM e4).1
  have hn' := line63
  have hl2 := e5.length
  refine mt_popAt pins s σ H _ _ v us Q I rx rxs ⟨a, vs, i, k, w, rfl, by rw [r2.int], e4, by omega, by omega, by rw [← hl2]; exact h1, e6, ?_⟩
  have kk := Kp.write (ι := ι) (H := H) (u := .lst (vs.eraseIdx k)) e3
  exact dn _ _ kk (hr.write e3 ⟨_, rfl, e5.erase k⟩) (mk0 (.inl (e7.keep kk)))
theorem extend_ok : MtR X "list.extend" (rMtD S .extend) := by
  intro pins s σ H x xs v us Q I rx rxs hh
  obtain ⟨ι, hid, h, d, ds, hr, r1, rs, r, h', e, dn⟩ := hh
  unfold mth at e
  split at e <;> try contradiction
  rename_i n y
  split at e <;> try contradiction
  rename_i es fs hn hy
  split at e <;> try contradiction
  rename_i hc
  simp only [decide_eq_true_eq] at hc
  injection e with e1 e2
  subst e1 e2
  obtain ⟨w, rfl, r2⟩ := reps1 rs
  obtain ⟨a, vs, rfl, e3, e4, e5⟩ := ref_lst hr r1 hn
  obtain ⟨b, ws, rfl, b1, b2⟩ := r2.listOf hr hy
  cases rx
  obtain ⟨u, rfl, ru⟩ := rxs.one
  cases ru
  obtain ⟨z, its, m, rv, hl, e⟩ := I.lstM e4
  obtain ⟨z2, its2, m2, rv2, eo2⟩ := Inv.rdl I b1
  have hl2 := rv2.length
  have q1 := e5.length
  have q2 := b2.length
  have hz : its.toArray.size + its2.toArray.size ≤ sizeLine := by
    rw [List.size_toArray, List.size_toArray]
    exact lenline (by omega)
  have hlong : ¬ (!its.toArray.isEmpty && Builtin.List.listTooLong (its.toArray.size + its2.toArray.size)) = true := by
    rw [notLongL hz, Bool.and_false]
    exact Bool.false_ne_true
  refine call_meets F.slot_list_extend ⟨_, e, rfl⟩ F.entry_list_extend (F.args_list_extend_2 _ _)
    (AutoSeq1.list_extend_list_list_0 a its.toArray m b its2.toArray m2 hlong (by rw [List.size_toArray]; omega) (by omega)) ⟨e, eo2, ?_⟩
  have k := Kp.write (ι := ι) (H := H) (u := .lst (vs ++ ws)) e3
  refine ⟨.non, _, I.lset (its' := its ++ its2) e4 e (by simp) (rv.append rv2) ?_, rfl, dn _ _ k (hr.write e3 ⟨_, rfl, e5.append b2⟩) (mk0 (.inl .non))⟩
  rw [List.length_append]
  exact lenline (by omega)
theorem count_eq (ds : List D) (x : D) (hx : x.ok 30 = true) (h : ds.all (D.ok 30) = true) : (toPys ds).countP (fun y => PyData.eqv y (toPy x)) = (ds.filter fun z => D.eqv z x).length := by
  induction ds with
  | nil => rfl
  | cons d ds ih =>
    simp only [List.all_cons, Bool.and_eq_true] at h
    show (toPy d :: toPys ds).countP _ = _
    rw [List.countP_cons, ih h.2, List.filter_cons, eqv_py d x ⟨30, h.1⟩ ⟨30, hx⟩]
    split
    · rfl
    · rfl
theorem count_ok (hK : X.K = S.K) (hu : X.A.units + 65 < cLine) : MtR X "list.count" (rMtD S .count) := by
  intro pins s σ H x xs v us Q I rx rxs hh
  obtain ⟨ι, hid, h, d, ds, hr, r1, rs, r, h', e, dn⟩ := hh
  unfold mth at e
  split at e <;> try contradiction
  rename_i y _
  split at e <;> try contradiction
  rename_i es hn
  split at e <;> try contradiction
  rename_i hc
  rw [Bool.and_eq_true] at hc
  injection e with e1 e2
  subst e1 e2
  obtain ⟨w, rfl, r2⟩ := reps1 rs
  have r2 : RepN S ι hid H y w := by
    rcases r2 with r2 | ⟨_, _, rfl, _⟩
    · exact r2
    · cases hc.1
  obtain ⟨a, vs, rfl, b1, b2⟩ := r1.listOf hr hn
  cases rx
  obtain ⟨u, rfl, ru⟩ := rxs.one
  obtain ⟨c1, c2, c3⟩ := ok_dp 30 y w hc.1 r2
  obtain ⟨d1, d2, d3⟩ := oks_dp es vs hc.2 b2
  rw [← hK] at c1 d1
  obtain ⟨its, rv, hl, hz⟩ := I.list (.inl b1)
  obtain ⟨as, k1⟩ := Dp.reads I _ w u c1 ru
  obtain ⟨bs, k2⟩ := Dp.readsAll I _ _ its d1 rv
  refine SeqAt.count_list_data hl.isList (vs := its.toArray) k2 k1 (PyData.plainAll_of_canLay0 _ d2) (PyData.plain_of_canLay0 _ c2) ?_ ?_
  · have := Nat.min_le_right (PyData.depthAll (toPys es)) (toPy y).depth
    omega
  · rw [count_eq es y hc.1 hc.2]
    exact ⟨.int _, H, I.tok _, ⟨_, rfl⟩, dn _ _ Kp.refl hr (mk0 (.inl (.int _)))⟩
theorem findIdx_at {ds : List D} {x : D} {k : Nat} (hx : x.ok 30 = true) (h : ds.all (D.ok 30) = true) (e : ds.findIdx? (fun z => D.eqv z x) = some k) :
    ∃ z, (toPys ds)[k]? = some z ∧ PyData.eqv z (toPy x) = true ∧ ∀ (m : Nat) (z' : PyData), m < k → (toPys ds)[m]? = some z' → PyData.eqv z' (toPy x) = false := by
  rw [toPys_map]
  obtain ⟨hk, h1, h2⟩ := List.findIdx?_eq_some_iff_getElem.mp e
  refine ⟨toPy ds[k], by rw [List.getElem?_map, List.getElem?_eq_getElem hk]; rfl, ?_, fun m z' hm hz => ?_⟩
  · rw [eqv_py _ x ⟨30, List.all_eq_true.mp h _ (List.getElem_mem hk)⟩ ⟨30, hx⟩]
    exact h1
  · have hm' : m < ds.length := Nat.lt_trans hm hk
    rw [List.getElem?_map, List.getElem?_eq_getElem hm'] at hz
    have hz : some (toPy ds[m]) = some z' := hz
    injection hz with hz
    rw [← hz, eqv_py _ x ⟨30, List.all_eq_true.mp h _ (List.getElem_mem hm')⟩ ⟨30, hx⟩]
    simpa using h2 m hm
theorem indexm_ok (hK : X.K = S.K) (hu : X.A.units + 65 < cLine) : MtR X "list.index" (rMtD S .index) := by
  intro pins s σ H x xs v us Q I rx rxs hh
  obtain ⟨ι, hid, h, d, ds, hr, r1, rs, r, h', e, dn⟩ := hh
  unfold mth at e
  split at e <;> try contradiction
  rename_i y _
  split at e <;> try contradiction
  rename_i es hn
  split at e <;> try contradiction
  rename_i hc
  rw [Bool.and_eq_true] at hc
  cases hf : es.findIdx? (fun z => D.eqv z y) with
  | none => rw [hf] at e; cases e
  | some k =>
    rw [hf] at e
    have e : Res.ok (D.int k) h = Res.ok r h' := e
    injection e with e1 e2
    subst e1 e2
    obtain ⟨w, rfl, r2⟩ := reps1 rs
    have r2 : RepN S ι hid H y w := by
      rcases r2 with r2 | ⟨_, _, rfl, _⟩
      · exact r2
      · cases hc.1
    obtain ⟨a, vs, rfl, b1, b2⟩ := r1.listOf hr hn
    obtain ⟨c1, c2, c3⟩ := ok_dp 30 y w hc.1 r2
    obtain ⟨d1, d2, d3⟩ := oks_dp es vs hc.2 b2
    rw [← hK] at c1 d1
    obtain ⟨z, f1, f2, f3⟩ := findIdx_at hc.1 hc.2 hf
    exact mt_indexD hu pins s σ H _ _ v us Q I rx rxs ⟨a, w, _, _, k, z, rfl, rfl, .lst (.inl b1) d1, c1, shaped_of (n := 31) d2 (Nat.succ_le_succ d3) (by decide), shaped_of c2 c3 (by decide), f1, f2, f3, dn _ _ Kp.refl hr (mk0 (.inl (.int _)))⟩
/-! ### xs[i] = v -/
def rSetD (S : Sta) : V → V → V → Hp → (Hp → Prop) → Prop := fun o i v H Q => ∃ ι hid h a b c h', HRep S ι hid H h ∧ Rep S ι hid H a o ∧ Rep S ι hid H b i ∧ Rep S ι hid H c v ∧ setIx h a b c = some h' ∧ ∀ H', Kp ι H H' → HRep S ι hid H' h' → Q H'
theorem set_ok : PSet X (rSetD S) := by
  intro pins s σ H o i v ov iv u Q I ro ri rv hh
  obtain ⟨ι, hid, h, a, b, c, h', hr, r1, r2, r3, q, dn⟩ := hh
  unfold setIx at q
  split at q <;> try contradiction
  rename_i n k
  split at q <;> try contradiction
  rename_i es hn
  split at q <;> try contradiction
  rename_i hc
  obtain ⟨j, e1, e2⟩ := Option.map_eq_some_iff.mp q
  subst e2
  obtain ⟨p, vs, rfl, e3, e4, e5⟩ := ref_lst hr r1 hn
  rw [r2.int] at ri
  refine set_list pins s σ H _ _ v ov iv u Q I ro ri rv ⟨p, vs, k, j, rfl, rfl, e4, by rw [← e5.length]; exact e1, ?_⟩
  exact dn _ (Kp.write e3) (hr.write e3 ⟨_, rfl, e5.set (r3.noref (by simpa using hc)) j⟩)
end
end Rf
/-! Rf9 -/
set_option maxHeartbeats 1000000
/-! Rf9: what is wanted behind statements; a def's promise. -/
namespace Rf
open PySem PySem.Spec PyProof.Rows L2
/-- a later state: new mutable objects behind the old ones -/
structure Later (ι ι' : List Addr) (H H' : Hp) : Prop where
  pre : ∃ tl, ι' = ι ++ tl
  kp : Kp ι H H'
  nw : ∀ a ∈ ι', a ∉ ι → H a = none
section
variable {S : Sta} {ι ι' ι'' hid : List Addr} {H H' H'' : Hp} {h : AH}
theorem Later.of (k : Kp ι H H') : Later ι ι H H' := ⟨⟨[], by simp⟩, k, fun a x y => absurd x y⟩
theorem Later.refl : Later ι ι H H := .of Kp.refl
theorem Later.trans (a : Later ι ι' H H') (b : Later ι' ι'' H' H'') : Later ι ι'' H H'' := by
  obtain ⟨t1, rfl⟩ := a.pre
  obtain ⟨t2, rfl⟩ := b.pre
  refine ⟨⟨t1 ++ t2, by simp⟩, fun x o e n => ?_, fun x hx n => ?_⟩
  · refine b.kp x o (a.kp x o e n) fun hm => ?_
    have := a.nw x hm n
    rw [this] at e; cases e
  · by_cases hm : x ∈ ι ++ t1
    · exact a.nw x hm n
    · have q := b.nw x hx hm
      cases e : H x with
      | none => rfl
      | some o => rw [a.kp x o e n] at q; cases q
theorem Later.ix (a : Later ι ι' H H') {n : Nat} {x : Addr} (e : ι[n]? = some x) : ι'[n]? = some x := by
  obtain ⟨t, rfl⟩ := a.pre
  rw [List.getElem?_append_left (List.getElem?_eq_some_iff.mp e).1]
  exact e
theorem Later.stay (a : Later ι ι' H H') (x : HRep S ι hid H h) : Stay ι hid ι' hid H H' := fun p u r n1 n2 =>
  ⟨a.kp.rd r n1, fun hm => by
    have := a.nw p hm n1
    exact rd_ne r this rfl, n2⟩
theorem SRep.later (a : Later ι ι' H H') (x : HRep S ι hid H h) {σ : St'} {σc : L2.St} (r : SRep S ι hid H σ σc) : SRep S ι' hid H' σ σc := r.to' (a.stay x) fun _ _ => a.ix
theorem Rep.later (a : Later ι ι' H H') (x : HRep S ι hid H h) {d : D} {v : V} (r : Rep S ι hid H d v) : Rep S ι' hid H' d v := r.imp (RepN.to (a.stay x) _ _) fun ⟨n, p, x, y, z⟩ => ⟨n, p, x, y, a.ix z⟩
theorem Reps.later (a : Later ι ι' H H') (x : HRep S ι hid H h) : ∀ {d : List D} {v : List V}, Reps S ι hid H d v → Reps S ι' hid H' d v
  | _, _, .nil => .nil
  | _, _, .cons p q => .cons (p.later a x) (Reps.later a x q)
theorem Later.none (a : Later ι ι' H H') {h' : AH} (x : HRep S ι' hid H' h') {p : Addr} (n : H' p = none) : H p = none := by
  cases e : H p with
  | none => rfl
  | some o =>
    by_cases hm : p ∈ ι
    · obtain ⟨t, rfl⟩ := a.pre
      exact absurd n (x.trk' (List.mem_append_left _ hm))
    · rw [a.kp p o e hm] at n; cases n

/-! ### behind a statement -/
def PostS (S : Sta) (W : WX) (D : Ends) (ι hid : List Addr) (H : Hp) : Out → Prop
  | .nx σ h' => ∀ σc H' ι', Later ι ι' H H' → HRep S ι' hid H' h' → SRep S ι' hid H' σ σc → D.nx σc H'
  | .bk σ h' => ∀ σc H' ι', Later ι ι' H H' → HRep S ι' hid H' h' → SRep S ι' hid H' σ σc → D.bk σc H'
  | .ct σ h' => ∀ σc H' ι', Later ι ι' H H' → HRep S ι' hid H' h' → SRep S ι' hid H' σ σc → D.ct σc H'
  | .rt d fr h' => ∀ v H' ι', Later ι ι' H H' → HRep S ι' hid H' h' → RE S fr ι' hid H H' h' d v → D.rt v H'
  | .ex e σ h' => ∀ c dx σc H' ι', Later ι ι' H H' → HRep S ι' hid H' h' → SRep S ι' hid H' σ σc → ExRep S ι' hid H' e c dx → W c dx σc H'
  | .no => False
/-- a statement's reading by the evaluator -/
def tS (S : Sta) (W : WX) (m : St' → AH → Out) : TS := fun D σc H => ∃ σ h ι hid, SRep S ι hid H σ σc ∧ HRep S ι hid H h ∧ PostS S W D ι hid H (m σ h)
theorem RE.back {fr : Bool} (a : Later ι ι' H H') {h' : AH} (x : HRep S ι' hid H' h') {d : D} {v : V} {κ : List Addr} {g : AH} (r : RE S fr κ hid H' H'' g d v) : RE S fr κ hid H H'' g d v := ⟨r.1, fun e ds q => by
  obtain ⟨p, vs, e1, e2, e3, e4, e5⟩ := r.2 e ds q
  exact ⟨p, vs, e1, a.none x e2, e3, e4, e5⟩⟩
theorem PostS.back {W : WX} {D : Ends} {o : Out} (h : PostS S W D ι hid H o) (a : Later ι ι' H H') {h' : AH} (x : HRep S ι' hid H' h') : PostS S W D ι' hid H' o := by
  cases o with
  | nx σ g => exact fun σc H2 κ b => h σc H2 κ (a.trans b)
  | bk σ g => exact fun σc H2 κ b => h σc H2 κ (a.trans b)
  | ct σ g => exact fun σc H2 κ b => h σc H2 κ (a.trans b)
  | rt d fr g => exact fun v H2 κ b y r => h v H2 κ (a.trans b) y (r.back a x)
  | ex e σ g => exact fun c dx σc H2 κ b => h c dx σc H2 κ (a.trans b)
  | no => exact h
theorem PostS.ends {W : WX} {D D' : Ends} {o : Out} (h : PostS S W D ι hid H o) (n : ∀ σc H', D.nx σc H' → D'.nx σc H') (b : ∀ σc H', D.bk σc H' → D'.bk σc H') (c : ∀ σc H', D.ct σc H' → D'.ct σc H') (r : ∀ v H', D.rt v H' → D'.rt v H') : PostS S W D' ι hid H o := by
  cases o with
  | nx σ g => exact fun σc H2 κ x y z => n _ _ (h σc H2 κ x y z)
  | bk σ g => exact fun σc H2 κ x y z => b _ _ (h σc H2 κ x y z)
  | ct σ g => exact fun σc H2 κ x y z => c _ _ (h σc H2 κ x y z)
  | rt d fr g => exact fun v H2 κ x y z => r _ _ (h v H2 κ x y z)
  | ex e σ g => exact h
  | no => exact h
/-- an expression ahead of a statement's rest -/
theorem Post.out {α β : Type} {R1 : List Addr → List Addr → Hp → Hp → AH → α → β → Prop} {W : WX} {D : Ends} {σ : St'} {σc : L2.St} {r : Res α} {f : α → AH → Out} (sr : SRep S ι hid H σ σc) (hr : HRep S ι hid H h) (q : PostS S W D ι hid H (r.out σ f)) :
    Post S R1 W ι hid σc H r (fun b H1 => ∃ a h1, Kp ι H H1 ∧ HRep S ι hid H1 h1 ∧ R1 ι hid H H1 h1 a b ∧ PostS S W D ι hid H1 (f a h1)) := by
  cases r with
  | ok a h1 => exact fun b H1 k x r => ⟨a, h1, k, x, r, PostS.back (o := f a h1) q (.of k) x⟩
  | ex e h1 => exact fun c dx H1 k x r => q c dx σc H1 ι (.of k) x (sr.keep k) r
  | no => exact q

/-! ### a def's promise -/
def frOf (P : Prg) (f : Nat) : Bool := match P.defs f with
  | some F => F.fresh
  | none => false
def spD (S : Sta) (P : Prg) (k f : Nat) : Sp := fun vs H Q E => ∃ ι hid h ds, HRep S ι hid H h ∧ Reps S ι hid H ds vs ∧ Post S (RE S (frOf P f)) (fun c dx _ H' => E c dx H') ι hid ([] : L2.St) H (Rf.call P k f ds h) Q
theorem HRep.down {t hid' : List Addr} {h' : AH} (x : HRep S (ι ++ t) hid H h') (st : Stay (ι ++ t) hid ι hid' H H) (dj : ∀ a ∈ hid', a ∉ ι) (tr : ∀ a ∈ hid', H a ≠ none) : HRep S ι hid' H (h'.take ι.length) := by
  have hl := x.len
  rw [List.length_append] at hl
  refine ⟨by rw [List.length_take]; omega, (List.nodup_append.mp x.nd).1, fun m a o e1 e2 => ?_, dj, tr⟩
  have hm : m < ι.length := (List.getElem?_eq_some_iff.mp e1).1
  obtain ⟨u, h1, h2⟩ := x.obj m a o (by rw [List.getElem?_append_left hm]; exact e1) (by rw [List.getElem?_take] at e2; split at e2 <;> first | exact e2 | cases e2)
  exact ⟨u, h1, h2.to st⟩
theorem stay_front {t : List Addr} : Stay (ι ++ t) hid ι hid H H := fun a u r n1 n2 => ⟨r, fun z => n1 (List.mem_append_left _ z), n2⟩
theorem HRep.take (l : Later ι ι' H H') (x0 : HRep S ι hid H h) {h' : AH} {hid' : List Addr} (x : HRep S ι' hid' H' h') : HRep S ι hid' H' (h'.take h.length) := by
  obtain ⟨t, rfl⟩ := l.pre
  rw [← x0.len]
  exact x.down stay_front (fun a ha z => x.dj a ha (List.mem_append_left _ z)) x.trk
theorem ExRep.to {e : Exc} {c : Value} {dx : Option Addr} (k : Stay ι hid ι' hid H H') (ex : ∀ a u, dx = some a → H a = some u → H' a = some u) (r : ExRep S ι hid H e c dx) : ExRep S ι' hid H' e c dx := by
  obtain ⟨C, a1, a2, a3⟩ := r
  refine ⟨C, a1, a2, ?_⟩
  cases q : e.arg with
  | none => trivial
  | some d =>
    rw [q] at a3
    obtain ⟨f, a, v, b1, b2, b3, b4⟩ := a3
    exact ⟨f, a, v, b1, b2, ex _ _ b2 b3, RepN.to k _ _ b4⟩
theorem close_ok {fr : Bool} {W : WX} {Q : VK} {σc : L2.St} (hr : HRep S ι hid H h) {o : Out} (q : Post S (RE S fr) W ι hid σc H (close h.length fr o) Q) :
    PostS S (fun c dx _ H' => W c dx σc H') { nx := fun _ H' => Q .non H', rt := Q } ι hid H o := by
  have down : ∀ {ι' : List Addr} {H' : Hp}, Later ι ι' H H' → Stay ι' hid ι hid H' H' := fun l a u r n1 n2 => by
    obtain ⟨t, rfl⟩ := l.pre
    exact ⟨r, fun z => n1 (List.mem_append_left _ z), n2⟩
  cases o with
  | nx σ g =>
    intro σc' H' ι' l x y
    have q : Post S (RE S fr) W ι hid σc H (if fr then .no else .ok .non (g.take h.length)) Q := q
    cases fr with
    | true => exact False.elim q
    | false => exact q .non H' l.kp (hr.take l x) (mk0 (.inl .non))
  | ex e σ g => exact fun c dx σc' H' ι' l x y r => q c dx H' l.kp (hr.take l x) (r.to (down l) fun _ _ _ e => e)
  | bk σ g => exact False.elim q
  | ct σ g => exact False.elim q
  | no => exact q
  | rt d f g =>
    intro v H' ι' l x r
    have gen : (∀ n, d ≠ .ref n) → Post S (RE S fr) W ι hid σc H (if fr && !f then .no else .ok d (g.take h.length)) Q → Q v H' := fun nr q => by
      cases hc : (fr && !f) with
      | true => rw [hc] at q; exact False.elim q
      | false =>
        rw [hc] at q
        obtain ⟨r1, r2⟩ := r
        have rn : RepN S ι' hid H' d v := by
          rcases r1 with r1 | ⟨n, a, e, _⟩
          · exact r1
          · exact absurd e (nr n)
        refine q v H' l.kp (hr.take l x) ⟨.inl (RepN.to (down l) _ _ rn), fun ef ds ed => ?_⟩
        have hf : f = true := by
          rw [ef] at hc
          cases f with
          | true => rfl
          | false => cases hc
        obtain ⟨p, vs, e1, e2, e3, e4, e5⟩ := r2 hf ds ed
        refine ⟨p, vs, e1, e2, e3, RepNs.to (fun a u r n1 n2 => ?_) _ _ e4, hr.take l e5⟩
        obtain ⟨t, rfl⟩ := l.pre
        exact ⟨r, fun z => n1 (List.mem_append_left _ z), n2⟩
    cases d with
    | ref n =>
      have q : Post S (RE S fr) W ι hid σc H (if n < h.length then (if fr then .no else .ok (.ref n) (g.take h.length)) else (match g[n]? with
        | some (.lst ds) => .ok (.lst ds) (g.take h.length)
        | _ => .no)) Q := q
      obtain ⟨a, rfl, ea⟩ := Rep.ref r.1
      obtain ⟨t, rfl⟩ := l.pre
      by_cases hn : n < h.length
      · rw [if_pos hn] at q
        cases fr with
        | true => exact False.elim q
        | false => exact q _ H' l.kp (hr.take l x) (mk0 (.inr ⟨n, a, rfl, rfl, by rw [List.getElem?_append_left (by rw [hr.len]; exact hn)] at ea; exact ea⟩))
      · rw [if_neg hn] at q
        obtain ⟨o, u, e1, e2, e3⟩ := x.at ea
        rw [e1] at q
        cases o with
        | dct _ _ => exact False.elim q
        | ins _ _ => exact False.elim q
        | lst ds =>
          obtain ⟨vs, e4, e5⟩ := e3
          subst e4
          have hm : a ∈ ι ++ t := List.mem_of_getElem? ea
          have ha : a ∉ ι := fun z => by
            obtain ⟨m, hm'⟩ := List.mem_iff_getElem?.mp z
            have hlt : m < ι.length := (List.getElem?_eq_some_iff.mp hm').1
            have e := (List.getElem?_inj (show m < (ι ++ t).length by rw [List.length_append]; omega) x.nd).mp (show (ι ++ t)[m]? = (ι ++ t)[n]? by rw [ea, List.getElem?_append_left hlt, hm'])
            rw [hr.len] at hlt
            omega
          have hh : a ∉ hid := fun z => x.dj a z hm
          refine q _ H' l.kp (hr.take l x) ⟨.inl (.lst ⟨.inl e2, ha, hh⟩ (RepNs.to (down l) _ _ e5)), fun _ ds' ed => ?_⟩
          cases ed
          have st : Stay (ι ++ t) hid ι (a :: hid) H' H' := fun b u r n1 n2 => ⟨r, fun z => n1 (List.mem_append_left _ z), fun z => by
            rcases List.mem_cons.mp z with rfl | z
            · exact n1 hm
            · exact n2 z⟩
          refine ⟨a, vs, rfl, l.nw a hm ha, e2, RepNs.to st _ _ e5, ?_⟩
          rw [← hr.len]
          exact x.down st (fun b hb => (List.mem_cons.mp hb).elim (fun e => e ▸ ha) fun hb z => x.dj b hb (List.mem_append_left _ z)) fun b hb => (List.mem_cons.mp hb).elim (fun e => by rw [e, e2]; intro z; cases z) (x.trk b)
    | _ => exact gen (fun _ z => by cases z) q
end

/-! ### calls -/
section
variable {X : Cx} {k : Nat} {f : Addr} {fd : FuncData} {ps : List Str} {sp : Sp} {W : WX} {x : Str} {p pos : Pos} {e : Expr} {es : List Expr} {t : TA}
theorem run_fnW {pins : List (Addr × Obj)} {σ : L2.St} {H : Hp} {s : Shared} {Q : VK} {us : List Value} {vs : List V} (F : FnOk X.prog X.w X.K X.mg X.base (L2.CX X.prog X.w) k f fd ps sp) (hr : Room k X.A) (hb : Binds X.K fd ps []) (tk : Takes X W)
    (I : Inv X pins σ H s) (r : Vals vs us) (h : sp vs H Q fun c dx H' => W c dx σ H') : wpAny (model X.prog X.w) X.A (PySem.call (.ref f) us) (EP X pins σ Q) X.xe s := by
  have hl : us.length = ps.length := by rw [← r.length]; exact F.len _ _ _ _ h
  have hb' := hb s us I.kIn (by rw [List.append_nil]; exact hl)
  rw [List.append_nil] at hb'
  refine wpAny_call (codeAny_mono (F.run X.A X.stack s H ⟨us, []⟩ us vs Q _ hr I.env0 hb' r h) fun q s' hq => ?_)
  cases q with
  | error e => exact tk e s' (XE.of_call I (fun _ _ _ z => z) hq)
  | ok fl =>
    cases fl with
    | ret u => exact I.after hq
    | next => exact False.elim hq
    | brk => exact False.elim hq
    | cont => exact False.elim hq
def tCallW (sp : Sp) (W : WX) (t : TA) : TE := fun σ H Q => t σ H fun vs H1 => sp vs H1 Q fun c dx H' => W c dx σ H'
/-- f(e, ..), f a def of the module -/
theorem pe_callW (F : FnOk X.prog X.w X.K X.mg X.base (L2.CX X.prog X.w) k f fd ps sp) (hr : Room k X.A) (hg : Gl X x) (hm : X.mg x = some (.ref f)) (hk : PySem.W.keepIn X.K (.ref f) = true) (hb : Binds X.K fd ps []) (tk : Takes X W)
    (ha : PA X (e :: es) t) (hdb : (x == ("__debug__" : Str)) = false) (he : starEach (e :: es) X.env = (false, eval e X.env) :: starEach es X.env) (hpl : (backTo pos (starEach es X.env)).any (·.1) = false) :
    PE X (.Call (.Name x p) (e :: es) [] pos) (tCallW sp W t) :=
  ⟨fun pins s σ H Q I h => wpAny_Call_Name_kw (ld_glob I hg hm (PySem.W.callWith_K (h₀ := X.base) I.ok.mod.kin hk (thn (ha.run pos pins s σ H _ I h) fun us s1 ⟨vs, H1, I1, r, q⟩ => ⟨I1.kIn, run_fnW F hr hb tk I1 r q⟩) he hpl) hdb)⟩
end
end Rf
/-! Rf10 -/
set_option maxHeartbeats 1000000
/-! Rf10: targets, what is walked, loops, comprehensions. -/
namespace Rf
open PySem PySem.Spec PyProof.Rows L2
mutual
def T.slots : T → List Nat
  | .nm i => [i]
  | .tp ts => T.slotss ts
def T.slotss : List T → List Nat
  | [] => []
  | t :: ts => t.slots ++ T.slotss ts
end
theorem wipe_set {σ : L2.St} {i : Nat} {x : Option V} : ∀ {vs : List Nat}, i ∈ vs → wipe (σ.set i x) vs = wipe σ vs
  | v :: vs, h => by
    unfold wipe
    by_cases e : v = i
    · subst e
      by_cases h2 : v ∈ vs
      · rw [wipe_set h2]
      · have go : ∀ ws : List Nat, wipe (σ.set v x) ws = (wipe σ ws).set v (wipe (σ.set v x) ws)[v]?.join ∨ v ∈ ws := fun ws => by
          by_cases hw : v ∈ ws
          · exact .inr hw
          · left
            induction ws with
            | nil =>
              unfold wipe
              by_cases hl : v < σ.length
              · rw [List.getElem?_set_self hl]; rfl
              · rw [List.set_eq_of_length_le (by omega), List.set_eq_of_length_le (by omega)]
            | cons w ws ih =>
              have hne : v ≠ w := fun z => hw (by rw [z]; exact List.mem_cons_self)
              have hnw : v ∉ ws := fun z => hw (List.mem_cons_of_mem _ z)
              unfold wipe
              rw [List.getElem?_set_ne (Ne.symm hne), List.set_comm _ _ (Ne.symm hne), ← ih hnw]
        rcases go vs with e | e
        · rw [e, List.set_set]
        · exact absurd e h2
    · rw [wipe_set (vs := vs) ((List.mem_cons.mp h).resolve_left (Ne.symm e))]
section
variable {S : Sta}
def gT (S : Sta) (t : T) : TG := fun v σc H Q => ∃ σ h ι hid d σ', SRep S ι hid H σ σc ∧ HRep S ι hid H h ∧ Rep S ι hid H d v ∧ assign t d σ = some σ' ∧
  ∀ σc', SRep S ι hid H σ' σc' → (∀ vs : List Nat, (∀ i ∈ t.slots, i ∈ vs) → wipe σc' vs = wipe σc vs) → Q σc' H
def gTs (S : Sta) (ts : List T) : TGs := fun vs σc H Q => ∃ σ h ι hid ds σ', SRep S ι hid H σ σc ∧ HRep S ι hid H h ∧ Reps S ι hid H ds vs ∧ assigns ts ds σ = some σ' ∧
  ∀ σc', SRep S ι hid H σ' σc' → (∀ vs : List Nat, (∀ i ∈ T.slotss ts, i ∈ vs) → wipe σc' vs = wipe σc vs) → Q σc' H
theorem gT_nm {i : Nat} {v : V} {σc : L2.St} {H : Hp} {Q : L2.St → Hp → Prop} (h : gT S (.nm i) v σc H Q) : gName i v σc H Q := by
  obtain ⟨σ, h, ι, hid, d, σ', sr, hr, r, e, q⟩ := h
  have e : some (σ.set i (some d)) = some σ' := e
  cases e
  exact q _ (sr.set r) fun vs hv => wipe_set (hv i (List.mem_singleton.mpr rfl))
theorem gTs_nil {v : List V} {σc : L2.St} {H : Hp} {Q : L2.St → Hp → Prop} (h : gTs S [] v σc H Q) : gNil v σc H Q := by
  obtain ⟨σ, h, ι, hid, d, σ', sr, hr, r, e, q⟩ := h
  cases d with
  | nil =>
    have e : some σ = some σ' := e
    cases e
    cases r
    exact ⟨rfl, q _ sr fun _ _ => rfl⟩
  | cons _ _ => cases e
theorem gTs_cons {t : T} {ts : List T} {g : TG} {gs : TGs} (hg : ∀ v σc H Q, gT S t v σc H Q → g v σc H Q) (hgs : ∀ v σc H Q, gTs S ts v σc H Q → gs v σc H Q) {v : List V} {σc : L2.St} {H : Hp} {Q : L2.St → Hp → Prop} (h : gTs S (t :: ts) v σc H Q) : gCons g gs v σc H Q := by
  obtain ⟨σ, h, ι, hid, d, σ', sr, hr, r, e, q⟩ := h
  cases r with
  | nil => cases e
  | @cons d v ds vs r1 r2 =>
    have e : (match assign t d σ with
      | some σ1 => assigns ts ds σ1
      | none => none) = some σ' := e
    cases e1 : assign t d σ with
    | none => rw [e1] at e; cases e
    | some σ1 =>
      rw [e1] at e
      refine ⟨v, vs, rfl, hg _ _ _ _ ⟨σ, h, ι, hid, d, σ1, sr, hr, r1, e1, fun σc1 s1 w1 => hgs _ _ _ _ ⟨σ1, h, ι, hid, ds, σ', s1, hr, r2, e, fun σc2 s2 w2 => q σc2 s2 fun vs hv => ?_⟩⟩⟩
      rw [w2 vs fun i hi => hv i (List.mem_append_right _ hi), w1 vs fun i hi => hv i (List.mem_append_left _ hi)]
theorem assigns_len : ∀ {ts : List T} {ds : List D} {σ σ' : St'}, assigns ts ds σ = some σ' → ds.length = ts.length
  | [], [], _, _, _ => rfl
  | [], _ :: _, _, _, h => by cases h
  | _ :: _, [], _, _, h => by cases h
  | t :: ts, d :: ds, σ, σ', h => by
    have h : (match assign t d σ with
      | some σ1 => assigns ts ds σ1
      | none => none) = some σ' := h
    cases e1 : assign t d σ with
    | none => rw [e1] at h; cases h
    | some σ1 => rw [e1] at h; exact congrArg (· + 1) (assigns_len h)
theorem gT_tp {K : PySem.W.Frag} (hK : K = S.K) {ts : List T} {gs : TGs} (hgs : ∀ v σc H Q, gTs S ts v σc H Q → gs v σc H Q) {v : V} {σc : L2.St} {H : Hp} {Q : L2.St → Hp → Prop} (h : gT S (.tp ts) v σc H Q) : gTup K ts.length gs v σc H Q := by
  obtain ⟨σ, h, ι, hid, d, σ', sr, hr, r, e, q⟩ := h
  cases d with
  | tup ds =>
    have e : assigns ts ds σ = some σ' := e
    obtain ⟨a, vs, rfl, b1, b2⟩ := r.tup
    exact ⟨a, vs, rfl, by rw [hK]; exact b1.sq, by rw [← b2.length, assigns_len e], hgs _ _ _ _ ⟨σ, h, ι, hid, ds, σ', sr, hr, b2.reps, e, q⟩⟩
  | _ => cases e
end

/-! ### what is walked -/
/-- the iterator goes over what ds stand for -/
def Iter (S : Sta) (ι hid : List Addr) (H : Hp) (J : It) (ds : List D) : Prop := ∀ (i : Nat) (ι' hid' : List Addr) (H' : Hp) (h' : AH), Stay ι hid ι' hid' H H' → HRep S ι' hid' H' h' →
  (∀ d, ds[i]? = some d → J.go i H' ∧ ∀ x H'', J.yld i H' x H'' → Kp ι' H' H'' ∧ (∀ D u, H' D = some u → H'' D = some u) ∧ HRep S ι' hid' H'' h' ∧ RepN S ι' hid' H'' d x) ∧ (ds.length ≤ i → J.stop i H')
def iD (S : Sta) (W : WX) (s : Src) (m : St' → AH → Res (List D)) : TI := fun σc H R => ∃ σ h ι hid, SRep S ι hid H σ σc ∧ HRep S ι hid H h ∧
  Post S (RA S) W ι hid σc H (m σ h) (fun vs H1 => ∃ as h1 ds, Kp ι H H1 ∧ HRep S ι hid H1 h1 ∧ Reps S ι hid H1 as vs ∧ items s as = some ds ∧ ∀ J, Iter S ι hid H1 J ds → R J H1)
section
variable {S : Sta} {ι hid : List Addr} {H : Hp}
theorem iter_list {K : PySem.W.Frag} {a : Addr} {ds : List D} {vs : List V} (b1 : LstAt ι hid H a vs) (b2 : RepNs S ι hid H ds vs) : Iter S ι hid H (Itl K a) ds := by
  intro i ι' hid' H' h' st hr
  obtain ⟨r1, r2, r3⟩ := st a _ b1.1 b1.2.1 b1.2.2
  have q : SqL K H' a vs := .inl r1
  have b3 := RepNs.to st _ _ b2
  refine ⟨fun d e => ?_, fun hl => ⟨vs, q, by rw [← b2.length]; exact hl⟩⟩
  obtain ⟨v, e1, e2⟩ := b3.get e
  refine ⟨⟨vs, v, q, e1⟩, fun x H'' y => ?_⟩
  obtain ⟨rfl, y⟩ := y
  have := y vs q
  rw [e1] at this
  cases this
  exact ⟨Kp.refl, fun _ _ e => e, hr, e2⟩
theorem tupAt_to {ι' hid' : List Addr} {H' : Hp} (st : Stay ι hid ι' hid' H H') {a : Addr} {vs : List V} (b : TupAt S.K ι hid H a vs) : TupAt S.K ι' hid' H' a vs := b.imp (fun ⟨x, y, z⟩ => st _ _ x y z) id
theorem iter_tup {K : PySem.W.Frag} (hK : K = S.K) {a : Addr} {ds : List D} {vs : List V} (b1 : TupAt S.K ι hid H a vs) (b2 : RepNs S ι hid H ds vs) : Iter S ι hid H (Itt K a) ds := by
  subst hK
  intro i ι' hid' H' h' st hr
  have q : SqT S.K H' a vs := (tupAt_to st b1).sq
  have b3 := RepNs.to st _ _ b2
  refine ⟨fun d e => ?_, fun hl => ⟨vs, q, by rw [← b2.length]; exact hl⟩⟩
  obtain ⟨v, e1, e2⟩ := b3.get e
  refine ⟨⟨vs, v, q, e1⟩, fun x H'' y => ?_⟩
  obtain ⟨rfl, y⟩ := y
  have := y vs q
  rw [e1] at this
  cases this
  exact ⟨Kp.refl, fun _ _ e => e, hr, e2⟩
theorem rngs_len (lo : Int) (n : Nat) : (rngs lo n).length = n := by unfold rngs; simp
theorem iter_rng {lo : Int} {n : Nat} : Iter S ι hid H (Itr lo n) (rngs lo n) := by
  intro i ι' hid' H' h' st hr
  refine ⟨fun d e => ?_, fun hl => by rw [rngs_len] at hl; exact hl⟩
  have hi : i < n := by
    have := (List.getElem?_eq_some_iff.mp e).1
    rw [rngs_len] at this
    exact this
  refine ⟨hi, fun x H'' y => ?_⟩
  obtain ⟨rfl, rfl⟩ := y
  have e2 : d = .int (lo + i) := by
    unfold rngs at e
    rw [List.getElem?_map, List.getElem?_range hi] at e
    exact (Option.some.inj e).symm
  subst e2
  exact ⟨Kp.refl, fun _ _ e => e, hr, .int _⟩
theorem new_pair {ι' hid' : List Addr} {H' : Hp} {h' : AH} (hr : HRep S ι' hid' H' h') {T : Addr} (n : H' T = none) {d e : D} {x y : V} (r1 : RepN S ι' hid' H' d x) (r2 : RepN S ι' hid' H' e y) :
    Kp ι' H' (upd H' T (.tup [x, y])) ∧ (∀ D u, H' D = some u → (upd H' T (.tup [x, y])) D = some u) ∧ HRep S ι' hid' (upd H' T (.tup [x, y])) h' ∧ RepN S ι' hid' (upd H' T (.tup [x, y])) (.tup [d, e]) (.ref T) := by
  have k : Kp ι' H' (upd H' T (.tup [x, y])) := Kp.new n
  exact ⟨k, fun D u e => by rw [upd_ne (ne_of_none e n)]; exact e, hr.new n, .tup (.inl ⟨.inl upd_same, hr.nin n⟩) (.cons (r1.keep k) (.cons (r2.keep k) .nil))⟩
theorem enums_get : ∀ (ds : List D) (n i : Nat) {d : D}, (enums n ds)[i]? = some d → ∃ x, ds[i]? = some x ∧ d = .tup [.int ((n + i : Nat) : Int), x]
  | [], _, _, _, e => by cases e
  | y :: ys, n, 0, d, e => by
    have e : some (D.tup [.int n, y]) = some d := e
    cases e
    exact ⟨y, rfl, rfl⟩
  | y :: ys, n, i + 1, d, e => by
    obtain ⟨x, e1, e2⟩ := enums_get ys (n + 1) i (d := d) e
    exact ⟨x, e1, by rw [e2, show n + 1 + i = n + (i + 1) by omega]⟩
theorem enums_len : ∀ (ds : List D) (n : Nat), (enums n ds).length = ds.length
  | [], _ => rfl
  | _ :: ys, n => congrArg (· + 1) (enums_len ys (n + 1))
theorem iter_enum {K : PySem.W.Frag} {a : Addr} {ds : List D} {vs : List V} (b1 : LstAt ι hid H a vs) (b2 : RepNs S ι hid H ds vs) : Iter S ι hid H (Ite K a) (enums 0 ds) := by
  intro i ι' hid' H' h' st hr
  obtain ⟨r1, r2, r3⟩ := st a _ b1.1 b1.2.1 b1.2.2
  have q : SqL K H' a vs := .inl r1
  have b3 := RepNs.to st _ _ b2
  refine ⟨fun d e => ?_, fun hl => ⟨vs, q, by rw [← b2.length]; rw [enums_len] at hl; exact hl⟩⟩
  obtain ⟨z, e0, rfl⟩ := enums_get ds 0 i e
  obtain ⟨v, e1, e2⟩ := b3.get e0
  refine ⟨⟨vs, v, q, e1⟩, fun x H'' y => ?_⟩
  obtain ⟨T, w, rfl, n, rfl, y⟩ := y
  have := y vs q
  rw [e1] at this
  cases this
  rw [Nat.zero_add]
  exact new_pair hr n (.int _) e2
theorem zips_get : ∀ (as bs : List D) (i : Nat) {d : D}, (zips as bs)[i]? = some d → ∃ x y, as[i]? = some x ∧ bs[i]? = some y ∧ d = .tup [x, y]
  | [], _, _, _, e => by cases e
  | _ :: _, [], _, _, e => by cases e
  | a :: as, b :: bs, 0, d, e => by
    have e : some (D.tup [a, b]) = some d := e
    cases e
    exact ⟨a, b, rfl, rfl, rfl⟩
  | a :: as, b :: bs, i + 1, d, e => zips_get as bs i (d := d) e
theorem zips_len : ∀ (as bs : List D), (zips as bs).length = min as.length bs.length
  | [], _ => by simp [zips]
  | _ :: _, [] => by simp [zips]
  | a :: as, b :: bs => by
    show (zips as bs).length + 1 = _
    rw [zips_len as bs, List.length_cons, List.length_cons]
    omega
theorem iter_zipL {K : PySem.W.Frag} {a b : Addr} {ds es : List D} {vs ws : List V} (b1 : LstAt ι hid H a vs) (b2 : RepNs S ι hid H ds vs) (c1 : LstAt ι hid H b ws) (c2 : RepNs S ι hid H es ws) : Iter S ι hid H (Itz K a b) (zips ds es) := by
  intro i ι' hid' H' h' st hr
  have q : SqL K H' a vs := .inl (st a _ b1.1 b1.2.1 b1.2.2).1
  have p : SqL K H' b ws := .inl (st b _ c1.1 c1.2.1 c1.2.2).1
  have b3 := RepNs.to st _ _ b2
  have c3 := RepNs.to st _ _ c2
  refine ⟨fun d e => ?_, fun hl => ⟨vs, ws, q, p, by rw [← b2.length, ← c2.length]; rw [zips_len] at hl; omega⟩⟩
  obtain ⟨z, z', e0, e0', rfl⟩ := zips_get ds es i e
  obtain ⟨v, e1, e2⟩ := b3.get e0
  obtain ⟨v', e1', e2'⟩ := c3.get e0'
  refine ⟨⟨vs, ws, v, v', q, p, e1, e1'⟩, fun x H'' y => ?_⟩
  obtain ⟨T, w, w', rfl, n, rfl, y, y'⟩ := y
  have y := y vs q
  have y' := y' ws p
  rw [e1] at y
  rw [e1'] at y'
  cases y
  cases y'
  exact new_pair hr n e2 e2'
theorem iter_zipT {K : PySem.W.Frag} (hK : K = S.K) {a b : Addr} {ds es : List D} {vs ws : List V} (b1 : TupAt S.K ι hid H a vs) (b2 : RepNs S ι hid H ds vs) (c1 : TupAt S.K ι hid H b ws) (c2 : RepNs S ι hid H es ws) : Iter S ι hid H (RZ.ItzT K a b) (zips ds es) := by
  subst hK
  intro i ι' hid' H' h' st hr
  have q : SqT S.K H' a vs := (tupAt_to st b1).sq
  have p : SqT S.K H' b ws := (tupAt_to st c1).sq
  have b3 := RepNs.to st _ _ b2
  have c3 := RepNs.to st _ _ c2
  refine ⟨fun d e => ?_, fun hl => ⟨vs, ws, q, p, by rw [← b2.length, ← c2.length]; rw [zips_len] at hl; omega⟩⟩
  obtain ⟨z, z', e0, e0', rfl⟩ := zips_get ds es i e
  obtain ⟨v, e1, e2⟩ := b3.get e0
  obtain ⟨v', e1', e2'⟩ := c3.get e0'
  refine ⟨⟨vs, ws, v, v', q, p, e1, e1'⟩, fun x H'' y => ?_⟩
  obtain ⟨T, w, w', rfl, n, rfl, y, y'⟩ := y
  have y := y vs q
  have y' := y' ws p
  rw [e1] at y
  rw [e1'] at y'
  cases y
  cases y'
  exact new_pair hr n e2 e2'
end

/-! ### the sources -/
section
variable {X : Cx} {S : Sta} {W : WX} {tg : Expr}
theorem PI.imp {iter : Expr} {t t' : TI} (h : PI X tg iter t) (k : ∀ σ H R, t' σ H R → t σ H R) : PI X tg iter t' := ⟨fun pins s σ H R I q => h.run pins s σ H R I (k _ _ _ q)⟩
/-- a list or a tuple -/
theorem pi_seq {l : Expr} {tl : TE} (hl : PE X l tl) : PI X tg l (fun σ H R => tl σ H fun x H1 => ∃ a, x = .ref a ∧ (((∃ xs, SqL X.K H1 a xs) ∧ R (Itl X.K a) H1) ∨ ((∃ xs, SqT X.K H1 a xs) ∧ R (Itt X.K a) H1))) := by
  refine ⟨fun pins s σ H R I h => ?_⟩
  refine thn (hl.run pins s σ H _ I h) fun v s1 ⟨x, H1, I1, r1, a, e, q⟩ => ?_
  subst e
  cases r1
  have fp : ∀ b ∈ [s1.heap.objs.size], FpOk X pins H1 b := fun b hb => by
    rw [List.mem_singleton.mp hb]
    exact I1.fpOk (Nat.le_refl _) (I1.hok.fresh (Nat.le_refl _))
  rcases q with ⟨⟨xs, hq⟩, q⟩ | ⟨⟨xs, hq⟩, q⟩
  · obtain ⟨its, rv, p, hz⟩ := I1.list hq
    exact wpAny_pyIter_list p.isList ⟨s1.heap.objs.size, [s1.heap.objs.size], _, _, H1, rfl, I1.kept (t' := s1.toks) fun b o e => Heap.get?_push_of_some _ e, turn_list a _, ⟨_, Heap.get?_push_size _ rfl, rfl, rfl⟩, fp, q⟩
  · obtain ⟨its, rv, p, hz⟩ := I1.tuple hq
    exact wpAny_pyIter_tuple (show s1.heap.IsTuple a its.toArray from p) ⟨s1.heap.objs.size, [s1.heap.objs.size], _, _, H1, rfl, I1.kept (t' := s1.toks) fun b o e => Heap.get?_push_of_some _ e, turn_tuple a _, ⟨_, Heap.get?_push_size _ rfl, rfl, rfl⟩, fp, q⟩
theorem src_it (hK : X.K = S.K) {e : Expr} {fr : Bool} {m : St' → AH → Res D} (he : PE X e (tR S (RE S fr) W m)) : PI X tg e (iD S W .it fun σ h => (m σ h).bind fun x h1 => .ok [x] h1) := by
  refine PI.imp (pi_seq he) fun σc H R ⟨σ, h, ι, hid, sr, hr, p⟩ => ⟨σ, h, ι, hid, sr, hr, Post.imp (Post.bind (R1 := RE S fr) back_RA p) fun b H1 ⟨d, h1, k1, x1, r1, q1⟩ => ?_⟩
  obtain ⟨as, h2, ds, k2, x2, rs, e1, fin⟩ := q1 [b] H1 Kp.refl x1 (.cons r1.1 .nil)
  cases rs with
  | @cons d' _ _ _ r2 rn =>
    cases rn
    cases d' with
    | tup es =>
      have e1 : some es = some ds := e1
      cases e1
      obtain ⟨a, vs, rfl, b1, b2⟩ := r2.tup
      exact ⟨a, rfl, .inr ⟨⟨vs, by rw [hK]; exact b1.sq⟩, fin _ (iter_tup hK b1 b2)⟩⟩
    | lst es =>
      have e1 : some es = some ds := e1
      cases e1
      obtain ⟨a, vs, rfl, b1, b2⟩ := r2.lst
      exact ⟨a, rfl, .inl ⟨⟨vs, .inl b1.1⟩, fin _ (iter_list b1 b2)⟩⟩
    | _ => cases e1
theorem rok_spec {i : Int} (h : rok i = true) : -(2 ^ 62) ≤ i ∧ i < 2 ^ 62 := by
  unfold rok at h
  rw [Bool.and_eq_true] at h
  exact ⟨of_decide_eq_true h.1, of_decide_eq_true h.2⟩
theorem src_rng1 {a : Expr} {p pos : Pos} {m : St' → AH → Res (List D)} (hg : Gl X "range") (hm : X.mg "range" = none) (ha : PA X [a] (tR S (RA S) W m)) (hs : starEach [a] X.env = [(false, eval a X.env)]) : PI X tg (.Call (.Name "range" p) [a] [] pos) (iD S W .rng1 m) := by
  refine PI.imp (pi_range1 hg hm ha hs) fun σc H R ⟨σ, h, ι, hid, sr, hr, q⟩ => ⟨σ, h, ι, hid, sr, hr, q.imp fun vs H1 ⟨as, h1, ds, k, x, rs, e, fin⟩ => ?_⟩
  unfold items at e
  split at e <;> try contradiction
  rename_i j _
  split at e <;> try contradiction
  rename_i hj
  cases e
  obtain ⟨v, rfl, r1⟩ := reps1 rs
  obtain ⟨g1, g2⟩ := rok_spec hj
  exact ⟨j, by rw [r1.int], g1, g2, fin _ iter_rng⟩
theorem src_rng2 {a b : Expr} {p pos : Pos} {m : St' → AH → Res (List D)} (hg : Gl X "range") (hm : X.mg "range" = none) (ha : PA X [a, b] (tR S (RA S) W m)) (hs : starEach [a, b] X.env = [(false, eval a X.env), (false, eval b X.env)]) (hs2 : starEach [b] X.env = [(false, eval b X.env)]) :
    PI X tg (.Call (.Name "range" p) [a, b] [] pos) (iD S W .rng2 m) := by
  refine PI.imp (pi_range2 hg hm ha hs hs2) fun σc H R ⟨σ, h, ι, hid, sr, hr, q⟩ => ⟨σ, h, ι, hid, sr, hr, q.imp fun vs H1 ⟨as, h1, ds, k, x, rs, e, fin⟩ => ?_⟩
  unfold items at e
  split at e <;> try contradiction
  rename_i i j _
  split at e <;> try contradiction
  rename_i hj
  cases e
  rw [Bool.and_eq_true] at hj
  obtain ⟨v, u, rfl, r1, r2⟩ := reps2 rs
  obtain ⟨g1, g2⟩ := rok_spec hj.1
  obtain ⟨g3, g4⟩ := rok_spec hj.2
  exact ⟨i, j, by rw [r1.int, r2.int], ⟨g1, g2, g3, g4⟩, fin _ iter_rng⟩
theorem src_enum {e : Expr} {p pos tpos : Pos} {elts : List Expr} {kk : Nat} {m : St' → AH → Res (List D)} (hg : Gl X "enumerate") (hm : X.mg "enumerate" = none) (ha : PA X [e] (tR S (RA S) W m)) (hs : starEach [e] X.env = [(false, eval e X.env)]) :
    PI X (.Tuple elts kk tpos) (.Call (.Name "enumerate" p) [e] [] pos) (iD S W .enm m) := by
  refine PI.imp (pi_enum hg hm ha hs) fun σc H R ⟨σ, h, ι, hid, sr, hr, q⟩ => ⟨σ, h, ι, hid, sr, hr, q.imp fun vs H1 ⟨as, h1, ds, k, x, rs, e, fin⟩ => ?_⟩
  unfold items at e
  split at e <;> try contradiction
  rename_i es _
  cases e
  obtain ⟨v, rfl, r1⟩ := reps1 rs
  obtain ⟨a, vs, rfl, b1, b2⟩ := r1.lst
  exact ⟨a, vs, rfl, .inl b1.1, fin _ (iter_enum b1 b2)⟩
theorem src_zip (hK : X.K = S.K) {e e2 : Expr} {p pos tpos : Pos} {elts : List Expr} {kk : Nat} {m : St' → AH → Res (List D)} (hg : Gl X "zip") (hm : X.mg "zip" = none) (ha : PA X [e, e2] (tR S (RA S) W m))
    (hs : starEach [e, e2] X.env = (false, eval e X.env) :: starEach [e2] X.env) (hpl : (backTo pos (starEach [e2] X.env)).any (·.1) = false) :
    PI X (.Tuple elts kk tpos) (.Call (.Name "zip" p) [e, e2] [] pos) (iD S W .zip m) := by
  refine PI.imp (RZ.pi_zipA hg hm ha hs hpl) fun σc H R ⟨σ, h, ι, hid, sr, hr, q⟩ => ⟨σ, h, ι, hid, sr, hr, q.imp fun vs H1 ⟨as, h1, ds, k, x, rs, e, fin⟩ => ?_⟩
  unfold items at e
  split at e <;> try contradiction
  · rename_i es fs _
    cases e
    obtain ⟨v, u, rfl, r1, r2⟩ := reps2 rs
    obtain ⟨a, vs, rfl, b1, b2⟩ := r1.lst
    obtain ⟨b, ws, rfl, c1, c2⟩ := r2.lst
    exact ⟨a, b, vs, ws, rfl, .inl ⟨.inl b1.1, .inl c1.1, fin _ (iter_zipL b1 b2 c1 c2)⟩⟩
  · rename_i es fs _
    cases e
    obtain ⟨v, u, rfl, r1, r2⟩ := reps2 rs
    obtain ⟨a, vs, rfl, b1, b2⟩ := r1.tup
    obtain ⟨b, ws, rfl, c1, c2⟩ := r2.tup
    exact ⟨a, b, vs, ws, rfl, .inr ⟨by rw [hK]; exact b1.sq, by rw [hK]; exact c1.sq, fin _ (iter_zipT hK b1 b2 c1 c2)⟩⟩
end
end Rf
/-! Rf11 -/
set_option maxHeartbeats 1000000
/-! Rf11: loops and comprehensions by the evaluator. -/
namespace Rf
open PySem PySem.Spec PyProof.Rows L2
/-- a loop's turn -/
def turnB (t : T) (m : St' → AH → Out) : D → St' → AH → Out := fun d σ' h' => match assign t d σ' with
  | some σ2 => m σ2 h'
  | none => .no
theorem loop_ok {S : Sta} {W : WX} {En : Ends} {ι hid : List Addr} {H1 : Hp} {σc : L2.St} {σ : St'} {h : AH} {J : It} {ds : List D} {t : T} {m : St' → AH → Out} {g : TG} (it : Iter S ι hid H1 J ds) (sr : SRep S ι hid H1 σ σc) (hr : HRep S ι hid H1 h)
    (hg : ∀ v σc H Q, gT S t v σc H Q → g v σc H Q) (p : PostS S W En ι hid H1 (loop (turnB t m) ds σ h)) :
    ∃ Wv : Nat → Nat → L2.St → Hp → Prop, (∃ m, Wv 0 m σc H1) ∧ ∀ i m' σ H, Wv i m' σ H → (J.stop i H ∧ En.nx σ H) ∨ (J.go i H ∧ ∃ N : L2.St → Hp → Prop, (∀ σ' H', N σ' H' → ∃ m2, m2 < m' ∧ Wv (i + 1) m2 σ' H') ∧
      ∀ x H', J.yld i H x H' → g x σ H' fun σ2 H2 => tS S W m { En with nx := N, ct := N, bk := En.nx } σ2 H2) := by
  refine ⟨fun i m' σc H => m' = ds.length - i ∧ i ≤ ds.length ∧ ∃ σ h ι', Later ι ι' H1 H ∧ HRep S ι' hid H h ∧ SRep S ι' hid H σ σc ∧ PostS S W En ι' hid H (loop (turnB t m) (ds.drop i) σ h), ⟨ds.length, by simp, Nat.zero_le _, σ, h, ι, .refl, hr, sr, p⟩, ?_⟩
  rintro i m' σc H ⟨rfl, hi, σ, h2, ι', l, hr2, sr2, p2⟩
  obtain ⟨q1, q2⟩ := it i ι' hid H h2 (l.stay hr) hr2
  by_cases hlt : i < ds.length
  · have ed : ds[i]? = some ds[i] := List.getElem?_eq_getElem hlt
    obtain ⟨g1, g2⟩ := q1 _ ed
    rw [List.drop_eq_getElem_cons hlt] at p2
    refine .inr ⟨g1, _, fun σ' H' n => ⟨ds.length - (i + 1), by omega, n⟩, fun x H' y => ?_⟩
    obtain ⟨k, _, hr3, r3⟩ := g2 x H' y
    have p3 : PostS S W En ι' hid H (match turnB t m ds[i] σ h2 with
      | .nx σ1 h1 => loop (turnB t m) (ds.drop (i + 1)) σ1 h1
      | .ct σ1 h1 => loop (turnB t m) (ds.drop (i + 1)) σ1 h1
      | .bk σ1 h1 => .nx σ1 h1
      | o => o) := p2
    unfold turnB at p3
    cases ea : assign t ds[i] σ with
    | none => rw [ea] at p3; exact False.elim p3
    | some σ2 =>
      rw [ea] at p3
      refine hg _ _ _ _ ⟨σ, h2, ι', hid, ds[i], σ2, sr2.keep k, hr3, .inl r3, ea, fun σc2 s2 _ => ⟨σ2, h2, ι', hid, s2, hr3, ?_⟩⟩
      have lk : Later ι' ι' H H' := .of k
      change PostS S W En ι' hid H (match m σ2 h2 with
        | .nx σ1 h1 => loop (turnB t m) (ds.drop (i + 1)) σ1 h1
        | .ct σ1 h1 => loop (turnB t m) (ds.drop (i + 1)) σ1 h1
        | .bk σ1 h1 => .nx σ1 h1
        | o => o) at p3
      cases em : m σ2 h2 with
      | nx σ3 h3 =>
        rw [em] at p3
        exact fun σc4 H4 ι4 l4 x4 s4 => ⟨rfl, hlt, σ3, h3, ι4, (l.trans lk).trans l4, x4, s4, p3.back (lk.trans l4) x4⟩
      | ct σ3 h3 =>
        rw [em] at p3
        exact fun σc4 H4 ι4 l4 x4 s4 => ⟨rfl, hlt, σ3, h3, ι4, (l.trans lk).trans l4, x4, s4, p3.back (lk.trans l4) x4⟩
      | bk σ3 h3 =>
        rw [em] at p3
        exact fun σc4 H4 ι4 l4 x4 s4 => p3 σc4 H4 ι4 (lk.trans l4) x4 s4
      | rt d fr h3 =>
        rw [em] at p3
        exact fun v H4 ι4 l4 x4 r4 => p3 v H4 ι4 (lk.trans l4) x4 (r4.back lk hr3)
      | ex e σ3 h3 =>
        rw [em] at p3
        exact fun c dx σc4 H4 ι4 l4 => p3 c dx σc4 H4 ι4 (lk.trans l4)
      | no => rw [em] at p3; exact False.elim p3
  · have e : i = ds.length := by omega
    subst e
    rw [List.drop_length] at p2
    exact .inl ⟨q2 (Nat.le_refl _), p2 σc H ι' .refl hr2 sr2⟩

/-! ### while -/
theorem while_ok {S : Sta} {W : WX} {En : Ends} {m : St' → AH → Out} {tst : St' → AH → Res Bool} {n : Nat} {ι hid : List Addr} {H : Hp} {σc : L2.St} {σ : St'} {h : AH} (sr : SRep S ι hid H σ σc) (hr : HRep S ι hid H h)
    (p : PostS S W En ι hid H (loopW (fun σ' h' => (tst σ' h').out σ' fun b h1 => if b then m σ' h1 else .bk σ' h1) n σ h)) : tWhile (tR S REq W tst) (tS S W m) En σc H := by
  refine ⟨fun k σc H => ∃ σ h ι', HRep S ι' hid H h ∧ SRep S ι' hid H σ σc ∧ PostS S W En ι' hid H (loopW (fun σ' h' => (tst σ' h').out σ' fun b h1 => if b then m σ' h1 else .bk σ' h1) k σ h), ⟨n, σ, h, ι, hr, sr, p⟩, ?_⟩
  rintro k σc H ⟨σ, h, ι, hr, sr, p⟩
  cases k with
  | zero => exact False.elim p
  | succ k =>
    refine ⟨σ, h, ι, hid, sr, hr, ?_⟩
    have p : PostS S W En ι hid H (match (tst σ h).out σ fun b h1 => if b then m σ h1 else .bk σ h1 with
      | .nx σ1 h1 => loopW (fun σ' h' => (tst σ' h').out σ' fun b h1 => if b then m σ' h1 else .bk σ' h1) k σ1 h1
      | .ct σ1 h1 => loopW (fun σ' h' => (tst σ' h').out σ' fun b h1 => if b then m σ' h1 else .bk σ' h1) k σ1 h1
      | .bk σ1 h1 => .nx σ1 h1
      | o => o) := p
    cases et : tst σ h with
    | no => rw [et] at p; exact p
    | ex e h1 => rw [et] at p; exact fun c dx H1 k1 x1 r1 => p c dx σc H1 ι (.of k1) x1 (sr.keep k1) r1
    | ok b h1 =>
      rw [et] at p
      intro b' H1 k1 x1 e1
      have e1 : b = b' := e1
      subst e1
      cases b with
      | false => exact p σc H1 ι (.of k1) x1 (sr.keep k1)
      | true =>
        refine ⟨_, fun σ' H' n => ⟨k, Nat.lt_succ_self k, n⟩, σ, h1, ι, hid, sr.keep k1, x1, ?_⟩
        change PostS S W En ι hid H (match m σ h1 with
          | .nx σ1 h1 => loopW (fun σ' h' => (tst σ' h').out σ' fun b h1 => if b then m σ' h1 else .bk σ' h1) k σ1 h1
          | .ct σ1 h1 => loopW (fun σ' h' => (tst σ' h').out σ' fun b h1 => if b then m σ' h1 else .bk σ' h1) k σ1 h1
          | .bk σ1 h1 => .nx σ1 h1
          | o => o) at p
        have lk : Later ι ι H H1 := .of k1
        cases em : m σ h1 with
        | nx σ3 h3 =>
          rw [em] at p
          exact fun σc4 H4 ι4 l4 x4 s4 => ⟨σ3, h3, ι4, x4, s4, p.back (lk.trans l4) x4⟩
        | ct σ3 h3 =>
          rw [em] at p
          exact fun σc4 H4 ι4 l4 x4 s4 => ⟨σ3, h3, ι4, x4, s4, p.back (lk.trans l4) x4⟩
        | bk σ3 h3 =>
          rw [em] at p
          exact fun σc4 H4 ι4 l4 x4 s4 => p σc4 H4 ι4 (lk.trans l4) x4 s4
        | rt d fr h3 =>
          rw [em] at p
          exact fun v H4 ι4 l4 x4 r4 => p v H4 ι4 (lk.trans l4) x4 (r4.back lk x1)
        | ex e σ3 h3 =>
          rw [em] at p
          exact fun c dx σc4 H4 ι4 l4 => p c dx σc4 H4 ι4 (lk.trans l4)
        | no => rw [em] at p; exact False.elim p

/-! ### comprehensions -/
theorem wipe_setN {σ : L2.St} {i : Nat} : ∀ vs : List Nat, wipe (σ.set i none) vs = (wipe σ vs).set i none
  | [] => rfl
  | v :: vs => by
    unfold wipe
    rw [wipe_setN vs]
    by_cases e : v = i
    · rw [e]
    · rw [List.set_comm _ _ (Ne.symm e)]
theorem wipe_wipe (σ : L2.St) : ∀ vs : List Nat, wipe (wipe σ vs) vs = wipe σ vs
  | [] => rfl
  | v :: vs => by
    show (wipe ((wipe σ vs).set v none) vs).set v none = (wipe σ vs).set v none
    rw [wipe_setN, wipe_wipe σ vs, List.set_set]
/-- a comprehension's turn -/
def turnC (t : T) (own : List Nat) (σ : St') (mt : St' → AH → Res Bool) (me : St' → AH → Res D) : D → AH → Res (Option D) := fun d h' => match assign t d (wiped σ own) with
  | some σ' => (match mt σ' h' with
    | .ok true h2 => (match me σ' h2 with
      | .ok x h3 => if x.isRef then .no else .ok (some x) h3
      | _ => .no)
    | .ok false h2 => .ok none h2
    | _ => .no)
  | none => .no
abbrev W0 : WX := fun _ _ _ _ => False
/-- a hidden list is written -/
theorem hid_write {S : Sta} {ι hid : List Addr} {H : Hp} {h : AH} {p : Addr} {u : HO} (x : HRep S ι (p :: hid) H h) : Stay ι (p :: hid) ι (p :: hid) H (upd H p u) ∧ HRep S ι (p :: hid) (upd H p u) h := by
  have st : Stay ι (p :: hid) ι (p :: hid) H (upd H p u) := fun a w r n1 n2 => by
    have ne : a ≠ p := fun e => n2 (by rw [e]; exact List.mem_cons_self)
    refine ⟨?_, n1, n2⟩
    rcases r with r | ⟨o, r⟩
    · exact .inl (by rw [upd_ne ne]; exact r)
    · exact .inr ⟨o, by rw [upd_ne ne]; exact r⟩
  refine ⟨st, x.len, x.nd, fun m a o e1 e2 => ?_, x.dj, fun a ha => ?_⟩
  · obtain ⟨u', h1, h2⟩ := x.obj m a o e1 e2
    have ne : a ≠ p := fun e => x.dj p List.mem_cons_self (by rw [← e]; exact List.mem_of_getElem? e1)
    exact ⟨u', by rw [upd_ne ne]; exact h1, h2.to st⟩
  · by_cases e : a = p
    · rw [e, upd_same]; intro z; cases z
    · rw [upd_ne e]; exact x.trk a ha
theorem comp_ok {S : Sta} {ι hid : List Addr} {H1 : Hp} {σc : L2.St} {σ : St'} {h1 : AH} {J : It} {ds r : List D} {t : T} {own : List Nat} {mt : St' → AH → Res Bool} {me : St' → AH → Res D} {fr : Bool} {h2 : AH} {g : TG} {Q : VK} (it : Iter S ι hid H1 J ds) (sr : SRep S ι hid H1 σ σc) (hr : HRep S ι hid H1 h1)
    (hg : ∀ v σc H Q, gT S t v σc H Q → g v σc H Q) (ht : ∀ i ∈ t.slots, i ∈ own) (e : turns (turnC t own σ mt me) ds h1 = .ok r h2) (hl : r.length ≤ lim)
    (fin : ∀ v H', Kp ι H1 H' → HRep S ι hid H' h2 → RE S true ι hid H1 H' h2 (.lst r) v → Q v H') :
    ∀ D, H1 D = none → ∃ Wv : Nat → Nat → Hp → Prop, (∃ m, Wv 0 m (upd H1 D (.lst []))) ∧ ∀ i m H, Wv i m H → (J.stop i H ∧ Q (.ref D) H) ∨ (J.go i H ∧ ∃ Nx : Hp → Prop, (∀ H', Nx H' → ∃ m', m' < m ∧ Wv (i + 1) m' H') ∧
      ∀ x H', J.yld i H x H' → g x (wipe σc own) H' fun σ2 H2 => wipe σ2 own = wipe σc own ∧ tR S REq W0 mt σ2 H2 fun b H3 =>
        if b = true then tR S (RE S fr) W0 me σ2 H3 fun y H4 => ∃ acc, H4 D = some (.lst acc) ∧ acc.length < sizeLine ∧ Nx (upd H4 D (.lst (acc ++ [y]))) else Nx H3) := by
  intro D hD
  have dn : D ∉ ι ∧ D ∉ hid := hr.nin hD
  have st0 : ∀ {H : Hp}, Kp ι H1 H → Stay ι hid ι (D :: hid) H1 H := fun k a u r n1 n2 => ⟨k.rd r n1, n1, fun z => (List.mem_cons.mp z).elim (fun e => rd_ne r hD e) n2⟩
  refine ⟨fun i m H => m = ds.length - i ∧ i ≤ ds.length ∧ ∃ h acc accv rest, HRep S ι (D :: hid) H h ∧ Kp ι H1 H ∧ H D = some (.lst accv) ∧ RepNs S ι (D :: hid) H acc accv ∧ turns (turnC t own σ mt me) (ds.drop i) h = .ok rest h2 ∧ acc ++ rest = r,
    ⟨ds.length, by simp, Nat.zero_le _, h1, [], [], r, hr.newhid hD, Kp.new hD, upd_same, .nil, e, rfl⟩, ?_⟩
  rintro i m H ⟨rfl, hi, h, acc, accv, rest, x, k, eD, ra, et, er⟩
  obtain ⟨q1, q2⟩ := it i ι (D :: hid) H h (st0 k) x
  by_cases hlt : i < ds.length
  · have ed : ds[i]? = some ds[i] := List.getElem?_eq_getElem hlt
    obtain ⟨g1, g2⟩ := q1 _ ed
    rw [List.drop_eq_getElem_cons hlt] at et
    refine .inr ⟨g1, fun H' => ∃ m', m' < ds.length - i ∧ m' = ds.length - (i + 1) ∧ i + 1 ≤ ds.length ∧ ∃ h acc accv rest, HRep S ι (D :: hid) H' h ∧ Kp ι H1 H' ∧ H' D = some (.lst accv) ∧ RepNs S ι (D :: hid) H' acc accv ∧ turns (turnC t own σ mt me) (ds.drop (i + 1)) h = .ok rest h2 ∧ acc ++ rest = r,
      fun H' ⟨m', a, b⟩ => ⟨m', a, b⟩, fun z H' y => ?_⟩
    obtain ⟨k2, keepD, x2, r2⟩ := g2 z H' y
    have kk : Kp ι H1 H' := k.trans k2
    have sr2 : SRep S ι (D :: hid) H' σ σc := sr.to' (st0 kk) fun _ _ e => e
    have et2 : (match turnC t own σ mt me ds[i] h with
      | .ok o h1 => (match turns (turnC t own σ mt me) (ds.drop (i + 1)) h1 with
        | .ok r h2 => Res.ok (match o with
          | some x => x :: r
          | none => r) h2
        | _ => .no)
      | _ => .no) = .ok rest h2 := et
    cases ea : assign t ds[i] (wiped σ own) with
    | none =>
      have e0 : turnC t own σ mt me ds[i] h = .no := by unfold turnC; rw [ea]
      rw [e0] at et2; cases et2
    | some σ' =>
      refine hg _ _ _ _ ⟨wiped σ own, h, ι, D :: hid, ds[i], σ', sr2.wiped own, x2, .inl r2, ea, fun σc2 s2 w2 => ⟨(w2 own ht).trans (wipe_wipe σc own), σ', h, ι, D :: hid, s2, x2, ?_⟩⟩
      have e0 : turnC t own σ mt me ds[i] h = (match mt σ' h with
        | .ok true h2 => (match me σ' h2 with
          | .ok x h3 => if x.isRef then .no else .ok (some x) h3
          | _ => .no)
        | .ok false h2 => .ok none h2
        | _ => .no) := by unfold turnC; rw [ea]
      rw [e0] at et2
      cases em : mt σ' h with
      | no => rw [em] at et2; cases et2
      | ex _ _ => rw [em] at et2; cases et2
      | ok b hb =>
        rw [em] at et2
        intro b' H3 k3 x3 eb
        have eb : b = b' := eb
        subst eb
        cases b with
        | false =>
          have et2 : (match turns (turnC t own σ mt me) (ds.drop (i + 1)) hb with
            | .ok r h2 => Res.ok r h2
            | _ => .no) = .ok rest h2 := et2
          cases en : turns (turnC t own σ mt me) (ds.drop (i + 1)) hb with
          | no => rw [en] at et2; cases et2
          | ex _ _ => rw [en] at et2; cases et2
          | ok r' h' =>
            rw [en] at et2
            injection et2 with z1 z2
            subst z1 z2
            exact ⟨_, by omega, rfl, hlt, hb, acc, accv, r', x3, kk.trans k3, k3 _ _ (keepD _ _ eD) dn.1, (ra.keep k2).keep k3, en, er⟩
        | true =>
          refine ⟨σ', hb, ι, D :: hid, s2.keep k3, x3, ?_⟩
          cases ee : me σ' hb with
          | no => simp only [ee] at et2; cases et2
          | ex _ _ => simp only [ee] at et2; cases et2
          | ok d hd =>
            simp only [ee] at et2
            intro y4 H4 k4 x4 r4
            cases hd' : d.isRef with
            | true => rw [hd', if_pos rfl] at et2; cases et2
            | false =>
              rw [hd', if_neg Bool.false_ne_true] at et2
              have et2 : (match turns (turnC t own σ mt me) (ds.drop (i + 1)) hd with
                | .ok r h2 => Res.ok (d :: r) h2
                | _ => .no) = .ok rest h2 := et2
              cases en : turns (turnC t own σ mt me) (ds.drop (i + 1)) hd with
              | no => rw [en] at et2; cases et2
              | ex _ _ => rw [en] at et2; cases et2
              | ok r' h' =>
                rw [en] at et2
                injection et2 with z1 z2
                subst z1 z2
                have eD4 : H4 D = some (.lst accv) := k4 _ _ (k3 _ _ (keepD _ _ eD) dn.1) dn.1
                have ra4 := ((ra.keep k2).keep k3).keep k4
                have rn := r4.1.noref hd'
                obtain ⟨st5, x5⟩ := hid_write (u := .lst (accv ++ [y4])) x4
                refine ⟨accv, eD4, ?_, _, by omega, rfl, hlt, hd, acc ++ [d], accv ++ [y4], r', x5, fun a o ea na => ?_, upd_same, RepNs.append (RepNs.to st5 _ _ ra4) (.cons (RepN.to st5 _ _ rn) .nil), en, by rw [← er]; simp⟩
                · have : acc.length < r.length := by rw [← er]; simp
                  have l2 := ra.length
                  have : accv.length < lim := by omega
                  rw [sizeLine_eq]
                  exact this
                · have ne : a ≠ D := fun z => by rw [z, hD] at ea; cases ea
                  rw [upd_ne ne]
                  exact k4 _ _ (k3 _ _ (k2 _ _ (k _ _ ea na) na) na) na
  · have e' : i = ds.length := by omega
    subst e'
    rw [List.drop_length] at et
    have et : Res.ok [] h = Res.ok rest h2 := et
    injection et with z1 z2
    subst z1 z2
    rw [List.append_nil] at er
    subst er
    have un : RepNs S ι hid H acc accv := RepNs.to stay_unhide _ _ ra
    exact .inl ⟨q2 (Nat.le_refl _), fin _ H k x.unhide ⟨.inl (.lst ⟨.inl eD, dn⟩ un), fun _ ds' ed => by
      cases ed
      exact ⟨D, accv, rfl, hD, eD, ra, x⟩⟩⟩
end Rf
/-! RfA -/
set_option maxHeartbeats 1000000
/-! RfA: plain parameters are bound. -/
namespace Rf
open PySem PySem.Spec PyProof.Rows L2
theorem zip_lookup : ∀ {ps : List Str} {us : List Value} {n : Str}, n ∈ ps → us.length = ps.length → ∃ v, (ps.zip us).lookup n = some v
  | p :: ps, u :: us, n, h, hl => by
    rw [List.zip_cons_cons, List.lookup_cons]
    by_cases e : n = p
    · subst e; exact ⟨u, by simp⟩
    · have : (n == p) = false := by simpa using e
      rw [this]
      exact zip_lookup ((List.mem_cons.mp h).resolve_left e) (by simpa using hl)
  | p :: ps, [], n, h, hl => by simp at hl
theorem fm_congr {α β : Type} {f g : α → Option β} : ∀ {l : List α}, (∀ a ∈ l, f a = g a) → l.filterMap f = l.filterMap g
  | [], _ => rfl
  | a :: l, h => by
    rw [List.filterMap_cons, List.filterMap_cons, h a List.mem_cons_self, fm_congr fun b hb => h b (List.mem_cons_of_mem _ hb)]
theorem zip_all : ∀ {ps : List Str} {us : List Value}, ps.Nodup → us.length = ps.length → (ps.filterMap fun n => ((ps.zip us).lookup n).map (n, ·)) = ps.zip us
  | [], us, _, _ => by simp
  | p :: ps, [], _, hl => by simp at hl
  | p :: ps, u :: us, nd, hl => by
    obtain ⟨n1, n2⟩ := List.nodup_cons.mp nd
    rw [List.filterMap_cons, List.zip_cons_cons, List.lookup_cons]
    simp only [beq_self_eq_true, Option.map_some]
    congr 1
    have ih := zip_all (ps := ps) (us := us) n2 (by simpa using hl)
    refine Eq.trans ?_ ih
    refine fm_congr fun n hn => ?_
    rw [List.lookup_cons]
    have : (n == p) = false := by
      have : n ≠ p := fun e => n1 (e ▸ hn)
      simpa using this
    rw [this]
theorem bind_all {x qual : Str} {body : List Stmt} {scope : Scope} {kV doc pm cdv ct : Value} {an : Option Addr} {args : List Arg} {us : List Value} (nd : (args.map (·.arg)).Nodup) (hl : us.length = args.length) :
    bindArgs (PySem.W.fnOf x qual ⟨[], args, none, [], [], none, []⟩ body scope .none kV doc pm an cdv ct) ⟨us, []⟩ = pure ((args.map (·.arg)).zip us) := by
  have e0 : seqItems? Value.none = pure none := rfl
  have m : ((args.map (·.arg)).filter fun n => (((args.map (·.arg)).zip us).lookup n).isNone) = [] := by
    rw [List.filter_eq_nil_iff]
    intro n hn
    obtain ⟨v, e⟩ := zip_lookup (us := us) hn (by rw [List.length_map]; exact hl)
    rw [e]; simp
  have z := zip_all (us := us) nd (by rw [List.length_map]; exact hl)
  unfold bindArgs PySem.W.fnOf
  rw [List.filterMap_map] at z
  simp [e0, hl]
  refine (if_neg ?_).trans (congrArg _ z)
  have m2 : (args.map (·.arg)).take args.length = args.map (·.arg) := List.take_of_length_le (by simp)
  simp [m, m2]
end Rf
/-! RfB -/
set_option maxHeartbeats 2000000
/-! RfB: an own exception whose __init__ says super().__init__(x) and self.f = x. -/
namespace PySem.W
open PySem PySem.Calls PyProof.Rows PySem.Spec
/-- what a built-in base gives -/
structure XiB (B i newId : String) (bmB : List Value) : Prop where
  fb : ExcBaseFacts B newId i bmB
  kx : KxsFacts B i
  st : StoreFacts B bmB "object.__setattr__" "object"
theorem xi_ValueError : XiB "ValueError" "ValueError.__init__" "ValueError.__new__" [.type "ValueError", .type "Exception", .type "BaseException", .type "object"] := ⟨F.excBase_ValueError, kxs_ValueError, F.store_ValueError⟩
theorem xi_LookupError : XiB "LookupError" "LookupError.__init__" "LookupError.__new__" [.type "LookupError", .type "Exception", .type "BaseException", .type "object"] := ⟨F.excBase_LookupError, kxs_LookupError, F.store_LookupError⟩
/-- the text -/
structure XiT (f : Str) (params : Arguments) (body : List Stmt) (scope : Scope) (x : Str) : Prop where
  ps : ∃ a0 a1 : Arg, params = ⟨[], [a0, a1], none, [], [], none, []⟩ ∧ a0.arg = "self" ∧ a1.arg = x
  bd : ∃ p0 p1 p2 p3 p4 p5 p6 p7 p8 p9, (p2.endLine == p4.line) = true ∧ body = [.Expr (.Call (.Attribute (.Call (.Name "super" p0) [] [] p1) "__init__" p2) [.Name x p3] [] p4) p5, .Assign [.Attribute (.Name "self" p6) f p7] (.Name x p8) p9]
  nx : x ≠ "self"
  dx : (x == ("__debug__" : Str)) = false
  hks : scope.names.lookup ("super" : Str) = some .globalImplicit
  hkc : scope.names.lookup ("__class__" : Str) = some .free
  hka : scope.names.lookup ("self" : Str) = some .local
  hkx : scope.names.lookup x = some .local
  cell : ∀ y ∈ scope.names, y.2 ≠ .cell
  co : scope.isCoroutine = false
  gen : scope.isGenerator = false
  kind : scope.kind = .function
/-- the class, in the written part -/
structure XiC (prog : Program) (K : Frag) (B i newId : String) (bmB : List Value) (C fI : Addr) (f : Str) : Prop where
  ini : findIn K (.ref C) "__init__" = some (some (.ref fI))
  q : excInitIn K C bmB newId = true
  over : excOver K C bmB = true
  sa : findIn K (.ref C) "__setattr__" = some (some (.builtin "object.__setattr__"))
  tk : takerIn K C f = some none
  hd : hasDictIn K C = true
  fn : ∃ oc od name qual params body scope kV doc pm an cda ct cc osl x, K.lookup fI = some ⟨oc, od, .func (ksFn name qual params body scope .none kV doc pm an (.ref cda) ct cc), osl⟩ ∧ oc = .type "function" ∧ codeIn K (.ref cda) qual = true ∧ XiT f params body scope x ∧
    (∃ ccl cdd vs ccs file tf, K.lookup cda = some ⟨ccl, cdd, .fields vs, ccs⟩ ∧ vs[2]? = some (.str file tf) ∧ ((prog.main.file : Str) == file) = true) ∧ (∃ cl cld csl, K.lookup cc = some ⟨cl, cld, .cell (some (.ref C)), csl⟩)
  mro : mroIn K C (.ref C) = some true
  any : nsIn K cStatics "thirdparty.any" = some none
  sup : ks_superIn K C C "__init__" = some (some (.builtin i))
  isB : subIn K (.ref C) (.type B) = some true
  top : (prog.main.scope.names.lookup ("super" : Str)).isSome = false
theorem bind_two {name qual : Str} {body : List Stmt} {scope : Scope} {kV doc pm cdv ct u v : Value} {an : Option Addr} {cc : Addr} {a0 a1 : Arg} (ne : a1.arg ≠ a0.arg) :
    bindArgs (ksFn name qual ⟨[], [a0, a1], none, [], [], none, []⟩ body scope .none kV doc pm an cdv ct cc) ⟨[u, v], []⟩ = pure [(a0.arg, u), (a1.arg, v)] := by
  have b := Rf.bind_all (x := name) (qual := qual) (body := body) (scope := scope) (kV := kV) (doc := doc) (pm := pm) (cdv := cdv) (ct := ct) (an := an) (args := [a0, a1]) (us := [u, v]) (by simp [Ne.symm ne]) rfl
  exact b
section
open Builtin Builtin.ObjectAttr
variable {prog : Program} {w : World} {M : Model} {A : Around} {E : Value → Shared → Prop} {R : Result → Shared → Prop} {s : Shared} {h : Heap} {g : Array GenState} {d : Drawn} {t : Nat} {os : OsState} {K : Frag} {B i newId : String} {bmB : List Value} {C fI : Addr} {f : Str}
/-- super().__init__(..) called -/
theorem call_mw {u x t0 : Addr} {rest : List Value} {Q : Value → Shared → Prop} (X : K.In h) (FB : ExcBaseFacts B newId i bmB) (q : excInitIn K C bmB newId = true) (hu : h.get? u = some (kxs_mw i x)) (he : h.get? x = some (HandSPX.excO C t0)) (hz : rest.length ≤ sizeLine)
    (hq : ∀ h' t1, (∀ b o, b ≠ x → h.get? b = some o → h'.get? b = some o) → h'.get? x = some (HandSPX.excO C t1) → Q .none ⟨h', g, d, t, os⟩) :
    wpAny (model prog w) A (call (.ref u) rest) Q E ⟨h, g, d, t, os⟩ := by
  obtain ⟨nm, N', qn, bs, bm, hdct, sn, sub, ab, col, dd, k0, k1, k2, k3, k5, hC, hT⟩ := excInit_of X q
  refine wpAny_call (codeAny_of_tree ?_)
  show wpAny _ A.in1 (callAny (.ref u) ⟨rest, []⟩) _ _ _
  simp only [callAny]
  refine wpAny_bind (wpAny_load hu ?_)
  simp only [kxs_mw, show (Value.type "method-wrapper" == Value.type "method" || Value.type "method-wrapper" == Value.type "builtin_function_or_method" || Value.type "method-wrapper" == Value.type "method-wrapper") = true by decide, if_true]
  refine KFB.if_so (by decide) ?_
  refine wpAny_bind (check_bound_init FB.toExcCallFacts hC he rfl ?_)
  refine wpAny_bind (wpAny_pure (wpAny_pure ?_))
  refine ⟨plainId_quiet FB.init.plain _, codeAny_builtin FB.initEntry ?_⟩
  exact exc_init_tree (cls := .ref C) (t0 := t0) (dv := none) (c2 := .none) (c3 := .none) (b4 := .bool false) he hz fun h' k e' t' => hq h' _ k e'
/-- self.f = v, the object without a dict -/
theorem set_first {x t0 : Addr} {v : Value} {Q : Unit → Shared → Prop} (SF : StoreFacts B bmB "object.__setattr__" "object") (X : K.In h) (hx : h.get? x = some (HandSPX.excO C t0))
    (hs : findIn K (.ref C) "__setattr__" = some (some (.builtin "object.__setattr__"))) (hp : excOver K C bmB = true) (ht : takerIn K C f = some none) (hh : hasDictIn K C = true)
    (hq : ∀ h' tk' dx, (∀ b o, b ≠ x → h.get? b = some o → h'.get? b = some o) → h.objs.size ≤ dx → dx ≠ x → h'.get? x = some { cls := .ref C, dict := some dx, data := .fields #[.ref t0, .none, .none, .none, .bool false, .none] } →
      h'.Ns1 dx (fun y => if y = f then some v else none) → Q () ⟨h', g, d, tk', os⟩) :
    wpAny (model prog w) A (setAttr (.ref x) f v) Q E ⟨h, g, d, t, os⟩ := by
  have hxs : x ≠ h.objs.size := Nat.ne_of_lt (Heap.lt_size hx)
  obtain ⟨cd, hc, hd'⟩ := any_some hh
  have I : InstAt h x (HandSPX.excO C t0) C none := ⟨hx, rfl, rfl, trivial⟩
  refine set_plain X I hs (osa_openX SF X I hp ht fun b => ?_)
  have hcls : Looks (model prog w) h (classData C) cd := looks_clsIn X hc
  obtain ⟨nm, bs, mro, ns, qn, hd, sn, sb, ab, col, del⟩ := cd
  dsimp only at hd'
  subst hd'
  dsimp only
  unfold storeInOwnDict ownDictForStores
  repeat (first | with_reducible refine HandSPX.store_in_new ?_ ?_ | with_reducible refine wpAny_loadPart_at hx ?_ | with_reducible refine hcls.at ?_ | wp_step)
  · exact ⟨_, #[], _, (Heap.get?_update_ne _ _ _ _ hxs.symm).trans (Heap.get?_push_at rfl rfl), rfl, fun e he => absurd he (by simp), fun _ => rfl⟩
  · intro h' tk' hn' hs
    have hx₁ : (h.push { cls := .type "dict", data := .dict #[] }).get? x = some (HandSPX.excO C t0) := Heap.get?_push_of_some _ hx
    refine hq h' tk' h.objs.size (fun b o hb ho => ?_) (Nat.le_refl _) hxs.symm ?_ hn'
    · exact (hs.2 b (Nat.ne_of_lt (Heap.lt_size ho))).trans ((Heap.get?_update_ne _ _ _ _ hb).trans (Heap.get?_push_of_some _ ho))
    · exact (hs.2 x hxs).trans (Heap.get?_update_self _ hx₁ rfl)
theorem wpAt_mcall {c : Code} {o e : Expr} {name : Str} {apos pos : Pos} {env : Env} {Q : Value → Shared → Prop} (hline : (apos.endLine == pos.line) = true) (hs : starEach [e] env = [(false, eval e env)])
    (h : wpAt M A c (attributeBase o name env (eval o env)) (fun ov s₁ => wpAny M A (getMethod ov name (do return (← importBound o env).getD true)) (fun fx s₂ => wpAny M A (callWith pos fx.1 fx.2 (backTo pos (starEach [e] env)) []) Q E s₂) E s₁) E s) :
    wpAt M A c (eval (.Call (.Attribute o name apos) [e] [] pos) env) Q E s := by
  rw [arm_eval_Call]
  refine PySem.wpAt_bind (PySem.wpAt_mono h (fun ov s₁ h₁ => PySem.wpAt_of_wpAny (wpAny_bind (wpAny_standAt ?_))) fun _ _ x => x)
  have hform : methodCallForm ([e].length + ([] : List Keyword).length) (backTo pos (starEach [e] env)) (backToKw pos (keywordEach [] env)) = true := by rw [hs]; rfl
  have hpos : methodCallPos true o env apos pos = pure pos := by unfold methodCallPos; simp [hline]
  unfold methodCall
  rw [hform]
  refine wpAny_bind (wpAny_holding (wpAny_mono h₁ (fun fx s₂ h₂ => ?_) fun _ _ x => x))
  exact wpAny_bind (wpAny_of_eq hpos h₂)
theorem any_some_D {K : Frag} {C : Addr} (hh : hasDictIn K C = true) : ∃ cd, clsIn K C = some cd := let ⟨cd, hc, _⟩ := any_some hh; ⟨cd, hc⟩
/-- the walk of such an __init__ -/
theorem init_walk {base : Heap} {mg : Str → Option Value} {e t0 : Addr} {u : Value} (FB : XiB B i newId bmB) (T : XiC prog K B i newId bmB C fI f) (MO : L2.Mod K mg base) (kb : ∀ b o, base.get? b = some o → s.heap.get? b = some o) (hmg : mg "super" = none)
    (hroom : A.depth < recursionLimit) (hbe : base.get? e = none) (he : s.heap.get? e = some (HandSPX.excO C t0))
    (hq : ∀ h' dx t1 tk, (∀ b o, b ≠ e → s.heap.get? b = some o → h'.get? b = some o) → h'.get? e = some { cls := .ref C, dict := some dx, data := .fields #[.ref t1, .none, .none, .none, .bool false, .none] } → s.heap.objs.size ≤ dx → dx ≠ e →
      h'.Ns1 dx (fun y => if y = f then some u else none) → R (.ok (.ret .none)) { s with heap := h', toks := tk }) :
    codeAny (model prog w) A (.call (.ref fI) ⟨[.ref e, u], []⟩) R s := by
  obtain ⟨oc, od, name, qual, params, body, scope, kV, doc, pm, an, cda, ct, cc, osl, x, lk, hoc, hcd, TX, ⟨ccl, cdd, vs, ccs, file, tf, lcode, hvs, hfile⟩, ⟨cl, cld, csl, lcell⟩⟩ := T.fn
  obtain ⟨a0, a1, rfl, e0, e1⟩ := TX.ps
  obtain ⟨p0, p1, p2, p3, p4, p5, p6, p7, p8, p9, hline, rfl⟩ := TX.bd
  have X : K.In s.heap := MO.kin.keeps kb
  have lim : s.heap.NoLimit := MO.nolimit.keeps kb
  have hb := bind_two (name := name) (qual := qual) (body := [.Expr (.Call (.Attribute (.Call (.Name "super" p0) [] [] p1) "__init__" p2) [.Name x p3] [] p4) p5, .Assign [.Attribute (.Name "self" p6) f p7] (.Name x p8) p9]) (scope := scope) (kV := kV) (doc := doc) (pm := pm) (cdv := .ref cda) (ct := ct) (u := .ref e) (v := u) (an := an) (cc := cc) (a0 := a0) (a1 := a1) (by rw [e0, e1]; exact TX.nx)
  refine ks_codeAny_call_defAt hroom (X _ _ lk) rfl lim (codeRec_of X hcd) rfl (BindsTo.of_eq hb) TX.cell (fun y hy => ?_) (fun h₀ hns k0 => ?_) TX.co TX.gen TX.kind
  · rcases List.mem_cons.mp hy with rfl | hy
    · show scope.names.lookup a0.arg = _
      rw [e0]; exact TX.hka
    · rw [List.mem_singleton.mp hy]
      show scope.names.lookup a1.arg = _
      rw [e1]; exact TX.hkx
  · have X0 : K.In h₀ := X.keeps k0
    have kb0 : ∀ b o, base.get? b = some o → h₀.get? b = some o := fun b o z => k0 b o (kb b o z)
    have he0 : h₀.get? e = some (HandSPX.excO C t0) := k0 _ _ he
    obtain ⟨mb, hmb, hbt⟩ := MO.blt
    obtain ⟨cd, hcl⟩ := any_some_D T.hd
    obtain ⟨oD, hD1, hD2⟩ : ∃ oD, h₀.get? C = some oD ∧ oD.data = .cls cd := by
      unfold clsIn at hcl
      split at hcl
      · rename_i c d cd' sl ho
        cases hcl
        exact ⟨_, X0 _ _ ho, rfl⟩
      · cases hcl
    have lu : ([(a0.arg, Value.ref e), (a1.arg, u)].reverse.lookup ("self" : Str)) = some (.ref e) := by
      rw [e0, e1]
      have : ((("self" : Str) == x) = false) := by simpa using Ne.symm TX.nx
      simp [List.lookup, this]
    have lx : ([(a0.arg, Value.ref e), (a1.arg, u)].reverse.lookup x) = some u := by
      rw [e0, e1]
      simp [List.lookup]
    have xC : e ≠ C := by
      intro z
      rw [z] at he0
      rw [hD1] at he0
      cases he0
      cases hD2
    refine ks_wpAt_execs_cons (ks_wpAt_Expr_any (hi := by unfold interactive; show (scope.kind == _ && _) = _; rw [TX.kind]; rfl) (wpAt_mcall hline (by first | rfl | simp [starEach]) (ks_wpAt_super_base TX.hks TX.hkc rfl rfl (X0 _ _ lk) rfl (ar := a0) rfl rfl (X0 _ _ lcode) rfl hvs hfile T.top ?_)))
    refine ks_loadName_global TX.kind TX.hks (loadGlobal_builtin (MO.glob.keeps kb0) hmg (hmb.keeps kb0) ((hbt _ (by decide +kernel)).trans (by first | boot_by_name | rfl | kernel_rfl)) ⟨rfl, ?_⟩)
    refine wpAny_loadName_free TX.kind TX.hkc rfl ⟨_, X0 _ _ lcell, rfl⟩ ?_
    rw [e0]
    refine wpAny_loadName_local TX.kind TX.hka hns lu ?_
    refine ks_wpAny_isType_cls hD1 hD2 ⟨rfl, ?_⟩
    refine ks_wpAny_call_super hD1 hD2 he0 rfl (fun c z => by cases z) (looks_mroIn X0 T.mro) (fun h1 eS k1 => ?_)
    have X1 : K.In h1 := X0.keeps k1
    have he1 := k1 _ _ he0
    have I1 : InstAt h1 e (HandSPX.excO C t0) C none := ⟨he1, rfl, rfl, trivial⟩
    refine kxs_getMethod FB.kx eS (looks_opaque X1 T.any) (l₀ := cd.mro) (fun A Q E s k q => wpAny_bind ((looks_clsIn X1 hcl) A _ E s k (wpAny_pure q))) rfl X1 (K := K) (by
      have := T.sup
      unfold ks_superIn at this
      rw [hcl] at this
      exact this) (I1.type.andThen (looks_subIn X1 T.isB)) xC rfl ?_
    have hns1 : (h1.push (kxs_mw i e)).Ns s.heap.objs.size (fun y => [(a0.arg, Value.ref e), (a1.arg, u)].reverse.lookup y) := hns.keeps fun b o z => Heap.get?_push_of_some _ (k1 _ _ z)
    have heu : (h1.push (kxs_mw i e)).get? h1.objs.size = some (kxs_mw i e) := Heap.get?_push_at rfl rfl
    have hee := Heap.get?_push_of_some (kxs_mw i e) he1
    have X2 : K.In (h1.push (kxs_mw i e)) := X1.keeps fun b o z => Heap.get?_push_of_some _ z
    refine kxs_callWith (i := i) (x := e) rfl ?_
    refine evalArgs_plain (rest := []) (Calls.spliced_cons (ESX.ldL hns1 lx ?_ TX.kind TX.hkx TX.dx))
    refine Calls.spliced_nil ⟨heu, ?_⟩
    show wpAny _ _ (call (.ref h1.objs.size) [u]) _ _ _
    refine call_mw X2 FB.fb T.q heu hee (by show 1 ≤ sizeLine; rw [sizeLine_eq]; omega) fun h3 t1 k3 e3 => ?_
    have keepL : ∀ b o, b ≠ e → (h1.push (kxs_mw i e)).get? b = some o → h3.get? b = some o := k3
    have hL : s.heap.objs.size ≠ e := Nat.ne_of_gt (Heap.lt_size he)
    have hns3 : h3.Ns s.heap.objs.size (fun y => [(a0.arg, Value.ref e), (a1.arg, u)].reverse.lookup y) := by
      obtain ⟨oL, es, ep, z1, z2⟩ := hns1
      exact ⟨oL, es, ep, k3 _ _ hL z1, z2⟩
    refine PySem.wpAt_of_wpAny ?_
    refine wpAny_execs_cons (plainObj_wpAny_Assign_Attribute (ESX.ldL hns3 lx (ESX.ldL hns3 lu ?_ TX.kind TX.hka (by decide)) TX.kind TX.hkx TX.dx))
    have X3 : K.In h3 := fun b o z => k3 b o (fun hb => by
      have z2 := MO.kin _ _ z
      rw [hb, hbe] at z2
      cases z2) (X2 _ _ z)
    refine set_first FB.st X3 e3 T.sa T.over T.tk T.hd fun h4 tk4 dx k4 hdx ne4 e4 n4 => ?_
    refine wpAny_execs_nil (hq h4 dx t1 tk4 (fun b o hb z => k4 b o hb (k3 b o hb (Heap.get?_push_of_some _ (k1 _ _ (k0 _ _ z))))) e4 (Nat.le_trans ?_ hdx) ne4 n4)
    obtain ⟨oL, es, ep, z1, z2⟩ := hns3
    exact Nat.le_of_lt (Heap.lt_size z1)
end
end PySem.W
/-! RfC -/
set_option maxHeartbeats 2000000
/-! RfC: own exceptions, made. -/
namespace L2
open PySem PySem.Spec PyProof.Rows
section
variable {X : Cx} {C fI : Addr} {B i newId : String} {bmB : List Value} {f x : Str} {p pos : Pos} {e : Expr} {te : TE}
theorem pe_mono' (h : PE X e te) : PE X e (fun σ H Q => ∃ Q', te σ H Q' ∧ ∀ v H1, Q' v H1 → Q v H1) :=
  ⟨fun pins s σ H Q I ⟨Q', a, b⟩ => thn (h.run pins s σ H Q' I a) fun us s1 ⟨v, H1, I1, r1, q1⟩ => ⟨v, H1, I1, r1, b v H1 q1⟩⟩
/-- C(e), C's own __init__ keeping e as f -/
theorem pmk_xi (FB : PySem.W.XiB B i newId bmB) (T : PySem.W.XiC X.prog X.K B i newId bmB C fI f) (r : Raises X (.ref C)) (kC : PySem.W.keepIn X.K (.ref C) = true) (hg : Gl X x) (hm : X.mg x = some (.ref C)) (hsu : X.mg "super" = none) (hr : X.A.depth + 2 < recursionLimit)
    (he : PE X e te) (hdb : (x == ("__debug__" : Str)) = false) (hs : starEach [e] X.env = (false, eval e X.env) :: starEach [] X.env) : PMk X (.Call (.Name x p) [e] [] pos) (fun σ H Q => te σ H fun v H1 => ∀ dx, H1 dx = none → Q (.ref C) (some dx) (upd H1 dx (.xd [(f, v)]))) := by
  intro pins s σ H Q I h
  refine wpAny_Call_Name_kw (ld_glob I hg hm ?_ hdb)
  refine PySem.W.callWith_K (h₀ := X.base) I.ok.mod.kin kC (thn ((pa_cons (pe_mono' he) pa_nil hs).run pos pins s σ H (fun vs H1 => ∃ v, vs = [v] ∧ ∀ dx, H1 dx = none → Q (.ref C) (some dx) (upd H1 dx (.xd [(f, v)]))) I ?_) fun us s1 ⟨vs, H1, I1, r1, v, ev, q1⟩ => ⟨I1.kIn, ?_⟩) hs rfl
  · exact ⟨_, h, fun v H1 q => ⟨v, rfl, q⟩⟩
  subst ev
  cases r1 with
  | @cons _ u _ ur ru rn =>
  cases rn
  show wpAny _ _ (PySem.call (.ref C) [u]) _ _ _
  obtain ⟨nm, N', qn, bs, bm, hdct, sn, sub, ab, col, dd, k0, k1, k2, k3, k5, hC, hT⟩ := PySem.W.excInit_of I1.kIn T.q
  obtain ⟨oc, od, name, qual, params, body, scope, kV, doc, pm, an, cda, ct, cc, osl, x', lk, hoc, _⟩ := id T.fn
  have tI : PySem.W.typeIn X.K (.ref fI) = some (.type "function") := by
    show (X.K.lookup fI).map (·.cls) = _
    rw [lk, hoc]
    rfl
  have bk := I1.bk
  obtain ⟨hp, g, dr, tk, os⟩ := s1
  have kk : ∀ b o, hp.get? b = some o → ((hp.push (PySem.W.kdv_tup [u])).push (PySem.HandSPX.excO C hp.objs.size)).get? b = some o := fun b o e => Heap.get?_push_of_some _ (Heap.get?_push_of_some _ e)
  have hget : ((hp.push (PySem.W.kdv_tup [u])).push (PySem.HandSPX.excO C hp.objs.size)).get? (hp.objs.size + 1) = some (PySem.HandSPX.excO C hp.objs.size) := by heap_get
  have bare := I1.bare
  refine wpAny_call (PySem.HandSPX.call_own FB.fb hT hC (PySem.W.looks_findIn I1.kIn T.ini) (fun self => PySem.W.bind_fn I1.kIn self tI) (by show 1 ≤ sizeLine; rw [sizeLine_eq]; omega)
    (PySem.W.init_walk (s := ⟨(hp.push (PySem.W.kdv_tup [u])).push (PySem.HandSPX.excO C hp.objs.size), g, dr, tk, os⟩) (base := X.base) FB T I1.ok.mod (fun b o e => kk _ _ (bk b o e)) hsu (by rw [make_depth]; omega) ?_ hget fun h' dx t1 tk' k he' hdx ne hn => ⟨rfl, ?_⟩))
  · cases z : X.base.get? (hp.objs.size + 1) with
    | none => rfl
    | some o => exact absurd (Heap.lt_size (bk _ _ z)) (Nat.not_lt.mpr (Nat.le_succ _))
  · obtain ⟨G, g1', g2'⟩ := restrict h' fun b => decide (b ≠ hp.objs.size + 1)
    have gk : ∀ b, b ≠ hp.objs.size + 1 → G.get? b = h'.get? b := fun b hb => g1' b (decide_eq_true hb)
    have ge : G.get? (hp.objs.size + 1) = none := g2' _ (by simp)
    have hdx' : hp.objs.size ≤ dx := by
      rw [Heap.size_push, Heap.size_push] at hdx
      exact Nat.le_trans (Nat.le_add_right _ 2) hdx
    have hnd : H1 dx = none := I1.hok.fresh hdx'
    have J : Inv X pins σ (upd H1 dx (.xd [(f, v)])) ⟨G, g, dr, tk', os⟩ := I1.laid (t' := tk') (fun b o z => by
      have nb : b ≠ hp.objs.size + 1 := Nat.ne_of_lt (Nat.lt_succ_of_lt (Heap.lt_size z))
      rw [gk b nb]
      exact k b o nb (kk b o z)) hdx' ⟨_, hn.at fun o z => (gk dx ne).trans z, fun g => by
        rw [lookup_put]
        by_cases c : g = f
        · rw [if_pos c, if_pos c]; exact ru
        · rw [if_neg c, if_neg c]; exact True.intro⟩
    refine ⟨hp.objs.size + 1, _, _, ⟨G, g, dr, tk', os⟩, _, .ref C, some dx, rfl, J, fun b o z => ?_, ge, he', ⟨rfl, rfl⟩, rfl, rfl, ?_, rfl, bare, r, q1 dx hnd⟩
    · by_cases c : b = hp.objs.size + 1
      · rw [c, ge] at z; cases z
      · exact (gk b c).symm.trans z
    · rw [upd_ne (Ne.symm ne)]
      exact I1.hok.fresh (Nat.le_succ _)
/-- C(), no own __init__ -/
theorem pmk_zero (F : ExcBaseFacts B newId i bmB) (q : PySem.W.excIn X.K C bmB newId = true) (r : Raises X (.ref C)) (kC : PySem.W.keepIn X.K (.ref C) = true) (hg : Gl X x) (hm : X.mg x = some (.ref C)) (hdb : (x == ("__debug__" : Str)) = false) : PMk X (.Call (.Name x p) [] [] pos) (fun _ H Q => Q (.ref C) none H) := by
  intro pins s σ H Q I h
  refine wpAny_Call_Name_kw (ld_glob I hg hm ?_ hdb)
  refine PySem.W.callWith_K0 I.kIn kC ?_
  show wpAny _ _ (PySem.call (.ref C) []) _ _ _
  obtain ⟨bm, N, nm, qn, bs, hdct, sn, sub, ab, col, dd, k0, k1, k2, k3, k5, mN, hC, hN, hni, T⟩ := exc_obj I.kIn q
  refine wpAny_call_exc_subT F T hC hN hni (rest := []) (fun h' e hm => ?_) (Nat.zero_le _)
  exact mk_of I hm r h (I.hok.gone hm.new)
end
end L2
/-! RfD -/
set_option maxHeartbeats 2000000
/-! RfD: try with several clauses, some of them with a name. -/
namespace L2
open PySem PySem.Spec PyProof.Rows
/-- a clause: its class, the slot of its name, what its suite does -/
structure Hd where
  c : Value
  j : Option Nat
  ts : Addr → Value → Option Addr → TS
def Ends.drop (D : Ends) (j : Nat) : Ends := { nx := fun σ' H' => D.nx (σ'.set j none) H', rt := D.rt, bk := fun σ' H' => D.bk (σ'.set j none) H', ct := fun σ' H' => D.ct (σ'.set j none) H' }
def Hd.go (h : Hd) (a : Addr) (cls : Value) (d : Option Addr) : TS := fun D σ H => match h.j with
  | none => h.ts a cls d D σ H
  | some j => h.ts a cls d (D.drop j) (σ.set j (some (.ref a))) H
def wMix (K : PySem.W.Frag) (Wout : WX) (D : Ends) : List Hd → WX
  | [] => Wout
  | h :: r => fun cls d σ H => ∃ b, PySem.W.exmOne K cls h.c = some b ∧ (b = true → ∀ a, H a = none → h.go a cls d D σ H) ∧ (b = false → wMix K Wout D r cls d σ H)
def SuiteOk (X : Cx) (ss : List Stmt) (ts : Addr → Value → Option Addr → TS) : Prop := ∀ (a : Addr) (oe : Obj) (cls : Value) (d : Option Addr) (pn : List (Addr × Obj)), Zc cls d oe → (∃ vs, oe.data = .fields vs) → PSs (X.suite a ((a, oe) :: pn)) ss (ts a cls d)
/-- the name of a clause, if any, and its slot -/
def NameAt (X : Cx) : Option Str → Option Nat → Prop
  | none, none => True
  | some n, some j => X.N[j]? = some n ∧ X.env.kindOf n = some .local
  | _, _ => False
inductive HdsMix (X : Cx) : List ExceptHandler → List Hd → Prop
  | nil : HdsMix X [] []
  | cons {x : Str} {n : Option Str} {h : Hd} {b₀ : Stmt} {suite : List Stmt} {np pos' : Pos} {hds : List ExceptHandler} {l : List Hd} (hc : Names X x h.c) (hn : NameAt X n h.j) (hsu : SuiteOk X (b₀ :: suite) h.ts) (r : HdsMix X hds l) :
      HdsMix X (.ExceptHandler (some (.Name x np)) n (b₀ :: suite) pos' :: hds) (h :: l)
section
variable {X : Cx} {body : List Stmt} {h₀ : ExceptHandler} {hds : List ExceptHandler} {l : List Hd} {pos : Pos} {tb : WX → TS} {Wout : WX}
theorem ps_try_mix (hs : X.stack = X.env :: X.outer) (hf : X.env.frame = some X.env.locals) (hN : X.N.Nodup) (tk : Takes X Wout)
    (hb : ∀ (W : WX) (pn : List (Addr × Obj)) (xe : Value → Shared → Prop), Takes (X.tr pn xe) W → PassesOwn (model X.prog X.w) X.A X.env xe → PSs (X.tr pn xe) body (tb W))
    (hh : HdsMix X (h₀ :: hds) l) : PS X (.Try body (h₀ :: hds) [] [] pos) (fun D σ H => tb (wMix X.K Wout D l) D σ H) := by
  refine ⟨fun pins s σ H D I h => wpAny_Try_except ?_⟩
  have ok := I.ok
  have hfr : X.A.frames = some (X.env :: X.outer) := by rw [ok.frames, hs]
  have back : ∀ {f : Flow} {s1 : Shared}, SP (X.tr (X.pn ++ pins) (fun e s₁ => wpAny (model X.prog X.w) X.A (noteFrame e X.env) (fun _ s₂ => wpAny (model X.prog X.w) X.A (setFlight e none) (fun _ s₃ =>
      wpAny (model X.prog X.w) X.A (handleBy e X.env (h₀ :: hds)) (SP X pins D) X.xe s₃) X.xe s₂) X.xe s₁)) [] D f s1 → SP X pins D f s1 := fun {f s1} hsp => by
    cases f with
    | ret u => exact let ⟨v, σ', H', J', r, q⟩ := hsp; ⟨v, σ', H', J'.ofTry ok, r, q⟩
    | next => exact let ⟨σ', H', J', q⟩ := hsp; ⟨σ', H', J'.ofTry ok, q⟩
    | brk => exact let ⟨σ', H', J', q⟩ := hsp; ⟨σ', H', J'.ofTry ok, q⟩
    | cont => exact let ⟨σ', H', J', q⟩ := hsp; ⟨σ', H', J'.ofTry ok, q⟩
  refine wpAny_mono ((hb (wMix X.K Wout D l) (X.pn ++ pins) (fun e s₁ => wpAny (model X.prog X.w) X.A (noteFrame e X.env) (fun _ s₂ => wpAny (model X.prog X.w) X.A (setFlight e none) (fun _ s₃ =>
    wpAny (model X.prog X.w) X.A (handleBy e X.env (h₀ :: hds)) (SP X pins D) X.xe s₃) X.xe s₂) X.xe s₁) (fun u s' xx => ?_) PassesOwn.looking).run [] s σ H D (I.toTry _) h) (fun f s1 hsp => ?_) (fun e s1 he => he)
  · obtain ⟨a, B, sI, pins', σ', H', cls, d, rfl, J', nb, up, sky, na, os, ag, w⟩ := xx
    have J : Inv X pins σ' H' sI := J'.ofTry ok
    have sky' : Sky B (X.env :: X.outer) a (Zc cls d) X.env.locals s'.heap := by rw [← hs]; exact sky
    show wpAny (model X.prog X.w) X.A (noteFrame (.ref a) X.env) _ _ _
    refine Sky.land Zc.steady hfr hf sky' fun h3 fl3 up3 => ?_
    have J3 : Inv X pins σ' H' { s' with heap := h3 } := J.landed nb fl3.1 (up.trans up3) os ag
    obtain ⟨oe3, vs3, he3, hz3, hd3⟩ := fl3.there
    have nfr : a ∉ frs (X.env :: X.outer) := fun hm => by
      obtain ⟨_, o', e', hnf⟩ := fl3.2.2.1.mem hm
      rw [he3] at e'
      cases e'
      exact hnf _ hd3
    have nL : a ≠ X.env.locals := fun z => nfr (List.mem_filterMap.mpr ⟨X.env, List.mem_cons_self, by rw [hf, z]⟩)
    have nF : a ∉ X.fs := fun hm => let ⟨e, he, q⟩ := List.mem_filterMap.mp hm; nfr (List.mem_filterMap.mpr ⟨e, List.mem_cons_of_mem _ he, q⟩)
    have S3 := J3.suite he3 hd3 na nL nF
    have go : ∀ {hds' : List ExceptHandler} {l' : List Hd}, HdsMix X hds' l' → wMix X.K Wout D l' cls d σ' H' → wpAny (model X.prog X.w) X.A (handleBy (.ref a) X.env hds') (SP X pins D) X.xe { s' with heap := h3 } := by
      intro hds' l' hk
      induction hk with
      | nil =>
        intro w
        refine wpAny_handleBy_nil ?_
        obtain ⟨_, _, _, oe, vs, T, oT, ts', he, hz, hd, h1, hr⟩ := id fl3
        unfold PySem.passOn
        refine wpAny_bind (wpAny_field he hd h1 ?_)
        rw [if_neg (show ¬ ((Value.ref T == Value.none) = true) from by simp)]
        have fin : wpAny (model X.prog X.w) X.A (setFlight (.ref a) X.env.frame) (fun _ s4 => wpAny (model X.prog X.w) X.A (throw (.ref a) : Sem Flow) (SP X pins D) X.xe s4) X.xe { s' with heap := h3 } := by
          rw [hf]
          exact HandSPX.setFlight_upZ fl3 fun h4 hh4 up4 => wpAny_throw (tk _ _ ⟨a, B, sI, pins, σ', H', cls, d, rfl, J, nb, (up.trans up3).trans up4, .inr (.inr (by rw [hs]; exact hh4)), na, os, ag, w⟩)
        first
          | exact wpAny_bind (wpAny_pure (wpAny_bind fin))
          | exact wpAny_bind fin
      | @cons x n h b₀ suite np pos' hds2 l2 hc hn hsu r ih =>
        intro w
        obtain ⟨b, hb1, hyes, hno⟩ := w
        refine wpAny_handleBy_cons (codeAny_handlers_test ?_) (by intro q; cases q)
        have LT : PySem.W.Looks (model X.prog X.w) h3 (typeOf (.ref a)) cls := fun A Q E s k q => wpAny_typeOf_ref (k _ _ he3) (by rw [hz3.1]; exact q)
        have LM := PySem.W.exm_one (M := model X.prog X.w) (J3.kIn) LT hb1
        have test : ∀ {Q : Value → Shared → Prop} {E : Value → Shared → Prop}, Q h.c { s' with heap := h3 } → wpAny (model X.prog X.w) (X.A.mark (some (.ref a))) (eval (.Name x np) X.env) Q E { s' with heap := h3 } := fun {Q E} q => by
          rcases hc with ⟨hg, hdbg, hm | ⟨hm, hv, hnn⟩⟩
          · exact ld_glob (X := X.suite a ((a, oe3) :: (X.pn ++ pins))) S3 hg hm q hdbg
          · exact ld_blt (X := X.suite a ((a, oe3) :: (X.pn ++ pins))) S3 hg hm hv q hnn hdbg
        refine test (LM.here ?_)
        cases b with
        | false =>
          show wpAny _ X.A (handleBy (.ref a) X.env hds2) _ _ _
          exact ih (hno rfl)
        | true =>
          have w2 := hyes rfl a na
          unfold Hd.go at w2
          cases hj : h.j with
          | none =>
            rw [hj] at w2 hn
            cases n with
            | some _ => exact hn.elim
            | none =>
              refine codeAny_handlers_suite (HandSPX.lands_againZ fl3 fun h4 fl4 up4 => ?_)
              have J4 : Inv X pins σ' H' { s' with heap := h4 } := J.landed nb fl4.1 ((up.trans up3).trans up4) os ag
              obtain ⟨oe4, vs4, he4, hz4, hd4⟩ := fl4.there
              refine wpAny_mono ((hsu a oe4 cls d (X.pn ++ pins) hz4 ⟨_, hd4⟩).run [] _ _ H' _ (J4.suite he4 hd4 na nL nF) w2) (fun f s6 hsp => ?_) (fun _ _ z => False.elim z)
              cases f with
              | ret u => exact let ⟨v6, σ6, H6, S6, r6, q6⟩ := hsp; ⟨_, _, _, S6.unsuite ok, r6, q6⟩
              | next => exact let ⟨σ6, H6, S6, q6⟩ := hsp; ⟨_, _, S6.unsuite ok, q6⟩
              | brk => exact let ⟨σ6, H6, S6, q6⟩ := hsp; ⟨_, _, S6.unsuite ok, q6⟩
              | cont => exact let ⟨σ6, H6, S6, q6⟩ := hsp; ⟨_, _, S6.unsuite ok, q6⟩
          | some j =>
            rw [hj] at w2 hn
            cases n with
            | none => exact hn.elim
            | some n =>
              obtain ⟨hi, hln⟩ := hn
              refine codeAny_handlers_suite_as (HandSPX.lands_againZ fl3 fun h4 fl4 up4 => ?_)
              have J4 : Inv X pins σ' H' { s' with heap := h4 } := J.landed nb fl4.1 ((up.trans up3).trans up4) os ag
              obtain ⟨oe4, vs4, he4, hz4, hd4⟩ := fl4.there
              refine store_ok (X := X.suite a ((a, oe4) :: (X.pn ++ pins))) (v := .ref a) (J4.suite he4 hd4 na nL nF) hN hi (.inl hln) rfl (fun s5 S5 => ?_) (.inr hln)
              refine wpAny_mono ((hsu a oe4 cls d (X.pn ++ pins) hz4 ⟨_, hd4⟩).run [] s5 _ H' _ S5 w2) (fun f s6 hsp => ?_) (fun _ _ z => False.elim z)
              have end_ : ∀ {σ6 : St} {H6 : Hp} {Q : Shared → Prop}, Inv (X.suite a ((a, oe4) :: (X.pn ++ pins))) [] σ6 H6 s6 → (∀ s7, Inv X pins (σ6.set j none) H6 s7 → Q s7) →
                  wpAny (model X.prog X.w) X.A (do bindName X.env n .none; unbindBehindTheSuite X.env n pos') (fun _ s7 => Q s7) X.xe s6 := fun {σ6 H6 Q} S6 hq => gone_ok (S6.unsuite ok) hN hi hln hq
              cases f with
              | ret u => exact let ⟨v6, σ6, H6, S6, r6, q6⟩ := hsp; end_ S6 fun s7 J7 => ⟨_, _, _, J7, r6, q6⟩
              | next => exact let ⟨σ6, H6, S6, q6⟩ := hsp; end_ S6 fun s7 J7 => ⟨_, _, J7, q6⟩
              | brk => exact let ⟨σ6, H6, S6, q6⟩ := hsp; end_ S6 fun s7 J7 => ⟨_, _, J7, q6⟩
              | cont => exact let ⟨σ6, H6, S6, q6⟩ := hsp; end_ S6 fun s7 J7 => ⟨_, _, J7, q6⟩
    exact go hh w
  · have q := back hsp
    cases f with
    | next => exact let ⟨σ', H', J', q⟩ := q; wpAny_execs_nil ⟨σ', H', J', q⟩
    | ret u => exact q
    | brk => exact q
    | cont => exact q
end
end L2
/-! Rf12 -/
set_option maxHeartbeats 1000000
/-! Rf12: from the model's expressions to the small syntax. -/
namespace Rf
open PySem PySem.Spec PyProof.Rows L2
/-- what a global name stands for: nothing of the module (a built-in), a def, a constant, an exception class -/
inductive Gk where
  | free | fn (f : Nat) | con (k : Nat) | cls (c : Nat) (f : Option Str) | unk
structure Cc where
  gl : Str → Gk
  N : List Str
  /-- the slots that hold lists which the def changes -/
  mu : Nat → Bool
def mapO {α β : Type} (f : α → Option β) : List α → Option (List β)
  | [] => some []
  | a :: as => match f a, mapO f as with
    | some b, some bs => some (b :: bs)
    | _, _ => none
def vis (sc : Scope) (x : Str) : Bool := match sc.names.lookup x with
  | some .local => true
  | some .cell => true
  | some .free => true
  | _ => false
def gbl (sc : Scope) (x : Str) : Bool := match sc.names.lookup x with
  | some .globalImplicit => true
  | _ => false
def plainN (x : Str) : Bool := !(x == ("__debug__" : Str)) && !(x == ("__classdict__" : Str)) && decide (x ≠ "__name__")
def slotOf (N : List Str) (x : Str) : Option Nat := N.findIdx? fun y => decide (y = x)
def isFree : Gk → Bool
  | .free => true
  | _ => false
def noStar : Expr → Bool
  | .Starred .. => false
  | _ => true
def notSet : Expr → Bool
  | .Set .. => false
  | _ => true
def nsup : Expr → Bool
  | .Call (.Name _ _) [] [] _ => false
  | _ => true
def plainIx : Expr → Bool
  | .Slice .. => false
  | _ => true
def cCon : Const → Option D
  | .none => some .non
  | .bool b => some (.bl b)
  | .int i => some (.int i)
  | .str s => some (.str s)
  | _ => none
def cOp2 : Operator → Option Op2
  | .Add => some .add
  | .Sub => some .sub
  | .Mult => some .mul
  | .FloorDiv => some .fdiv
  | .Mod => some .mod
  | .Pow => some .pow
  | .LShift => some .shl
  | _ => none
def cCp : CmpOp → Option Cp
  | .Eq => some .eq
  | .NotEq => some .ne
  | .Lt => some .lt
  | .LtE => some .le
  | .Gt => some .gt
  | .GtE => some .ge
  | .In => some .isin
  | .NotIn => some .notin
  | .Is => some .is
  | .IsNot => some .isnot
def bOf (x : Str) : Option Bl :=
  if x = "len" then some .len else if x = "int" then some .int else if x = "abs" then some .abs else if x = "min" then some .min else if x = "max" then some .max
  else if x = "sorted" then some .sorted else if x = "list" then some .list else if x = "tuple" then some .tuple else if x = "all" then some .all else if x = "any" then some .any else if x = "sum" then some .sum else none
/-- one type asked for, two -/
def bIs1 (x : Str) : Option Bl := if x = "int" then some .isInt else if x = "bool" then some .isBool else if x = "str" then some .isStr else if x = "tuple" then some .isTuple else if x = "list" then some .isList else none
def bIs2 (x y : Str) : Option Bl := if x = "list" ∧ y = "tuple" then some .isListTuple else if x = "bool" ∧ y = "str" then some .isBoolStr else none
def mOf (x : Str) (n : Nat) : Option Mt :=
  if x = "append" ∧ n = 1 then some .append else if x = "extend" ∧ n = 1 then some .extend else if x = "pop" ∧ n = 0 then some .pop else if x = "pop" ∧ n = 1 then some .popAt
  else if x = "count" ∧ n = 1 then some .count else if x = "index" ∧ n = 1 then some .index else none
def ownOf (N : List Str) (scope : Scope) : List (Str × Nat) := scope.names.filterMap fun p => match p.2 with
  | .local => (slotOf N p.1).map (p.1, ·)
  | .cell => (slotOf N p.1).map (p.1, ·)
  | _ => none
/-- the names that a target of this (written) scope may store -/
def stor (wr : Scope) (x : Str) : Bool := match wr.names.lookup x with
  | some .local => true
  | some .cell => true
  | _ => false
def cT (C : Cc) (wr : Scope) : Nat → Expr → Option T
  | 0, _ => none
  | n + 1, e => match e with
    | .Name x _ => if stor wr x then (slotOf C.N x).map .nm else none
    | .Tuple es _ _ => if es.all noStar then (mapO (cT C wr n) es).map .tp else none
    | _ => none
section
variable (C : Cc) (rec : Scope → Expr → Option E)
def cName (sc : Scope) (x : Str) : Option E :=
  if plainN x then (if vis sc x then (slotOf C.N x).map .var else if gbl sc x then (match C.gl x with
    | .fn f => some (.fnm f)
    | .con k => some (.glb k)
    | _ => none) else none) else none
/-- a free global name: a built-in -/
def frG (sc : Scope) (x : Str) : Bool := plainN x && gbl sc x && isFree (C.gl x)
/-- one list of arguments: at least one, no star -/
def cArgs (sc : Scope) (args : List Expr) : Option (List E) := if !args.isEmpty && args.all noStar then mapO (rec sc) args else none
def cIsi (sc : Scope) : List Expr → Option E
  | [e, .Name t _] => if noStar e && frG C sc t then (match bIs1 t, rec sc e with
    | some f, some e' => some (.blt f [e'])
    | _, _ => none) else none
  | [e, .Tuple [.Name t _, .Name u _] _ _] => if noStar e && frG C sc t && frG C sc u then (match bIs2 t u, rec sc e with
    | some f, some e' => some (.blt f [e'])
    | _, _ => none) else none
  | _ => none
/-- set(e) within sorted, len -/
def cSet (sc : Scope) : List Expr → Option E
  | [.Call (.Name s _) [e] [] _] => if s = "set" && frG C sc s && noStar e then rec sc e else none
  | _ => none
def cBlt (sc : Scope) (x : Str) (args : List Expr) : Option E :=
  if frG C sc x then (if x = "isinstance" then cIsi C rec sc args else
    match (if x = "sorted" then cSet C rec sc args else none) with
    | some e => some (.blt .setsort [e])
    | none => (match bOf x, cArgs rec sc args with
      | some f, some es => some (.blt f es)
      | _, _ => none)) else none
def cCall (sc : Scope) (x : Str) (args : List Expr) : Option E :=
  if !plainN x then none else if vis sc x then (match slotOf C.N x, cArgs rec sc args with
    | some i, some es => some (.cal i es)
    | _, _ => none) else if !gbl sc x then none else (match C.gl x with
    | .fn f => (cArgs rec sc args).map (.call f)
    | .free => cBlt C rec sc x args
    | _ => none)
def cMth (sc : Scope) (o : Expr) (name : Str) (apos pos : Pos) (args : List Expr) : Option E :=
  if nsup o && (apos.endLine == pos.line) && args.all noStar then (match mOf name args.length, rec sc o, mapO (rec sc) args with
    | some m, some o', some es => some (.mth m o' es)
    | _, _, _ => none) else none
def cSub (sc : Scope) (a : Expr) : Expr → Option E
  | .Slice none none (some (.UnaryOp .USub (.Constant (.int i) _ _) _)) _ => if i = 1 then (rec sc a).map .rev else none
  | .Slice lo hi none _ => (match rec sc a, (match lo with
      | none => some none
      | some l => (rec sc l).map some), (match hi with
      | none => some none
      | some l => (rec sc l).map some) with
    | some a', some l, some u => some (.sl a' l u)
    | _, _, _ => none)
  | i => if plainIx i then (match rec sc a, rec sc i with
    | some a', some i' => some (.ix a' i')
    | _, _ => none) else none
def isTupE : Expr → Bool
  | .Tuple .. => true
  | _ => false
def cSrc (sc : Scope) (tg iter : Expr) : Option (Src × List E) :=
  match (match iter with
    | .Call (.Name x _) args [] _ => if frG C sc x && args.all noStar then some (x, args) else none
    | _ => none) with
  | some (x, args) => if x = "range" ∧ args.length = 1 then (mapO (rec sc) args).map (.rng1, ·) else if x = "range" ∧ args.length = 2 then (mapO (rec sc) args).map (.rng2, ·)
    else if x = "enumerate" ∧ args.length = 1 ∧ isTupE tg then (mapO (rec sc) args).map (.enm, ·) else if x = "zip" ∧ args.length = 2 ∧ isTupE tg then (mapO (rec sc) args).map (.zip, ·)
    else (rec sc iter).map fun e => (.it, [e])
  | none => if notSet iter then (rec sc iter).map fun e => (.it, [e]) else none
def cComp (sc : Scope) (elt tg iter : Expr) (ifs : List Expr) (scope : Scope) : Option E :=
  if blkC C.N sc scope (ownOf C.N scope) && notSet iter && decide (ifs.length ≤ 1) then (match cSrc C rec sc tg iter, cT C scope 8 tg, mapO (rec (relS scope sc)) ifs, rec (relS scope sc) elt with
    | some (s, args), some t, some ts, some e => if t.slots.all (fun i => ((ownOf C.N scope).map (·.2)).contains i) then some (.cmpr e t s args ts ((ownOf C.N scope).map (·.2))) else none
    | _, _, _, _ => none) else none
def cE1 (sc : Scope) (e : Expr) : Option E := match e with
  | .Name x _ => cName C sc x
  | .Constant c _ _ => (cCon c).map .con
  | .Tuple es _ _ => if es.all noStar then (mapO (rec sc) es).map .tup else none
  | .List es _ => if es.all noStar then (mapO (rec sc) es).map .lst else none
  | .BinOp a o b _ => (match cOp2 o, rec sc a, rec sc b with
    | some o', some a', some b' => some (.bin o' a' b')
    | _, _, _ => none)
  | .UnaryOp .USub a _ => (rec sc a).map .neg
  | .UnaryOp .Not a _ => (rec sc a).map .not
  | .BoolOp _ [a] _ => rec sc a
  | .BoolOp .And (a :: b :: r) pos => (match rec sc a, rec sc (.BoolOp .And (b :: r) pos) with
    | some a', some b' => some (.and a' b')
    | _, _ => none)
  | .BoolOp .Or (a :: b :: r) pos => (match rec sc a, rec sc (.BoolOp .Or (b :: r) pos) with
    | some a', some b' => some (.or a' b')
    | _, _ => none)
  | .Compare a [op] [b] _ => if notSet b then (match cCp op, rec sc a, rec sc b with
    | some c, some a', some b' => some (.cmp c a' b')
    | _, _, _ => none) else none
  | .Compare a [op, op'] [b, d] _ => if notSet d then (match cCp op, cCp op', rec sc a, rec sc b, rec sc d with
    | some c, some c', some a', some b', some d' => some (.chn c c' a' b' d')
    | _, _, _, _, _ => none) else none
  | .IfExp c a b _ => (match rec sc c, rec sc a, rec sc b with
    | some c', some a', some b' => some (.ite c' a' b')
    | _, _, _ => none)
  | .Subscript a i _ => cSub rec sc a i
  | .Call (.Name x _) args [] _ => cCall C rec sc x args
  | .Call (.Attribute o name apos) args [] pos => cMth rec sc o name apos pos args
  | .ListComp elt [⟨tg, iter, ifs, 0⟩] scope _ => cComp C rec sc elt tg iter ifs scope
  | _ => none
end
def cE (C : Cc) : Nat → Scope → Expr → Option E
  | 0 => fun _ _ => none
  | n + 1 => cE1 C (cE C n)
end Rf
/-! Rf13 -/
set_option maxHeartbeats 1000000
/-! Rf13: what the small syntax says is so: expressions' parts. -/
namespace Rf
open PySem PySem.Spec PyProof.Rows L2
def tst (G : Glb) (cl : CallF) (e : E) (σ : St') (h : AH) : Res Bool := (ev G cl e σ h).bind fun x h1 => .opt (truth h1 x) h1
theorem PE.imp' {X : Cx} {e : Expr} {t t' : TE} (h : PE X e t) (k : ∀ σ H Q, t' σ H Q → t σ H Q) : PE X e t' := ⟨fun pins s σ H Q I q => h.run pins s σ H Q I (k _ _ _ q)⟩
theorem PT.imp' {X : Cx} {e : Expr} {t t' : TT} (h : PT X e t) (k : ∀ σ H Q, t' σ H Q → t σ H Q) : PT X e t' := ⟨fun pins s σ H Q I q => h.run pins s σ H Q I (k _ _ _ q)⟩
theorem PW.imp' {X : Cx} {e : Expr} {t t' : TT} (h : PW X e t) (k : ∀ σ H Q, t' σ H Q → t σ H Q) : PW X e t' := ⟨fun wh pins s σ H Q I q => h.run wh pins s σ H Q I (k _ _ _ q)⟩
theorem PA.imp' {X : Cx} {e : List Expr} {t t' : TA} (h : PA X e t) (k : ∀ σ H Q, t' σ H Q → t σ H Q) : PA X e t' := ⟨fun pos pins s σ H Q I q => h.run pos pins s σ H Q I (k _ _ _ q)⟩
theorem PO.imp' {X : Cx} {e : Option Expr} {t t' : TO} (h : PO X e t) (k : ∀ σ H Q, t' σ H Q → t σ H Q) : PO X e t' := ⟨fun pins s σ H Q I q => h.run pins s σ H Q I (k _ _ _ q)⟩
section
variable {S : Sta} {W : WX} {ι hid : List Addr} {σc : L2.St} {H : Hp} {h : AH}
theorem opt_post {α β : Type} {R : List Addr → List Addr → Hp → Hp → AH → α → β → Prop} {o : Option α} {Q : β → Hp → Prop} (p : Post S R W ι hid σc H (Res.opt o h) Q) : ∃ r, o = some r ∧ ∀ b H', Kp ι H H' → HRep S ι hid H' h → R ι hid H H' h r b → Q b H' := by
  cases o with
  | none => exact False.elim p
  | some r => exact ⟨r, rfl, p⟩
theorem RE.weak {fr : Bool} {H' : Hp} {h' : AH} {d : D} {v : V} (r : RE S true ι hid H H' h' d v) : RE S fr ι hid H H' h' d v := ⟨r.1, fun _ => r.2 rfl⟩
theorem opt_done {fr : Bool} {o : Option D} {Q : VK} (p : Post S (RE S fr) W ι hid σc H (Res.opt o h) Q) : ∃ r, o = some r ∧ Done S ι hid H h r Q := by
  obtain ⟨r, e, q⟩ := opt_post p
  exact ⟨r, e, fun v H' k x y => q v H' k x y.weak⟩
/-- a value that is no list, over the heap as it stands -/
theorem Post.val {fr : Bool} {d : D} {v : V} {Q : VK} (p : Post S (RE S fr) W ι hid σc H (.ok d h) Q) (hr : HRep S ι hid H h) (r : Rep S ι hid H d v) (nl : fr = true → ∀ ds, d ≠ .lst ds) : Q v H :=
  p v H Kp.refl hr ⟨r, fun e ds z => absurd z (nl e ds)⟩
end

/-! ### lists of names and arguments -/
theorem slotOf_get {N : List Str} {x : Str} {i : Nat} (h : slotOf N x = some i) : N[i]? = some x := by
  obtain ⟨hk, h1, _⟩ := List.findIdx?_eq_some_iff_getElem.mp h
  rw [List.getElem?_eq_getElem hk, of_decide_eq_true h1]
theorem vis_ok {sc : Scope} {x : Str} (h : vis sc x = true) : Vis sc x := by
  unfold vis at h
  split at h
  · exact .inl (by assumption)
  · exact .inr (.inl (by assumption))
  · exact .inr (.inr (by assumption))
  · cases h
theorem gbl_ok {sc : Scope} {x : Str} (h : gbl sc x = true) : sc.names.lookup x = some .globalImplicit := by
  unfold gbl at h
  split at h
  · assumption
  · cases h
theorem plainN_ok {x : Str} (h : plainN x = true) : (x == ("__debug__" : Str)) = false ∧ (x == ("__classdict__" : Str)) = false ∧ x ≠ "__name__" := by
  unfold plainN at h
  simp only [Bool.and_eq_true, Bool.not_eq_true', decide_eq_true_eq] at h
  exact ⟨h.1.1, h.1.2, h.2⟩
theorem star_cons {e : Expr} {es : List Expr} (h : noStar e = true) (env : Env) : starEach (e :: es) env = (false, eval e env) :: starEach es env := by
  cases e <;> first | rfl | cases h
theorem star_none {es : List Expr} (h : es.all noStar = true) (env : Env) (pos : Pos) : (backTo pos (starEach es env)).any (·.1) = false := by
  induction es with
  | nil => rfl
  | cons e es ih =>
    simp only [List.all_cons, Bool.and_eq_true] at h
    rw [star_cons h.1]
    show (false || (backTo pos (starEach es env)).any (·.1)) = false
    rw [ih h.2]; rfl
theorem mapO_cons {α β : Type} {f : α → Option β} {a : α} {as : List α} {bs : List β} (h : mapO f (a :: as) = some bs) : ∃ b cs, f a = some b ∧ mapO f as = some cs ∧ bs = b :: cs := by
  have h : (match f a, mapO f as with
    | some b, some bs => some (b :: bs)
    | _, _ => none) = some bs := h
  split at h
  · rename_i b cs e1 e2
    exact ⟨b, cs, e1, e2, (Option.some.inj h).symm⟩
  · cases h
theorem mapO_len {α β : Type} {f : α → Option β} : ∀ {as : List α} {bs : List β}, mapO f as = some bs → bs.length = as.length
  | [], _, h => by cases h; rfl
  | a :: as, _, h => by
    obtain ⟨b, cs, _, h2, rfl⟩ := mapO_cons h
    exact congrArg (· + 1) (mapO_len h2)

/-! ### what a context must be -/
structure FnAt (S : Sta) (P : Prg) (k : Nat) (X : Cx) (f : Nat) (a : Addr) : Prop where
  keep : PySem.W.keepIn X.K (.ref a) = true
  ok : ∃ fd ps, FnOk X.prog X.w X.K X.mg X.base (L2.CX X.prog X.w) k a fd ps (spD S P k f) ∧ Binds X.K fd ps []
/-- an exception class: without own __init__, or with one that keeps its argument as f -/
def ClsOk (S : Sta) (mg : Str → Option Value) (x : Str) (c : Nat) (fo : Option Str) : Prop := ∃ C, S.ca c = some C ∧ mg x = some (.ref C) ∧ mg "super" = none ∧ PySem.W.keepIn S.K (.ref C) = true ∧ PySem.W.subIn S.K (.ref C) (.type "BaseException") = some true ∧ PySem.W.typeIn S.K (.ref C) = some (.type "type") ∧
  match fo with
  | none => ∃ B i newId bmB, ExcBaseFacts B newId i bmB ∧ PySem.W.excIn S.K C bmB newId = true
  | some f => S.cf c = some f ∧ XfC S.K C ∧ PySem.W.findIn S.K (.ref C) f = some none ∧ ∃ B i newId bmB fI, PySem.W.XiB B i newId bmB ∧ PySem.W.XiC S.P S.K B i newId bmB C fI f
/-- which clause takes which exception -/
def ExT (S : Sta) : Prop := ∀ a b A B, S.ca a = some A → S.ca b = some B → PySem.W.exmOne S.K (.ref A) (.ref B) = some (decide (b = a))
def GlOk (S : Sta) (P : Prg) (mg : Str → Option Value) (x : Str) : Gk → Prop
  | .free => mg x = none
  | .fn f => ∃ a, S.fa f = some a ∧ mg x = some (.ref a)
  | .con j => ∃ u v d, mg x = some u ∧ RelV v u ∧ P.G.con j = some d ∧ (∀ ds, d ≠ .lst ds) ∧ ∀ ι hid H, RepN S ι hid H d v
  | .cls c fo => ClsOk S mg x c fo
  | _ => True
structure Good (C : Cc) (S : Sta) (P : Prg) (k : Nat) (X : Cx) (W : WX) (sc : Scope) : Prop where
  prog : X.prog = S.P
  w : X.w = S.w
  K : X.K = S.K
  N : X.N = C.N
  nd : X.N.Nodup
  scope : X.env.scope = sc
  calm : X.calm = true
  room : Room k X.A
  tk : Takes X W
  gl : ∀ x, GlOk S P X.mg x (C.gl x)
  fns : ∀ f a, S.fa f = some a → FnAt S P k X f a
  fr : ∀ f, P.G.fr f = frOf P f
theorem Good.u {C : Cc} {S : Sta} {P : Prg} {k : Nat} {X : Cx} {W : WX} {sc : Scope} (g : Good C S P k X W sc) : X.A.units + 65 < cLine := by
  have := g.room.un
  omega
theorem Good.gb {C : Cc} {S : Sta} {P : Prg} {k : Nat} {X : Cx} {W : WX} {sc : Scope} (g : Good C S P k X W sc) {x : Str} (h : gbl sc x = true) : Gl X x := by
  show X.env.scope.names.lookup x = some .globalImplicit
  rw [g.scope]
  exact gbl_ok h
theorem Good.free {C : Cc} {S : Sta} {P : Prg} {k : Nat} {X : Cx} {W : WX} {sc : Scope} (g : Good C S P k X W sc) {x : Str} (h : frG C sc x = true) : Gl X x ∧ X.mg x = none ∧ (x == ("__debug__" : Str)) = false ∧ x ≠ "__name__" := by
  unfold frG at h
  simp only [Bool.and_eq_true] at h
  obtain ⟨p1, p2, p3⟩ := plainN_ok h.1.1
  refine ⟨g.gb h.1.2, ?_, p1, p3⟩
  have q := g.gl x
  cases e : C.gl x with
  | free => rw [e] at q; exact q
  | _ => rw [e] at h; cases h.2
/-- the soundness of one expression -/
structure Snd1 (P : Prg) (S : Sta) (k : Nat) (X : Cx) (W : WX) (e : Expr) (E' : E) : Prop where
  pe : PE X e (tR S (RE S (E'.fresh P.G.fr)) W (ev P.G (Rf.call P k) E'))
  pt : PT X e (tR S REq W (tst P.G (Rf.call P k) E'))
  pw : ∀ op vs pos, e = .BoolOp op vs pos → PW X e (tR S REq W (tst P.G (Rf.call P k) E'))
def Snd (C : Cc) (S : Sta) (P : Prg) (k : Nat) (rec : Scope → Expr → Option E) : Prop := ∀ sc e E', rec sc e = some E' → ∀ X W, Good C S P k X W sc → Snd1 P S k X W e E'
section
variable {C : Cc} {S : Sta} {P : Prg} {k : Nat} {X : Cx} {W : WX} {sc : Scope} {e : Expr} {E' : E}
/-- an expression tested by its value's truth -/
theorem Snd1.of (hK : X.K = S.K) (h : PE X e (tR S (RE S (E'.fresh P.G.fr)) W (ev P.G (Rf.call P k) E'))) (he : ∀ whole, isTrue e X.env whole = (do let v ← whole; standAt e.pos; holding [v] (truthy v))) (nb : ∀ op vs pos, e ≠ .BoolOp op vs pos) : Snd1 P S k X W e E' := by
  refine ⟨h, ⟨fun pins s σc H Q I ⟨σ, g, ι, hid, sr, hr, p⟩ => ?_⟩, fun op vs pos z => absurd z (nb op vs pos)⟩
  refine isTrue_plain (thn (h.run pins s σc H (fun x H1 => ∃ ι hid g d r, HRep S ι hid H1 g ∧ Rep S ι hid H1 d x ∧ truth g d = some r ∧ Q r H1) I ⟨σ, g, ι, hid, sr, hr, ?_⟩) fun v s1 ⟨x, H1, I1, r1, q1⟩ => truth_ok hK pins s1 σc H1 x v Q I1 r1 q1) (he _)
  refine Post.imp (Post.bind (R1 := RE S _) back_REq p) fun x H1 ⟨d, h1, k1, x1, r1, p1⟩ => ?_
  obtain ⟨r, e1, q⟩ := opt_post p1
  exact ⟨ι, hid, h1, d, r, x1, r1.1, e1, q r H1 Kp.refl x1 rfl⟩
theorem pa_ok {rec : Scope → Expr → Option E} (hS : Snd C S P k rec) (g : Good C S P k X W sc) : ∀ {args : List Expr} {es : List E}, args.all noStar = true → mapO (rec sc) args = some es → PA X args (tR S (RA S) W (evs P.G (Rf.call P k) es))
  | [], es, _, h => by
    cases h
    exact PA.imp' pa_nil fun σc H Q ⟨σ, h, ι, hid, sr, hr, p⟩ => p [] H Kp.refl hr .nil
  | a :: as, es, hs, h => by
    obtain ⟨b, cs, e1, e2, rfl⟩ := mapO_cons h
    simp only [List.all_cons, Bool.and_eq_true] at hs
    refine PA.imp' (pa_cons (hS sc a b e1 X W g).pe (pa_ok hS g hs.2 e2) (star_cons hs.1 _)) fun σc H Q ⟨σ, h, ι, hid, sr, hr, p⟩ => ⟨σ, h, ι, hid, sr, hr, ?_⟩
    refine Post.imp (Post.bind (R1 := RE S _) back_RA p) fun x H1 ⟨d, h1, k1, x1, r1, p1⟩ => ⟨σ, h1, ι, hid, sr.keep k1, x1, ?_⟩
    refine Post.imp (Post.bind (R1 := RA S) back_RA p1) fun xs H2 ⟨ds, h2, k2, x2, r2, p2⟩ => ?_
    exact p2 (x :: xs) H2 Kp.refl x2 (.cons (r1.1.keep k2) r2)
theorem cArgs_some {rec : Scope → Expr → Option E} {args : List Expr} {es : List E} (h : cArgs rec sc args = some es) : ∃ a as, args = a :: as ∧ args.all noStar = true ∧ mapO (rec sc) args = some es := by
  unfold cArgs at h
  split at h
  · rename_i hc
    rw [Bool.and_eq_true] at hc
    cases args with
    | nil => cases hc.1
    | cons a as => exact ⟨a, as, rfl, hc.2, h⟩
  · cases h

/-! ### names, constants -/
theorem name_ok {x : Str} {pos : Pos} (g : Good C S P k X W sc) (h : cName C sc x = some E') : Snd1 P S k X W (.Name x pos) E' := by
  unfold cName at h
  split at h <;> try contradiction
  rename_i hp
  obtain ⟨p1, p2, p3⟩ := plainN_ok hp
  refine Snd1.of g.K ?_ (fun _ => rfl) (fun _ _ _ z => by cases z)
  split at h
  · rename_i hv
    obtain ⟨i, e1, e2⟩ := Option.map_eq_some_iff.mp h
    subst e2
    refine PE.imp' (pe_var (i := i) (by rw [g.N]; exact slotOf_get e1) (by rw [g.scope]; exact vis_ok hv) p1 p2) fun σc H Q ⟨σ, h, ι, hid, sr, hr, p⟩ => ?_
    obtain ⟨d, e3, q⟩ := opt_post p
    obtain ⟨v, e4, r⟩ := sr.var e3
    exact ⟨v, e4, q v H Kp.refl hr ⟨r, fun z => by cases z⟩⟩
  · split at h <;> try contradiction
    rename_i hg
    have gg := g.gl x
    split at h
    · rename_i f ef
      cases h
      rw [ef] at gg
      obtain ⟨a, e1, e2⟩ := gg
      exact PE.imp' (pe_glob (v := .ref a) (g.gb hg) e2 rfl p1) fun σc H Q ⟨σ, h, ι, hid, sr, hr, p⟩ => p (.ref a) H Kp.refl hr ⟨.inl (.fn e1), fun z => by cases z⟩
    · rename_i j ef
      cases h
      rw [ef] at gg
      obtain ⟨u, v, d, e1, e2, e3, e4, e5⟩ := gg
      refine PE.imp' (pe_glob (v := v) (g.gb hg) e1 e2 p1) fun σc H Q ⟨σ, h, ι, hid, sr, hr, p⟩ => ?_
      obtain ⟨d', e6, q⟩ := opt_post p
      rw [e3] at e6
      cases e6
      exact q v H Kp.refl hr ⟨.inl (e5 _ _ _), fun z => by cases z⟩
    · cases h
theorem con_ok {c : Const} {j : Nat} {pos : Pos} (hK : X.K = S.K) (h : (cCon c).map E.con = some E') : Snd1 P S k X W (.Constant c j pos) E' := by
  obtain ⟨d, e1, e2⟩ := Option.map_eq_some_iff.mp h
  subst e2
  refine Snd1.of hK ?_ (fun _ => rfl) (fun _ _ _ z => by cases z)
  cases c with
  | none => cases e1; exact PE.imp' pe_non fun σc H Q ⟨σ, h, ι, hid, sr, hr, p⟩ => p.val hr (.inl .non) fun z => by cases z
  | bool b => cases e1; exact PE.imp' pe_bl fun σc H Q ⟨σ, h, ι, hid, sr, hr, p⟩ => p.val hr (.inl (.bl b)) fun z => by cases z
  | int b => cases e1; exact PE.imp' pe_int fun σc H Q ⟨σ, h, ι, hid, sr, hr, p⟩ => p.val hr (.inl (.int b)) fun z => by cases z
  | str b => cases e1; exact PE.imp' pe_str fun σc H Q ⟨σ, h, ι, hid, sr, hr, p⟩ => p.val hr (.inl (.str b)) fun z => by cases z
  | _ => cases e1

/-! ### displays -/
theorem tup_ok {rec : Scope → Expr → Option E} (hS : Snd C S P k rec) (g : Good C S P k X W sc) {es : List Expr} {j : Nat} {pos : Pos} (hs : es.all noStar = true) (h : (mapO (rec sc) es).map E.tup = some E') : Snd1 P S k X W (.Tuple es j pos) E' := by
  obtain ⟨fs, e1, e2⟩ := Option.map_eq_some_iff.mp h
  subst e2
  refine Snd1.of g.K ?_ (fun _ => rfl) (fun _ _ _ z => by cases z)
  refine PE.imp' (pe_tup (pa_ok hS g hs e1)) fun σc H Q ⟨σ, h, ι, hid, sr, hr, p⟩ => ⟨σ, h, ι, hid, sr, hr, ?_⟩
  refine Post.imp (Post.bind (R1 := RA S) back_RE p) fun vs H1 ⟨ds, h1, k1, x1, r1, p1⟩ => ?_
  cases hc : ds.any D.isRef with
  | true => simp only [hc, if_true] at p1; exact False.elim p1
  | false =>
    simp only [hc, Bool.false_eq_true, if_false] at p1
    by_cases hl : ds.length ≤ lim
    · rw [if_pos hl] at p1
      have rn := r1.noref hc
      refine ⟨by rw [← rn.length]; exact lenline hl, fun q n => ?_⟩
      obtain ⟨a, b, c⟩ := mk_tup (fr := true) x1 n rn
      exact p1 _ _ a b c.weak
    · rw [if_neg hl] at p1; exact False.elim p1
theorem lst_ok {rec : Scope → Expr → Option E} (hS : Snd C S P k rec) (g : Good C S P k X W sc) {es : List Expr} {pos : Pos} (hs : es.all noStar = true) (h : (mapO (rec sc) es).map E.lst = some E') : Snd1 P S k X W (.List es pos) E' := by
  obtain ⟨fs, e1, e2⟩ := Option.map_eq_some_iff.mp h
  subst e2
  refine Snd1.of g.K ?_ (fun _ => rfl) (fun _ _ _ z => by cases z)
  refine PE.imp' (pe_lst (pa_ok hS g hs e1)) fun σc H Q ⟨σ, h, ι, hid, sr, hr, p⟩ => ⟨σ, h, ι, hid, sr, hr, ?_⟩
  refine Post.imp (Post.bind (R1 := RA S) back_RE p) fun vs H1 ⟨ds, h1, k1, x1, r1, p1⟩ => ?_
  cases hc : ds.any D.isRef with
  | true => simp only [hc, if_true] at p1; exact False.elim p1
  | false =>
    simp only [hc, Bool.false_eq_true, if_false] at p1
    by_cases hl : ds.length ≤ lim
    · rw [if_pos hl] at p1
      have rn := r1.noref hc
      refine ⟨by rw [← rn.length]; exact lenline hl, fun q n => ?_⟩
      obtain ⟨a, b, c⟩ := mk_lst (fr := true) x1 n rn
      exact p1 _ _ a b c.weak
    · rw [if_neg hl] at p1; exact False.elim p1

/-! ### operators -/
theorem cOp2_ok {o : Operator} {o' : Op2} (h : cOp2 o = some o') : o = oO o' := by
  cases o <;> first | (cases h; rfl) | cases h
theorem cCp_ok {o : CmpOp} {o' : Cp} (h : cCp o = some o') : o = cO o' := by
  cases o <;> first | (cases h; rfl) | cases h
theorem bin_ok {a b : Expr} {a' b' : E} {o : Op2} {pos : Pos} (g : Good C S P k X W sc) (ha : Snd1 P S k X W a a') (hb : Snd1 P S k X W b b') : Snd1 P S k X W (.BinOp a (oO o) b pos) (.bin o a' b') := by
  refine Snd1.of g.K ?_ (fun _ => rfl) (fun _ _ _ z => by cases z)
  refine PE.imp' (pe_op (op2_ok (S := S) g.K o) ha.pe hb.pe) fun σc H Q ⟨σ, h, ι, hid, sr, hr, p⟩ => ⟨σ, h, ι, hid, sr, hr, ?_⟩
  refine Post.imp (Post.bind (R1 := RE S _) back_RE p) fun x H1 ⟨d, h1, k1, x1, r1, p1⟩ => ⟨σ, h1, ι, hid, sr.keep k1, x1, ?_⟩
  refine Post.imp (Post.bind (R1 := RE S _) back_RE p1) fun y H2 ⟨f, h2, k2, x2, r2, p2⟩ => ?_
  obtain ⟨r, e, dn⟩ := opt_done p2
  exact ⟨ι, hid, h2, d, f, r, x2, r1.1.keep k2, r2.1, e, dn⟩
theorem neg_ok {a : Expr} {a' : E} {pos : Pos} (g : Good C S P k X W sc) (ha : Snd1 P S k X W a a') : Snd1 P S k X W (.UnaryOp .USub a pos) (.neg a') := by
  refine Snd1.of g.K ?_ (fun _ => rfl) (fun _ _ _ z => by cases z)
  refine PE.imp' (pe_un un_neg ha.pe) fun σc H Q ⟨σ, h, ι, hid, sr, hr, p⟩ => ⟨σ, h, ι, hid, sr, hr, ?_⟩
  refine Post.imp (Post.bind (R1 := RE S _) back_RE p) fun x H1 ⟨d, h1, k1, x1, r1, p1⟩ => ?_
  cases d with
  | int i => exact ⟨i, r1.1.int, p1.val x1 (.inl (.int _)) fun z => by cases z⟩
  | _ => exact False.elim p1
theorem not_ok {a : Expr} {a' : E} {pos : Pos} (g : Good C S P k X W sc) (ha : Snd1 P S k X W a a') : Snd1 P S k X W (.UnaryOp .Not a pos) (.not a') := by
  refine ⟨?_, ?_, fun _ _ _ z => by cases z⟩
  · refine PE.imp' (pe_notT ha.pe) fun σc H Q ⟨σ, h, ι, hid, sr, hr, p⟩ => ⟨σ, h, ι, hid, sr, hr, ?_⟩
    refine Post.imp (Post.bind (R1 := RE S _) back_RE p) fun x H1 ⟨d, h1, k1, x1, r1, p1⟩ => ?_
    obtain ⟨r, e, q⟩ := opt_post p1
    obtain ⟨b, e1, e2⟩ := Option.map_eq_some_iff.mp e
    subst e2
    exact ⟨b, truth_v g.K x1 r1.1 e1, q _ H1 Kp.refl x1 ⟨.inl (.bl _), fun z => by cases z⟩⟩
  · refine PT.imp' (pt_not ha.pt) fun σc H Q ⟨σ, h, ι, hid, sr, hr, p⟩ => ⟨σ, h, ι, hid, sr, hr, ?_⟩
    unfold tst at p ⊢
    have p : Post S REq W ι hid σc H (((ev P.G (Rf.call P k) a' σ h).bind fun x h1 => .opt ((truth h1 x).map fun b => .bl !b) h1).bind fun x h1 => .opt (truth h1 x) h1) Q := p
    cases e : ev P.G (Rf.call P k) a' σ h with
    | no => rw [e] at p; exact p
    | ex _ _ => rw [e] at p; exact p
    | ok d h1 =>
      rw [e] at p
      simp only [Res.bind_ok] at p ⊢
      cases et : truth h1 d with
      | none => rw [et] at p; exact p
      | some b =>
        rw [et] at p
        intro c H' k' x' ec
        have ec : b = c := ec
        subst ec
        exact p (!b) H' k' x' rfl
end
end Rf
/-! Rf14 -/
set_option maxHeartbeats 1000000
/-! Rf14: expressions: and, or, comparisons, calls, comprehensions; the whole. -/
namespace Rf
open PySem PySem.Spec PyProof.Rows L2
section
variable {C : Cc} {S : Sta} {P : Prg} {k : Nat} {X : Cx} {W : WX} {sc : Scope} {e : Expr} {E' : E}
theorem Post.back {α β : Type} {R : List Addr → List Addr → Hp → Hp → AH → α → β → Prop} {ι hid : List Addr} {σc : L2.St} {H H1 : Hp} {h1 : AH} {r : Res α} {Q : β → Hp → Prop} (p : Post S R W ι hid σc H r Q) (bk : Back S R) (k1 : Kp ι H H1) (x1 : HRep S ι hid H1 h1) : Post S R W ι hid σc H1 r Q := by
  cases r with
  | ok a h2 => exact fun b H2 k2 x2 r2 => p b H2 (k1.trans k2) x2 (bk _ _ _ _ _ _ _ _ _ k1 x1 r2)
  | ex e h2 => exact fun c dx H2 k2 => p c dx H2 (k1.trans k2)
  | no => exact p
theorem Post.weak {ι hid : List Addr} {σc : L2.St} {H : Hp} {r : Res D} {f1 f2 : Bool} {Q : VK} (p : Post S (RE S f1) W ι hid σc H r Q) (i : f1 = true → f2 = true) : Post S (RE S f2) W ι hid σc H r Q := by
  cases r with
  | ok a h2 => exact fun b H2 k2 x2 r2 => p b H2 k2 x2 ⟨r2.1, fun z => r2.2 (i z)⟩
  | ex e h2 => exact p
  | no => exact p
theorem post_tst {cl : CallF} {G : Glb} {ι hid : List Addr} {σc : L2.St} {H : Hp} {a : E} {σ : St'} {h : AH} {f : Bool → AH → Res Bool} {Q : Bool → Hp → Prop} {m : Res Bool} (em : m = (tst G cl a σ h).bind f) (p : Post S REq W ι hid σc H m Q) :
    Post S REq W ι hid σc H (tst G cl a σ h) (fun b H1 => ∃ h1, Kp ι H H1 ∧ HRep S ι hid H1 h1 ∧ Post S REq W ι hid σc H1 (f b h1) Q) := by
  subst em
  exact Post.imp (Post.bind (R1 := REq) back_REq p) fun b H1 ⟨b', h1, k1, x1, e1, p1⟩ => ⟨h1, k1, x1, by rw [← show b' = b from e1]; exact p1⟩
theorem tst_and (G : Glb) (cl : CallF) (a b : E) (σ : St') (h : AH) : tst G cl (.and a b) σ h = (tst G cl a σ h).bind fun c h1 => if c then tst G cl b σ h1 else .ok false h1 := by
  unfold tst
  show ((ev G cl a σ h).bind fun x h1 => match truth h1 x with
    | some true => ev G cl b σ h1
    | some false => .ok x h1
    | none => .no).bind _ = _
  cases ev G cl a σ h with
  | no => rfl
  | ex _ _ => rfl
  | ok x h1 =>
    simp only [Res.bind_ok]
    cases e : truth h1 x with
    | none => rfl
    | some c =>
      cases c with
      | true => rfl
      | false => simp only [Res.bind_ok, Res.opt_some, e]; rfl
theorem tst_or (G : Glb) (cl : CallF) (a b : E) (σ : St') (h : AH) : tst G cl (.or a b) σ h = (tst G cl a σ h).bind fun c h1 => if c then .ok true h1 else tst G cl b σ h1 := by
  unfold tst
  show ((ev G cl a σ h).bind fun x h1 => match truth h1 x with
    | some true => .ok x h1
    | some false => ev G cl b σ h1
    | none => .no).bind _ = _
  cases ev G cl a σ h with
  | no => rfl
  | ex _ _ => rfl
  | ok x h1 =>
    simp only [Res.bind_ok]
    cases e : truth h1 x with
    | none => rfl
    | some c =>
      cases c with
      | true => simp only [Res.bind_ok, Res.opt_some, e]; rfl
      | false => rfl
theorem tst_ite (G : Glb) (cl : CallF) (c a b : E) (σ : St') (h : AH) : tst G cl (.ite c a b) σ h = (tst G cl c σ h).bind fun r h1 => if r then tst G cl a σ h1 else tst G cl b σ h1 := by
  unfold tst
  show ((ev G cl c σ h).bind fun x h1 => match truth h1 x with
    | some true => ev G cl a σ h1
    | some false => ev G cl b σ h1
    | none => .no).bind _ = _
  cases ev G cl c σ h with
  | no => rfl
  | ex _ _ => rfl
  | ok x h1 =>
    simp only [Res.bind_ok]
    cases e : truth h1 x with
    | none => rfl
    | some r => cases r <;> rfl
theorem ev_ite (G : Glb) (cl : CallF) (c a b : E) (σ : St') (h : AH) : ev G cl (.ite c a b) σ h = (tst G cl c σ h).bind fun r h1 => if r then ev G cl a σ h1 else ev G cl b σ h1 := by
  unfold tst
  show ((ev G cl c σ h).bind fun x h1 => match truth h1 x with
    | some true => ev G cl a σ h1
    | some false => ev G cl b σ h1
    | none => .no) = _
  cases ev G cl c σ h with
  | no => rfl
  | ex _ _ => rfl
  | ok x h1 =>
    simp only [Res.bind_ok]
    cases e : truth h1 x with
    | none => rfl
    | some r => cases r <;> rfl
theorem and_ok {a b : Expr} {r : List Expr} {a' b' : E} {pos : Pos} (g : Good C S P k X W sc) (ha : Snd1 P S k X W a a') (hb : Snd1 P S k X W (.BoolOp .And (b :: r) pos) b') : Snd1 P S k X W (.BoolOp .And (a :: b :: r) pos) (.and a' b') := by
  have w : PW X (.BoolOp .And (a :: b :: r) pos) (tR S REq W (tst P.G (Rf.call P k) (.and a' b'))) := by
    refine PW.imp' (pw_and ha.pt (hb.pw _ _ _ rfl)) fun σc H Q ⟨σ, h, ι, hid, sr, hr, p⟩ => ⟨σ, h, ι, hid, sr, hr, ?_⟩
    refine Post.imp (post_tst (tst_and _ _ _ _ _ _) p) fun c H1 ⟨h1, k1, x1, p1⟩ => ?_
    cases c with
    | true => exact ⟨σ, h1, ι, hid, sr.keep k1, x1, p1⟩
    | false => exact p1 false H1 Kp.refl x1 rfl
  refine ⟨?_, w.pt, fun _ _ _ _ => w⟩
  refine PE.imp' (pe_andT ha.pe hb.pe) fun σc H Q ⟨σ, h, ι, hid, sr, hr, p⟩ => ⟨σ, h, ι, hid, sr, hr, ?_⟩
  refine Post.imp (Post.bind (R1 := RE S _) back_RE p) fun x H1 ⟨d, h1, k1, x1, r1, p1⟩ => ?_
  cases et : truth h1 d with
  | none => simp only [et] at p1; exact False.elim p1
  | some c =>
    refine ⟨c, truth_v g.K x1 r1.1 et, ?_⟩
    cases c with
    | true => simp only [et] at p1; exact ⟨σ, h1, ι, hid, sr.keep k1, x1, p1.weak fun z => by cases z⟩
    | false => simp only [et] at p1; exact p1.val x1 r1.1 fun z => by cases z
theorem or_ok {a b : Expr} {r : List Expr} {a' b' : E} {pos : Pos} (g : Good C S P k X W sc) (ha : Snd1 P S k X W a a') (hb : Snd1 P S k X W (.BoolOp .Or (b :: r) pos) b') : Snd1 P S k X W (.BoolOp .Or (a :: b :: r) pos) (.or a' b') := by
  have w : PW X (.BoolOp .Or (a :: b :: r) pos) (tR S REq W (tst P.G (Rf.call P k) (.or a' b'))) := by
    refine PW.imp' (pw_or ha.pt (hb.pw _ _ _ rfl)) fun σc H Q ⟨σ, h, ι, hid, sr, hr, p⟩ => ⟨σ, h, ι, hid, sr, hr, ?_⟩
    refine Post.imp (post_tst (tst_or _ _ _ _ _ _) p) fun c H1 ⟨h1, k1, x1, p1⟩ => ?_
    cases c with
    | false => exact ⟨σ, h1, ι, hid, sr.keep k1, x1, p1⟩
    | true => exact p1 true H1 Kp.refl x1 rfl
  refine ⟨?_, w.pt, fun _ _ _ _ => w⟩
  refine PE.imp' (pe_orT ha.pe hb.pe) fun σc H Q ⟨σ, h, ι, hid, sr, hr, p⟩ => ⟨σ, h, ι, hid, sr, hr, ?_⟩
  have p : Post S (RE S (a'.fresh P.G.fr && b'.fresh P.G.fr)) W ι hid σc H ((ev P.G (Rf.call P k) a' σ h).bind fun x h1 => match truth h1 x with
    | some true => .ok x h1
    | some false => ev P.G (Rf.call P k) b' σ h1
    | none => .no) Q := p
  cases ea : ev P.G (Rf.call P k) a' σ h with
  | no => rw [ea] at p; exact p
  | ex _ _ => rw [ea] at p; exact p
  | ok d h1 =>
    rw [ea] at p
    simp only [Res.bind_ok] at p
    intro x H1 k1 x1 r1
    cases et : truth h1 d with
    | none => simp only [et] at p; exact False.elim p
    | some c =>
      refine ⟨c, truth_v g.K x1 r1.1 et, ?_⟩
      cases c with
      | true => simp only [et] at p; exact p x H1 k1 x1 ⟨r1.1, fun z => r1.2 (Bool.and_eq_true _ _ ▸ z).1⟩
      | false =>
        simp only [et] at p
        exact ⟨σ, h1, ι, hid, sr.keep k1, x1, (Post.back p back_RE k1 x1).weak fun z => (Bool.and_eq_true _ _ ▸ z).2⟩

/-! ### comparisons -/
theorem set_marks {op : CmpOp} {b : Expr} (h : notSet b = true) : behindInMarks op b = false := by
  cases b <;> first | rfl | cases h
theorem cmp_ok {a b : Expr} {a' b' : E} {c : Cp} {pos : Pos} (g : Good C S P k X W sc) (hb0 : notSet b = true) (ha : Snd1 P S k X W a a') (hb : Snd1 P S k X W b b') : Snd1 P S k X W (.Compare a [cO c] [b] pos) (.cmp c a' b') := by
  have go : ∀ {σc : L2.St} {H : Hp} {Q : Bool → Hp → Prop} {Q' : VK}, (∀ x H1, Q' (.bl x) H1 → Q x H1) → True := fun _ => trivial
  refine ⟨?_, ?_, fun _ _ _ z => by cases z⟩
  · refine PE.imp' (pe_cmpR (cmpD_ok (S := S) g.K g.u c) ha.pe hb.pe (set_marks hb0)) fun σc H Q ⟨σ, h, ι, hid, sr, hr, p⟩ => ⟨σ, h, ι, hid, sr, hr, ?_⟩
    refine Post.imp (Post.bind (R1 := RE S _) back_RE p) fun x H1 ⟨d, h1, k1, x1, r1, p1⟩ => ⟨σ, h1, ι, hid, sr.keep k1, x1, ?_⟩
    refine Post.imp (Post.bind (R1 := RE S _) back_RE p1) fun y H2 ⟨f, h2, k2, x2, r2, p2⟩ => ?_
    obtain ⟨r, e, q⟩ := opt_post p2
    obtain ⟨b, e1, e2⟩ := Option.map_eq_some_iff.mp e
    subst e2
    exact ⟨ι, hid, h2, d, f, b, x2, r1.1.keep k2, r2.1, e1, q _ H2 Kp.refl x2 ⟨.inl (.bl _), fun z => by cases z⟩⟩
  · refine PT.imp' (pt_cmpR (cmpD_ok (S := S) g.K g.u c) ha.pe hb.pe (set_marks hb0)) fun σc H Q ⟨σ, h, ι, hid, sr, hr, p⟩ => ⟨σ, h, ι, hid, sr, hr, ?_⟩
    have p : Post S REq W ι hid σc H ((ev P.G (Rf.call P k) a' σ h).bind fun x h1 => (ev P.G (Rf.call P k) b' σ h1).bind fun y h2 => .opt (cmpD h2 c x y) h2) Q := by
      have e0 : tst P.G (Rf.call P k) (.cmp c a' b') σ h = (ev P.G (Rf.call P k) a' σ h).bind fun x h1 => (ev P.G (Rf.call P k) b' σ h1).bind fun y h2 => .opt (cmpD h2 c x y) h2 := by
        show (((ev P.G (Rf.call P k) a' σ h).bind fun x h1 => (ev P.G (Rf.call P k) b' σ h1).bind fun y h2 => Res.opt ((cmpD h2 c x y).map D.bl) h2).bind fun x h1 => Res.opt (truth h1 x) h1) = _
        cases ev P.G (Rf.call P k) a' σ h with
        | no => rfl
        | ex _ _ => rfl
        | ok x h1 =>
          simp only [Res.bind_ok]
          cases ev P.G (Rf.call P k) b' σ h1 with
          | no => rfl
          | ex _ _ => rfl
          | ok y h2 =>
            simp only [Res.bind_ok]
            cases cmpD h2 c x y <;> rfl
      rw [← e0]; exact p
    refine Post.imp (Post.bind (R1 := RE S _) back_REq p) fun x H1 ⟨d, h1, k1, x1, r1, p1⟩ => ⟨σ, h1, ι, hid, sr.keep k1, x1, ?_⟩
    refine Post.imp (Post.bind (R1 := RE S _) back_REq p1) fun y H2 ⟨f, h2, k2, x2, r2, p2⟩ => ?_
    obtain ⟨r, e, q⟩ := opt_post p2
    exact ⟨ι, hid, h2, d, f, r, x2, r1.1.keep k2, r2.1, e, r, rfl, q r H2 Kp.refl x2 rfl⟩
theorem chn_pe {a b d : Expr} {a' b' d' : E} {c c' : Cp} {pos : Pos} (g : Good C S P k X W sc) (hb0 : notSet d = true) (ha : Snd1 P S k X W a a') (hb : Snd1 P S k X W b b') (hd : Snd1 P S k X W d d') {σc : L2.St} {H : Hp} {Q : VK} (q : tR S (RE S false) W (ev P.G (Rf.call P k) (.chn c c' a' b' d')) σc H Q) :
    tChain (rB2 S fun h => cmpD h c) (rB2 S fun h => cmpD h c') (tR S (RE S (a'.fresh P.G.fr)) W (ev P.G (Rf.call P k) a')) (tR S (RE S (b'.fresh P.G.fr)) W (ev P.G (Rf.call P k) b')) (tR S (RE S (d'.fresh P.G.fr)) W (ev P.G (Rf.call P k) d')) σc H Q := by
  obtain ⟨σ, h, ι, hid, sr, hr, p⟩ := q
  refine ⟨σ, h, ι, hid, sr, hr, ?_⟩
  refine Post.imp (Post.bind (R1 := RE S _) back_RE p) fun x H1 ⟨dx, h1, k1, x1, r1, p1⟩ => ⟨σ, h1, ι, hid, sr.keep k1, x1, ?_⟩
  refine Post.imp (Post.bind (R1 := RE S _) back_RE p1) fun y H2 ⟨f, h2, k2, x2, r2, p2⟩ => ?_
  cases ec : cmpD h2 c dx f with
  | none => simp only [ec] at p2; exact False.elim p2
  | some r =>
    refine ⟨ι, hid, h2, dx, f, r, x2, r1.1.keep k2, r2.1, ec, r, rfl, ?_⟩
    cases r with
    | false =>
      simp only [ec] at p2
      exact p2.val x2 (.inl (.bl false)) fun z => by cases z
    | true =>
      simp only [ec] at p2
      refine ⟨σ, h2, ι, hid, (sr.keep k1).keep k2, x2, ?_⟩
      refine Post.imp (Post.bind (R1 := RE S _) back_RE p2) fun z H3 ⟨fz, h3, k3, x3, r3, p3⟩ => ?_
      obtain ⟨r, e, q⟩ := opt_post p3
      obtain ⟨b, e1, e2⟩ := Option.map_eq_some_iff.mp e
      subst e2
      exact ⟨ι, hid, h3, f, fz, b, x3, r2.1.keep k3, r3.1, e1, q _ H3 Kp.refl x3 ⟨.inl (.bl _), fun z => by cases z⟩⟩
theorem chn_ok {a b d : Expr} {a' b' d' : E} {c c' : Cp} {pos : Pos} (g : Good C S P k X W sc) (hb0 : notSet d = true) (ha : Snd1 P S k X W a a') (hb : Snd1 P S k X W b b') (hd : Snd1 P S k X W d d') : Snd1 P S k X W (.Compare a [cO c, cO c'] [b, d] pos) (.chn c c' a' b' d') := by
  have lm : lastMarks [cO c, cO c'] [b, d] = false := set_marks hb0
  refine ⟨PE.imp' (pe_chain (cmpD_ok (S := S) g.K g.u c) (cmpD_ok (S := S) g.K g.u c') ha.pe hb.pe hd.pe lm) fun σc H Q q => chn_pe (pos := pos) g hb0 ha hb hd q, ?_, fun _ _ _ z => by cases z⟩
  refine PT.imp' (pt_chain (cmpD_ok (S := S) g.K g.u c) (cmpD_ok (S := S) g.K g.u c') ha.pe hb.pe hd.pe lm) fun σc H Q ⟨σ, h, ι, hid, sr, hr, p⟩ => ?_
  refine chn_pe (pos := pos) g hb0 ha hb hd ⟨σ, h, ι, hid, sr, hr, ?_⟩
  unfold tst at p
  cases e : ev P.G (Rf.call P k) (.chn c c' a' b' d') σ h with
  | no => rw [e] at p; exact p
  | ex _ _ => rw [e] at p; exact p
  | ok r h1 =>
    rw [e] at p
    simp only [Res.bind_ok] at p
    have bl : ∃ b, r = .bl b := by
      have e : ((ev P.G (Rf.call P k) a' σ h).bind fun x h1 => (ev P.G (Rf.call P k) b' σ h1).bind fun y h2 => match cmpD h2 c x y with
        | some true => (ev P.G (Rf.call P k) d' σ h2).bind fun z h3 => .opt ((cmpD h3 c' y z).map .bl) h3
        | some false => .ok (.bl false) h2
        | none => .no) = .ok r h1 := e
      cases ea : ev P.G (Rf.call P k) a' σ h with
      | no => rw [ea] at e; cases e
      | ex _ _ => rw [ea] at e; cases e
      | ok x ha =>
        rw [ea] at e
        simp only [Res.bind_ok] at e
        cases eb : ev P.G (Rf.call P k) b' σ ha with
        | no => rw [eb] at e; cases e
        | ex _ _ => rw [eb] at e; cases e
        | ok y hb =>
          rw [eb] at e
          simp only [Res.bind_ok] at e
          split at e
          · cases ed : ev P.G (Rf.call P k) d' σ hb with
            | no => rw [ed] at e; cases e
            | ex _ _ => rw [ed] at e; cases e
            | ok z hd =>
              rw [ed] at e
              simp only [Res.bind_ok] at e
              cases ec : cmpD hd c' y z with
              | none => rw [ec] at e; cases e
              | some b => rw [ec] at e; cases e; exact ⟨b, rfl⟩
          · cases e; exact ⟨false, rfl⟩
          · cases e
    obtain ⟨b, rfl⟩ := bl
    intro v H' k' x' r'
    exact ⟨b, r'.1.bl, p b H' k' x' rfl⟩
theorem ite_ok {c a b : Expr} {c' a' b' : E} {pos : Pos} (g : Good C S P k X W sc) (hc : Snd1 P S k X W c c') (ha : Snd1 P S k X W a a') (hb : Snd1 P S k X W b b') : Snd1 P S k X W (.IfExp c a b pos) (.ite c' a' b') := by
  refine ⟨?_, ⟨fun pins s σc H Q I ⟨σ, h, ι, hid, sr, hr, p⟩ => ?_⟩, fun _ _ _ z => by cases z⟩
  · refine PE.imp' (pe_ifExp hc.pt ha.pe hb.pe) fun σc H Q ⟨σ, h, ι, hid, sr, hr, p⟩ => ⟨σ, h, ι, hid, sr, hr, ?_⟩
    rw [ev_ite] at p
    refine Post.imp (Post.bind (R1 := REq) back_RE p) fun r H1 ⟨r', h1, k1, x1, e1, p1⟩ => ?_
    have e1 : r' = r := e1
    subst e1
    cases r' with
    | true => exact ⟨σ, h1, ι, hid, sr.keep k1, x1, p1.weak fun z => by cases z⟩
    | false => exact ⟨σ, h1, ι, hid, sr.keep k1, x1, p1.weak fun z => by cases z⟩
  · refine isTrue_IfExp (thn (hc.pt.run pins s σc H (fun r H1 => if r = true then tR S REq W (tst P.G (Rf.call P k) a') σc H1 Q else tR S REq W (tst P.G (Rf.call P k) b') σc H1 Q) I ⟨σ, h, ι, hid, sr, hr, ?_⟩) fun r s1 ⟨H1, I1, q1⟩ => ?_)
    · refine Post.imp (post_tst (tst_ite _ _ _ _ _ _ _) p) fun r H1 ⟨h1, k1, x1, p1⟩ => ?_
      cases r with
      | true => exact ⟨σ, h1, ι, hid, sr.keep k1, x1, p1⟩
      | false => exact ⟨σ, h1, ι, hid, sr.keep k1, x1, p1⟩
    · cases r with
      | true => exact ha.pt.run pins s1 σc H1 Q I1 q1
      | false => exact hb.pt.run pins s1 σc H1 Q I1 q1
end
end Rf
/-! Rf15 -/
set_option maxHeartbeats 1000000
/-! Rf15: subscripts, calls, comprehensions; expressions are sound. -/
namespace Rf
open PySem PySem.Spec PyProof.Rows L2
/-- sorted(set(e)) -/
def SetPE (S : Sta) : Prop := ∀ (X : Cx), X.K = S.K → X.calm = true → X.A.units + 65 < cLine → ∀ {e : Expr} {p1 p2 pos pos2 : Pos} {t : TA}, noStar e = true → Gl X "sorted" → X.mg "sorted" = none → Gl X "set" → X.mg "set" = none → PA X [e] t →
  PE X (.Call (.Name "sorted" p1) [.Call (.Name "set" p2) [e] [] pos2] [] pos) (tCB (rBl S fun h => one (onL h setL)) t)
section
variable {C : Cc} {S : Sta} {P : Prg} {k : Nat} {X : Cx} {W : WX} {sc : Scope} {e : Expr} {E' : E}
theorem plain_ix {b : Expr} (h : plainIx b = true) : PlainIx b := fun o i => by
  cases b <;> first | rfl | cases h
theorem ix_snd {a i : Expr} {a' i' : E} {pos : Pos} (g : Good C S P k X W sc) (hp : plainIx i = true) (ha : Snd1 P S k X W a a') (hi : Snd1 P S k X W i i') : Snd1 P S k X W (.Subscript a i pos) (.ix a' i') := by
  refine Snd1.of g.K ?_ (fun _ => rfl) (fun _ _ _ z => by cases z)
  refine PE.imp' (pe_ix (ix_ok (S := S) g.K) ha.pe hi.pe (plain_ix hp)) fun σc H Q ⟨σ, h, ι, hid, sr, hr, p⟩ => ⟨σ, h, ι, hid, sr, hr, ?_⟩
  refine Post.imp (Post.bind (R1 := RE S _) back_RE p) fun x H1 ⟨d, h1, k1, x1, r1, p1⟩ => ⟨σ, h1, ι, hid, sr.keep k1, x1, ?_⟩
  refine Post.imp (Post.bind (R1 := RE S _) back_RE p1) fun y H2 ⟨f, h2, k2, x2, r2, p2⟩ => ?_
  obtain ⟨r, e, q⟩ := opt_post p2
  exact ⟨ι, hid, h2, d, f, r, x2, r1.1.keep k2, r2.1, e, fun v rv => q v H2 Kp.refl x2 ⟨rv, fun z => by cases z⟩⟩
theorem po_ok {rec : Scope → Expr → Option E} (hS : Snd C S P k rec) (g : Good C S P k X W sc) {o : Option Expr} {o' : Option E} (h : (match o with
      | none => some none
      | some l => (rec sc l).map some) = some o') : PO X o (tR S REq W (evo P.G (Rf.call P k) o')) := by
  cases o with
  | none =>
    have h : some (none : Option E) = some o' := h
    cases h
    exact PO.imp' po_none fun σc H Q ⟨σ, h, ι, hid, sr, hr, p⟩ => p none H Kp.refl hr rfl
  | some l =>
    obtain ⟨l', e1, e2⟩ := Option.map_eq_some_iff.mp (show (rec sc l).map some = some o' from h)
    subst e2
    refine PO.imp' (po_some (hS sc l l' e1 X W g).pe) fun σc H Q ⟨σ, h, ι, hid, sr, hr, p⟩ => ⟨σ, h, ι, hid, sr, hr, ?_⟩
    refine Post.imp (Post.bind (R1 := RE S _) back_REq p) fun x H1 ⟨d, h1, k1, x1, r1, p1⟩ => ?_
    obtain ⟨r, e, q⟩ := opt_post p1
    cases d with
    | int i =>
      have e : some (some i) = some r := e
      cases e
      exact ⟨i, r1.1.int, q _ H1 Kp.refl x1 rfl⟩
    | _ => cases e
theorem sl_snd {a : Expr} {lo hi : Option Expr} {a' : E} {l u : Option E} {pos p2 : Pos} (g : Good C S P k X W sc) (ha : Snd1 P S k X W a a') (hl : PO X lo (tR S REq W (evo P.G (Rf.call P k) l))) (hu : PO X hi (tR S REq W (evo P.G (Rf.call P k) u))) :
    Snd1 P S k X W (.Subscript a (.Slice lo hi none p2) pos) (.sl a' l u) := by
  refine Snd1.of g.K ?_ (fun _ => rfl) (fun _ _ _ z => by cases z)
  refine PE.imp' (pe_slice (sl_ok (S := S) g.K) ha.pe hl hu) fun σc H Q ⟨σ, h, ι, hid, sr, hr, p⟩ => ⟨σ, h, ι, hid, sr, hr, ?_⟩
  refine Post.imp (Post.bind (R1 := RE S _) back_RE p) fun x H1 ⟨d, h1, k1, x1, r1, p1⟩ => ⟨σ, h1, ι, hid, sr.keep k1, x1, ?_⟩
  refine Post.imp (Post.bind (R1 := REq) back_RE p1) fun l1 H2 ⟨l2, h2, k2, x2, e2, p2⟩ => ⟨σ, h2, ι, hid, (sr.keep k1).keep k2, x2, ?_⟩
  have e2 : l2 = l1 := e2
  subst e2
  refine Post.imp (Post.bind (R1 := REq) back_RE p2) fun u1 H3 ⟨u2, h3, k3, x3, e3, p3⟩ => ?_
  have e3 : u2 = u1 := e3
  subst e3
  obtain ⟨r, e, dn⟩ := opt_done p3
  exact ⟨ι, hid, h3, d, r, x3, (r1.1.keep k2).keep k3, e, dn⟩
theorem rev_snd {a : Expr} {a' : E} {j : Nat} {p1 p2 p3 pos : Pos} (g : Good C S P k X W sc) (ha : Snd1 P S k X W a a') : Snd1 P S k X W (.Subscript a (.Slice none none (some (.UnaryOp .USub (.Constant (.int 1) j p1) p2)) p3) pos) (.rev a') := by
  refine Snd1.of g.K ?_ (fun _ => rfl) (fun _ _ _ z => by cases z)
  refine PE.imp' (pe_revL ha.pe) fun σc H Q ⟨σ, h, ι, hid, sr, hr, p⟩ => ⟨σ, h, ι, hid, sr, hr, ?_⟩
  refine Post.imp (Post.bind (R1 := RE S _) back_RE p) fun x H1 ⟨d, h1, k1, x1, r1, p1⟩ => ?_
  obtain ⟨r, e, dn⟩ := opt_done p1
  obtain ⟨ds, e1, e2⟩ := Option.map_eq_some_iff.mp (show (listOf h1 d).map (fun ds => D.lst ds.reverse) = some r from e)
  subst e2
  obtain ⟨b, vs, rfl, b1, b2⟩ := r1.1.listOf x1 e1
  exact ⟨b, vs, rfl, .inl b1, dn.lst x1 b2.reverse⟩
theorem sub_ok {rec : Scope → Expr → Option E} (hS : Snd C S P k rec) (g : Good C S P k X W sc) {a i : Expr} {pos : Pos} (h : cSub rec sc a i = some E') : Snd1 P S k X W (.Subscript a i pos) E' := by
  unfold cSub at h
  split at h
  · split at h <;> try contradiction
    rename_i hi
    subst hi
    obtain ⟨a', e1, e2⟩ := Option.map_eq_some_iff.mp h
    subst e2
    exact rev_snd g (hS _ _ _ e1 X W g)
  · split at h
    · rename_i a' l u e1 e2 e3
      cases h
      exact sl_snd g (hS _ _ _ e1 X W g) (po_ok hS g e2) (po_ok hS g e3)
    · cases h
  · split at h <;> try contradiction
    rename_i hp
    split at h
    · rename_i a' i' e1 e2
      cases h
      exact ix_snd g hp (hS _ _ _ e1 X W g) (hS _ _ _ e2 X W g)
    · cases h

/-! ### calls of built-ins -/
theorem bOf_ok (hc : X.calm = true) (hK : X.K = S.K) (hu : X.A.units + 65 < cLine) {x : Str} {f : Bl} (h : bOf x = some f) : ∃ v, bootBuiltins x = some v ∧ ((∃ id, v = .builtin id) ∨ ∃ T, v = .type T) ∧ CallR X v (rBl S fun h => blt h f) := by
  unfold bOf at h
  split at h
  · rename_i e; cases h; rw [e]; exact ⟨_, boot_len, .inl ⟨_, rfl⟩, len_ok hK⟩
  split at h
  · rename_i e; cases h; rw [e]; exact ⟨_, boot_int, .inr ⟨_, rfl⟩, int_ok⟩
  split at h
  · rename_i e; cases h; rw [e]; exact ⟨_, boot_abs, .inl ⟨_, rfl⟩, abs_ok⟩
  split at h
  · rename_i e; cases h; rw [e]; exact ⟨_, boot_min, .inl ⟨_, rfl⟩, min_ok hc hK hu⟩
  split at h
  · rename_i e; cases h; rw [e]; exact ⟨_, boot_max, .inl ⟨_, rfl⟩, max_ok hc hK hu⟩
  split at h
  · rename_i e; cases h; rw [e]; exact ⟨_, boot_sorted, .inl ⟨_, rfl⟩, sorted_ok hK hu⟩
  split at h
  · rename_i e; cases h; rw [e]; exact ⟨_, boot_list, .inr ⟨_, rfl⟩, list_ok hK⟩
  split at h
  · rename_i e; cases h; rw [e]; exact ⟨_, boot_tuple, .inr ⟨_, rfl⟩, tuple_ok hK⟩
  split at h
  · rename_i e; cases h; rw [e]; exact ⟨_, boot_all, .inl ⟨_, rfl⟩, all_ok hc⟩
  split at h
  · rename_i e; cases h; rw [e]; exact ⟨_, boot_any, .inl ⟨_, rfl⟩, any_ok hc⟩
  split at h
  · rename_i e; cases h; rw [e]; exact ⟨_, boot_sum, .inl ⟨_, rfl⟩, sum_ok hc⟩
  · cases h
theorem bl_read {f : Bl} {es : List E} {t : TA} {σc : L2.St} {H : Hp} {Q : VK} {fr : Bool} (q : tR S (RE S fr) W (ev P.G (Rf.call P k) (.blt f es)) σc H Q) : tCB (rBl S fun h => blt h f) (tR S (RA S) W (evs P.G (Rf.call P k) es)) σc H Q := by
  obtain ⟨σ, h, ι, hid, sr, hr, p⟩ := q
  refine ⟨σ, h, ι, hid, sr, hr, ?_⟩
  refine Post.imp (Post.bind (R1 := RA S) back_RE p) fun vs H1 ⟨ds, h1, k1, x1, r1, p1⟩ => ?_
  obtain ⟨r, e, dn⟩ := opt_done p1
  exact ⟨ι, hid, h1, ds, r, x1, r1, e, dn⟩
theorem blt_snd {rec : Scope → Expr → Option E} (hS : Snd C S P k rec) (g : Good C S P k X W sc) {x : Str} {p pos : Pos} {args : List Expr} {f : Bl} {es : List E} (hx : frG C sc x = true) (hf : bOf x = some f) (ha : cArgs rec sc args = some es) : Snd1 P S k X W (.Call (.Name x p) args [] pos) (.blt f es) := by
  obtain ⟨a, as, rfl, hs, hm⟩ := cArgs_some ha
  obtain ⟨g1, g2, g3, g4⟩ := g.free hx
  obtain ⟨v, hv, hk, cr⟩ := bOf_ok g.calm g.K g.u hf
  have hs' := hs
  simp only [List.all_cons, Bool.and_eq_true] at hs'
  refine Snd1.of g.K ?_ (fun _ => rfl) (fun _ _ _ z => by cases z)
  have pa := pa_ok hS g hs hm
  rcases hk with ⟨id, rfl⟩ | ⟨T, rfl⟩
  · exact PE.imp' (pe_callB cr g1 g2 hv pa g4 g3 (star_cons hs'.1 _) (star_none hs'.2 _ _)) fun σc H Q q => bl_read (t := fun _ _ _ => True) q
  · exact PE.imp' (pe_callTy cr g1 g2 hv pa g4 g3 (star_cons hs'.1 _) (star_none hs'.2 _ _)) fun σc H Q q => bl_read (t := fun _ _ _ => True) q
/-! isinstance -/
theorem bIs1_ok {x : Str} {f : Bl} (h : bIs1 x = some f) : ∃ T, isTys f = [T] ∧ bootBuiltins x = some (.type T) ∧ ∀ h' ds, blt h' f ds = one (isD1 h' f) ds := by
  unfold bIs1 at h
  split at h
  · rename_i e; cases h; rw [e]; exact ⟨_, rfl, boot_int, fun _ _ => rfl⟩
  split at h
  · rename_i e; cases h; rw [e]; exact ⟨_, rfl, boot_bool, fun _ _ => rfl⟩
  split at h
  · rename_i e; cases h; rw [e]; exact ⟨_, rfl, boot_str, fun _ _ => rfl⟩
  split at h
  · rename_i e; cases h; rw [e]; exact ⟨_, rfl, boot_tuple, fun _ _ => rfl⟩
  split at h
  · rename_i e; cases h; rw [e]; exact ⟨_, rfl, boot_list, fun _ _ => rfl⟩
  · cases h
theorem bIs2_ok {x y : Str} {f : Bl} (h : bIs2 x y = some f) : ∃ T U, isTys f = [T, U] ∧ bootBuiltins x = some (.type T) ∧ bootBuiltins y = some (.type U) ∧ ∀ h' ds, blt h' f ds = one (isD1 h' f) ds := by
  unfold bIs2 at h
  split at h
  · rename_i e; cases h; rw [e.1, e.2]; exact ⟨_, _, rfl, boot_list, boot_tuple, fun _ _ => rfl⟩
  split at h
  · rename_i e; cases h; rw [e.1, e.2]; exact ⟨_, _, rfl, boot_bool, boot_str, fun _ _ => rfl⟩
  · cases h
theorem isi_read {f : Bl} (hf : ∀ h' ds, blt h' f ds = one (isD1 h' f) ds) {e' : E} {σc : L2.St} {H : Hp} {Q : VK} {fr fr' : Bool} (q : tR S (RE S fr') W (ev P.G (Rf.call P k) (.blt f [e'])) σc H Q) :
    tR S (RE S fr) W (ev P.G (Rf.call P k) e') σc H fun x H1 => ∃ ι hid h1 d kd, HRep S ι hid H1 h1 ∧ Rep S ι hid H1 d x ∧ kindOf h1 d = some kd ∧ ∀ H2, Kp ι H1 H2 → HRep S ι hid H2 h1 → Q (.bl (isKd f kd)) H2 := by
  obtain ⟨σ, h, ι, hid, sr, hr, p⟩ := q
  refine ⟨σ, h, ι, hid, sr, hr, ?_⟩
  have p : Post S (RE S fr') W ι hid σc H ((evs P.G (Rf.call P k) [e'] σ h).bind fun ds h1 => .opt (blt h1 f ds) h1) Q := p
  have p : Post S (RE S fr') W ι hid σc H ((ev P.G (Rf.call P k) e' σ h).bind fun x h1 => .opt (blt h1 f [x]) h1) Q := by
    have e0 : ((evs P.G (Rf.call P k) [e'] σ h).bind fun ds h1 => Res.opt (blt h1 f ds) h1) = (ev P.G (Rf.call P k) e' σ h).bind fun x h1 => Res.opt (blt h1 f [x]) h1 := by
      show (((ev P.G (Rf.call P k) e' σ h).bind fun x h1 => (evs P.G (Rf.call P k) [] σ h1).bind fun xs h2 => .ok (x :: xs) h2).bind fun ds h1 => Res.opt (blt h1 f ds) h1) = _
      cases ev P.G (Rf.call P k) e' σ h <;> rfl
    rw [← e0]; exact p
  refine Post.imp (Post.bind (R1 := RE S fr) back_RE p) fun x H1 ⟨d, h1, k1, x1, r1, p1⟩ => ?_
  obtain ⟨r, e, q⟩ := opt_post p1
  rw [hf] at e
  obtain ⟨kd, e1, e2⟩ := Option.map_eq_some_iff.mp (show (kindOf h1 d).map (fun k => D.bl (isKd f k)) = some r from e)
  subst e2
  exact ⟨ι, hid, h1, d, kd, x1, r1.1, e1, fun H2 k2 x2 => q _ H2 k2 x2 ⟨.inl (.bl _), fun z => (by intro ds y; cases y)⟩⟩
theorem isi_snd {rec : Scope → Expr → Option E} (hS : Snd C S P k rec) (g : Good C S P k X W sc) {p pos : Pos} {args : List Expr} (hx : frG C sc "isinstance" = true) (h : cIsi C rec sc args = some E') : Snd1 P S k X W (.Call (.Name "isinstance" p) args [] pos) E' := by
  obtain ⟨g1, g2, g3, g4⟩ := g.free hx
  refine Snd1.of g.K ?_ (fun _ => rfl) (fun _ _ _ z => by cases z)
  unfold cIsi at h
  split at h
  · rename_i e t pt
    split at h <;> try contradiction
    rename_i hc
    rw [Bool.and_eq_true] at hc
    split at h <;> try contradiction
    rename_i f e' e1 e2
    cases h
    obtain ⟨t1, t2, t3, t4⟩ := g.free hc.2
    obtain ⟨T, a1, a2, a3⟩ := bIs1_ok e1
    have pt := pe_bltn (v := .ty T) (pos := pt) t1 t2 a2 rfl t4 t3
    refine PE.imp' (pe_callB (call_isi (X := X)) g1 g2 boot_isinstance (pa_cons (hS _ _ _ e2 X W g).pe (pa_cons pt pa_nil (star_cons rfl _)) (star_cons hc.1 _)) g4 g3 (star_cons hc.1 _) (star_none rfl _ _)) fun σc H Q q => ?_
    obtain ⟨σ, h, ι, hid, sr, hr, q⟩ := isi_read a3 (fr := e'.fresh P.G.fr) q
    exact ⟨σ, h, ι, hid, sr, hr, q.imp fun x H1 ⟨ι, hid, h1, d, kd, x1, r1, ek, q1⟩ => ⟨x, .ty T, .type (kdName kd), .type T, isKd f kd, rfl, .ty T, kind_ty g.K x1 r1 ek, kit_one f kd T a1, q1 H1 Kp.refl x1⟩⟩
  · rename_i e t pt u pu kk ptup
    split at h <;> try contradiction
    rename_i hc
    simp only [Bool.and_eq_true] at hc
    split at h <;> try contradiction
    rename_i f e' e1 e2
    cases h
    obtain ⟨t1, t2, t3, t4⟩ := g.free hc.1.2
    obtain ⟨u1, u2, u3, u4⟩ := g.free hc.2
    obtain ⟨T, U, a1, a2, a2', a3⟩ := bIs2_ok e1
    have pt' := pe_bltn (v := .ty T) (pos := pt) t1 t2 a2 rfl t4 t3
    have pu' := pe_bltn (v := .ty U) (pos := pu) u1 u2 a2' rfl u4 u3
    have ptp := pe_tup (x1 := kk) (pos := ptup) (pa_cons pt' (pa_cons pu' pa_nil (star_cons rfl _)) (star_cons rfl _))
    refine PE.imp' (pe_callB (call_isiT (X := X)) g1 g2 boot_isinstance (pa_cons (hS _ _ _ e2 X W g).pe (pa_cons ptp pa_nil (star_cons rfl _)) (star_cons hc.1.1 _)) g4 g3 (star_cons hc.1.1 _) (star_none rfl _ _)) fun σc H Q q => ?_
    obtain ⟨σ, h, ι, hid, sr, hr, q⟩ := isi_read a3 (fr := e'.fresh P.G.fr) q
    refine ⟨σ, h, ι, hid, sr, hr, q.imp fun x H1 ⟨ι, hid, h1, d, kd, x1, r1, ek, q1⟩ => ⟨(by show 2 ≤ sizeLine; decide), fun tp ntp => ?_⟩⟩
    have k2 : Kp ι H1 (upd H1 tp (.tup [.ty T, .ty U])) := Kp.new ntp
    exact ⟨x, tp, [.ty T, .ty U], .type (kdName kd), [.type T, .type U], isKd f kd, rfl, upd_same, .cons (.ty T) (.cons (.ty U) .nil), kind_ty g.K (x1.new ntp) (r1.keep k2) ek, kit_two f kd T U a1, q1 _ k2 (x1.new ntp)⟩
  · cases h
/-! sorted(set(e)) -/
theorem set_snd {rec : Scope → Expr → Option E} (hSet : SetPE S) (hS : Snd C S P k rec) (g : Good C S P k X W sc) {p pos : Pos} {args : List Expr} {e' : E} (hx : frG C sc "sorted" = true) (h : cSet C rec sc args = some e') : Snd1 P S k X W (.Call (.Name "sorted" p) args [] pos) (.blt .setsort [e']) := by
  obtain ⟨g1, g2, g3, g4⟩ := g.free hx
  refine Snd1.of g.K ?_ (fun _ => rfl) (fun _ _ _ z => by cases z)
  unfold cSet at h
  split at h <;> try contradiction
  rename_i s p2 e pos2
  split at h <;> try contradiction
  rename_i hc
  simp only [Bool.and_eq_true, decide_eq_true_eq] at hc
  obtain ⟨⟨rfl, hc2⟩, hc3⟩ := hc
  obtain ⟨s1, s2, s3, s4⟩ := g.free hc2
  have pa : PA X [e] (tR S (RA S) W (evs P.G (Rf.call P k) [e'])) := by
    refine pa_ok hS g (by simp [hc3]) ?_
    simp only [mapO, h]
  exact PE.imp' (hSet X g.K g.calm g.u hc3 g1 g2 s1 s2 pa) fun σc H Q q => bl_read (t := fun _ _ _ => True) q

/-! ### calls of defs -/
theorem call_read {f : Nat} {es : List E} {σc : L2.St} {H : Hp} {Q : VK} {m : St' → AH → Res D} (em : ∀ σ h, m σ h = (evs P.G (Rf.call P k) es σ h).bind fun ds h1 => Rf.call P k f ds h1) (q : tR S (RE S (frOf P f)) W m σc H Q) : tCallW (spD S P k f) W (tR S (RA S) W (evs P.G (Rf.call P k) es)) σc H Q := by
  obtain ⟨σ, h, ι, hid, sr, hr, p⟩ := q
  rw [em] at p
  refine ⟨σ, h, ι, hid, sr, hr, ?_⟩
  refine Post.imp (Post.bind (R1 := RA S) back_RE p) fun vs H1 ⟨ds, h1, k1, x1, r1, p1⟩ => ⟨ι, hid, h1, ds, x1, r1, ?_⟩
  cases ec : Rf.call P k f ds h1 with
  | ok a h2 => rw [ec] at p1; exact p1
  | ex e h2 => rw [ec] at p1; exact p1
  | no => rw [ec] at p1; exact p1
theorem fn_snd {rec : Scope → Expr → Option E} (hS : Snd C S P k rec) (g : Good C S P k X W sc) {x : Str} {p pos : Pos} {args : List Expr} {f : Nat} {es : List E} (hp : plainN x = true) (hg : gbl sc x = true) (ef : C.gl x = .fn f) (ha : cArgs rec sc args = some es) : Snd1 P S k X W (.Call (.Name x p) args [] pos) (.call f es) := by
  obtain ⟨a, as, rfl, hs, hm⟩ := cArgs_some ha
  obtain ⟨p1, p2, p3⟩ := plainN_ok hp
  have gg := g.gl x
  rw [ef] at gg
  obtain ⟨ad, e1, e2⟩ := gg
  obtain ⟨kp, fd, ps, F, hb⟩ := g.fns f ad e1
  have hs' := hs
  simp only [List.all_cons, Bool.and_eq_true] at hs'
  refine Snd1.of g.K ?_ (fun _ => rfl) (fun _ _ _ z => by cases z)
  refine PE.imp' (pe_callW F g.room (g.gb hg) e2 kp hb g.tk (pa_ok hS g hs hm) p1 (star_cons hs'.1 _) (star_none hs'.2 _ _)) fun σc H Q q => ?_
  have q : tR S (RE S (P.G.fr f)) W (ev P.G (Rf.call P k) (.call f es)) σc H Q := q
  rw [g.fr] at q
  exact call_read (fun _ _ => rfl) q
/-- a call of a local name's def -/
theorem cal_snd {rec : Scope → Expr → Option E} (hS : Snd C S P k rec) (g : Good C S P k X W sc) {x : Str} {p pos : Pos} {args : List Expr} {i : Nat} {es : List E} (hp : plainN x = true) (hv : vis sc x = true) (ei : slotOf C.N x = some i) (ha : cArgs rec sc args = some es) : Snd1 P S k X W (.Call (.Name x p) args [] pos) (.cal i es) := by
  obtain ⟨a, as, rfl, hs, hm⟩ := cArgs_some ha
  obtain ⟨p1, p2, p3⟩ := plainN_ok hp
  have hs' := hs
  simp only [List.all_cons, Bool.and_eq_true] at hs'
  refine Snd1.of g.K ⟨fun pins s σc H Q I ⟨σ, h, ι, hid, sr, hr, q⟩ => ?_⟩ (fun _ => rfl) (fun _ _ _ z => by cases z)
  have q : Post S (RE S false) W ι hid σc H (match σ[i]?.join with
    | some (.fn f) => (evs P.G (Rf.call P k) es σ h).bind fun ds h1 => Rf.call P k f ds h1
    | _ => .no) Q := q
  split at q
  · rename_i f ef
    obtain ⟨v, e1, e2⟩ := sr.var ef
    obtain ⟨ad, rfl, e3⟩ := e2.fn
    obtain ⟨kp, fd, ps, F, hb⟩ := g.fns f ad e3
    refine wpAny_Call_Name_kw (thn ((pe_var (pos := p) (i := i) (by rw [g.N]; exact slotOf_get ei) (by rw [g.scope]; exact vis_ok hv) p1 p2).run pins s σc H (fun v H1 => v = .ref ad ∧ H1 = H) I ⟨.ref ad, e1, rfl, rfl⟩) fun u s1 ⟨v, H1, I1, r1, q1⟩ => ?_)
    obtain ⟨rfl, rfl⟩ := q1
    cases r1
    have q2 := call_read (S := S) (W := W) (P := P) (k := k) (σc := σc) (H := H1) (f := f) (es := es) (Q := Q) (m := fun σ h => (evs P.G (Rf.call P k) es σ h).bind fun ds h1 => Rf.call P k f ds h1) (fun _ _ => rfl) ⟨σ, h, ι, hid, sr, hr, q.weak fun z => by cases z⟩
    exact PySem.W.callWith_K (h₀ := X.base) I.ok.mod.kin kp (thn ((pa_ok hS g hs hm).run pos pins s1 σc H1 _ I1 q2) fun us s2 ⟨vs, H2, I2, r, q3⟩ => ⟨I2.kIn, run_fnW F g.room hb g.tk I2 r q3⟩) (star_cons hs'.1 _) (star_none hs'.2 _ _)
  · exact False.elim q
theorem call_ok {rec : Scope → Expr → Option E} (hSet : SetPE S) (hS : Snd C S P k rec) (g : Good C S P k X W sc) {x : Str} {p pos : Pos} {args : List Expr} (h : cCall C rec sc x args = some E') : Snd1 P S k X W (.Call (.Name x p) args [] pos) E' := by
  unfold cCall at h
  split at h <;> try contradiction
  rename_i hp
  have hp : plainN x = true := by simpa using hp
  split at h
  · rename_i hv
    split at h <;> try contradiction
    rename_i i es e1 e2
    cases h
    exact cal_snd hS g hp hv e1 e2
  · split at h <;> try contradiction
    rename_i hg
    have hg : gbl sc x = true := by simpa using hg
    split at h
    · rename_i f ef
      obtain ⟨es, e1, e2⟩ := Option.map_eq_some_iff.mp h
      subst e2
      exact fn_snd hS g hp hg ef e1
    · unfold cBlt at h
      split at h <;> try contradiction
      rename_i hf
      split at h
      · rename_i ex
        subst ex
        exact isi_snd hS g hf h
      · split at h
        · rename_i es e1
          cases h
          split at e1 <;> try contradiction
          rename_i ex
          subst ex
          exact set_snd hSet hS g hf e1
        · split at h
          · rename_i f es e1 e2
            cases h
            exact blt_snd hS g hf e1 e2
          · cases h
    · cases h
end
end Rf
/-! Rf16 -/
set_option maxHeartbeats 1000000
/-! Rf16: methods, comprehensions; all expressions are sound. -/
namespace Rf
open PySem PySem.Spec PyProof.Rows L2
section
variable {C : Cc} {S : Sta} {P : Prg} {k : Nat} {X : Cx} {W : WX} {sc : Scope} {e : Expr} {E' : E}
theorem base_ok {o : Expr} (h : nsup o = true) (name : Str) (env : Env) (m : Sem Value) : attributeBase o name env m = m := by
  unfold attributeBase
  split
  · cases h
  · rfl
theorem mth_list {h h' : AH} {m : Mt} {d r : D} {ds : List D} (e : mth h m d ds = .ok r h') : (∃ n, d = .ref n) ∨ ∃ es, d = .lst es := by
  cases d with
  | ref n => exact .inl ⟨n, rfl⟩
  | lst es => exact .inr ⟨es, rfl⟩
  | _ => cases m <;> first | (simp only [mth] at e; done) | (cases ds with
    | nil => first | (simp only [mth] at e; done) | cases e
    | cons y ys => cases ys with
      | nil => first | (simp only [mth, listOf] at e; done) | cases e
      | cons _ _ => first | (simp only [mth] at e; done) | cases e)
theorem mth_noex {h h' : AH} {m : Mt} {d : D} {ds : List D} {ex : Exc} : mth h m d ds ≠ .ex ex h' := by
  intro e
  unfold mth at e
  repeat' split at e
  all_goals first | cases e | skip
  all_goals (rename_i o; revert e; unfold Res.opt; split <;> intro e <;> cases e)
theorem mt_any (hK : X.K = S.K) (hu : X.A.units + 65 < cLine) {x : Str} {n : Nat} {m : Mt} (h : mOf x n = some m) : ∃ id, Slot "list" x id ∧ typeOf (.builtin id) = pure (.type "method_descriptor") ∧ MtR X id (rMtD S m) := by
  unfold mOf at h
  split at h
  · rename_i e; cases h; rw [e.1]; exact ⟨_, F.slot_list_append, F.type_list_append, append_ok⟩
  split at h
  · rename_i e; cases h; rw [e.1]; exact ⟨_, F.slot_list_extend, F.type_list_extend, extend_ok⟩
  split at h
  · rename_i e; cases h; rw [e.1]; exact ⟨_, F.slot_list_pop, F.type_list_pop, pop_ok⟩
  split at h
  · rename_i e; cases h; rw [e.1]; exact ⟨_, F.slot_list_pop, F.type_list_pop, popAt_ok⟩
  split at h
  · rename_i e; cases h; rw [e.1]; exact ⟨_, F.slot_list_count, F.type_list_count, count_ok hK hu⟩
  split at h
  · rename_i e; cases h; rw [e.1]; exact ⟨_, F.slot_list_index, F.type_list_index, indexm_ok hK hu⟩
  · cases h
theorem mth_read {m : Mt} {o' : E} {es : List E} {σc : L2.St} {H : Hp} {Q : VK} (hK : X.K = S.K) (q : tR S (RE S false) W (ev P.G (Rf.call P k) (.mth m o' es)) σc H Q) :
    tBM X.K "list" (rMtD S m) (tR S (RE S (o'.fresh P.G.fr)) W (ev P.G (Rf.call P k) o')) (tR S (RA S) W (evs P.G (Rf.call P k) es)) σc H Q := by
  obtain ⟨σ, h, ι, hid, sr, hr, p⟩ := q
  refine ⟨σ, h, ι, hid, sr, hr, ?_⟩
  have p : Post S (RE S false) W ι hid σc H ((ev P.G (Rf.call P k) o' σ h).bind fun x h1 => if (listOf h1 x).isSome then (evs P.G (Rf.call P k) es σ h1).bind fun ds h2 => mth h2 m x ds else .no) Q := p
  refine Post.imp (Post.bind (R1 := RE S _) back_RE p) fun x H1 ⟨d, h1, k1, x1, r1, p1⟩ => ?_
  cases el : listOf h1 d with
  | none => simp only [el, Option.isSome_none, Bool.false_eq_true, if_false] at p1; exact False.elim p1
  | some xs =>
    simp only [el, Option.isSome_some, if_true] at p1
    refine ⟨?_, σ, h1, ι, hid, sr.keep k1, x1, ?_⟩
    · obtain ⟨a, vs, rfl, b1, b2⟩ := r1.1.listOf x1 el
      exact .inl ⟨rfl, vs, .inl b1⟩
    · refine Post.imp (Post.bind (R1 := RA S) back_RE p1) fun vs H2 ⟨ds, h2, k2, x2, r2, p2⟩ => ?_
      refine ⟨ι, hid, h2, d, ds, x2, r1.1.keep k2, r2, ?_⟩
      cases em : mth h2 m d ds with
      | no => rw [em] at p2; exact False.elim p2
      | ex _ _ => exact absurd em mth_noex
      | ok r h3 => rw [em] at p2; exact ⟨r, h3, rfl, p2⟩
theorem len_two {α : Type} : ∀ {l : List α}, l.length = 2 → ∃ a b, l = [a, b]
  | [a, b], _ => ⟨a, b, rfl⟩
  | [], h => by cases h
  | [_], h => by cases h
  | _ :: _ :: _ :: _, h => by simp at h
theorem few_one {e : Expr} {cpos : Pos} {env : Env} (h : noStar e = true) : ((backTo cpos (starEach [e] env)).all (fun x => !x.1) && (backToKw cpos (keywordEach [] env)).all (fun x => x.1.isSome)
      && decide ([e].length + ([] : List Keyword).length + (if ([] : List Keyword).isEmpty then 0 else 1) < 30)) = true := by
  rw [star_cons h]
  rfl
theorem mOf_len {x : Str} {n : Nat} {m : Mt} (h : mOf x n = some m) : n = 0 ∨ n = 1 := by
  unfold mOf at h
  split at h
  · rename_i e; exact .inr e.2
  split at h
  · rename_i e; exact .inr e.2
  split at h
  · rename_i e; exact .inl e.2
  split at h
  · rename_i e; exact .inr e.2
  split at h
  · rename_i e; exact .inr e.2
  split at h
  · rename_i e; exact .inr e.2
  · cases h
theorem mth_snd {rec : Scope → Expr → Option E} (hS : Snd C S P k rec) (g : Good C S P k X W sc) {o : Expr} {name : Str} {apos pos : Pos} {args : List Expr} (h : cMth rec sc o name apos pos args = some E') : Snd1 P S k X W (.Call (.Attribute o name apos) args [] pos) E' := by
  unfold cMth at h
  split at h <;> try contradiction
  rename_i hc
  simp only [Bool.and_eq_true] at hc
  split at h <;> try contradiction
  rename_i m o' es e1 e2 e3
  cases h
  refine Snd1.of g.K ?_ (fun _ => rfl) (fun _ _ _ z => by cases z)
  obtain ⟨id, sl, ty, mt⟩ := mt_any (S := S) g.K g.u e1
  have po := (hS _ _ _ e2 X W g).pe
  rcases mOf_len e1 with hl | hl
  · obtain rfl : args = [] := List.length_eq_zero_iff.mp hl
    cases e3
    refine PE.imp' (pe_bm0 F.plainAttrs_list sl ty mt po (base_ok hc.1.1 _ _ _) hc.1.2) fun σc H Q q => ?_
    obtain ⟨σ, h, ι, hid, sr, hr, q⟩ := mth_read g.K q
    refine ⟨σ, h, ι, hid, sr, hr, q.imp fun x H1 ⟨t1, σ, h1, ι, hid, sr, hr, q1⟩ => ⟨t1, q1 [] H1 Kp.refl hr .nil⟩⟩
  · cases args with
    | nil => cases hl
    | cons a as =>
      cases as with
      | cons _ _ => simp at hl
      | nil =>
        have ha : noStar a = true := by simpa using hc.2
        exact PE.imp' (pe_bm F.plainAttrs_list sl ty mt po (pa_ok hS g hc.2 e3) (base_ok hc.1.1 _ _ _) (few_one ha) hc.1.2 (star_cons ha _) (star_none rfl _ _)) fun σc H Q q => mth_read g.K q

/-! ### comprehensions -/
theorem pts_ok {rec : Scope → Expr → Option E} (hS : Snd C S P k rec) (g : Good C S P k X W sc) {ifs : List Expr} {ts : List E} (hl : ifs.length ≤ 1) (h : mapO (rec sc) ifs = some ts) : PTs X ifs (tR S REq W (evi P.G (Rf.call P k) ts)) := by
  cases ifs with
  | nil =>
    cases h
    exact ⟨fun pins s σc H Q I ⟨σ, h, ι, hid, sr, hr, p⟩ => pts_nil.run pins s σc H Q I (p true H Kp.refl hr rfl)⟩
  | cons a as =>
    cases as with
    | cons _ _ => simp at hl
    | nil =>
      obtain ⟨b, cs, e1, e2, rfl⟩ := mapO_cons h
      cases e2
      exact pts_one (hS _ _ _ e1 X W g).pt
theorem pi_imp {tg iter : Expr} {t t' : TI} (h : PI X tg iter t) (k : ∀ σ H R, t' σ H R → t σ H R) : PI X tg iter t' := ⟨fun pins s σ H R I q => h.run pins s σ H R I (k _ _ _ q)⟩
theorem it_ok {rec : Scope → Expr → Option E} (hS : Snd C S P k rec) (g : Good C S P k X W sc) {tg iter : Expr} {e : E} (h : rec sc iter = some e) : PI X tg iter (iD S W .it (evs P.G (Rf.call P k) [e])) :=
  src_it g.K (hS _ _ _ h X W g).pe
theorem isTupE_ok {tg : Expr} (h : isTupE tg = true) : ∃ es j pos, tg = .Tuple es j pos := by
  cases tg <;> first | exact ⟨_, _, _, rfl⟩ | cases h
theorem src_ok {rec : Scope → Expr → Option E} (hS : Snd C S P k rec) (g : Good C S P k X W sc) {tg iter : Expr} {s : Src} {args : List E} (h : cSrc C rec sc tg iter = some (s, args)) : PI X tg iter (iD S W s (evs P.G (Rf.call P k) args)) := by
  have one : ∀ {e : E}, rec sc iter = some e → (Src.it, [e]) = (s, args) → PI X tg iter (iD S W s (evs P.G (Rf.call P k) args)) := fun e1 e2 => by
    cases e2
    exact it_ok hS g e1
  unfold cSrc at h
  split at h
  · rename_i x as hm
    split at hm <;> try contradiction
    rename_i x' p as' pos
    split at hm <;> try contradiction
    rename_i hc
    cases hm
    rw [Bool.and_eq_true] at hc
    obtain ⟨g1, g2, g3, g4⟩ := g.free hc.1
    have hs := hc.2
    split at h
    · rename_i hx
      obtain ⟨es, e1, e2⟩ := Option.map_eq_some_iff.mp h
      cases e2
      obtain ⟨rfl, hl⟩ := hx
      obtain ⟨a, rfl⟩ := List.length_eq_one_iff.mp hl
      have ha : noStar a = true := by simpa using hs
      exact src_rng1 g1 g2 (pa_ok hS g hs e1) (by rw [star_cons ha]; rfl)
    split at h
    · rename_i hx
      obtain ⟨es, e1, e2⟩ := Option.map_eq_some_iff.mp h
      cases e2
      obtain ⟨rfl, hl⟩ := hx
      obtain ⟨a, b, rfl⟩ := len_two hl
      have hab : noStar a = true ∧ noStar b = true := by simpa using hs
      exact src_rng2 g1 g2 (pa_ok hS g hs e1) (by rw [star_cons hab.1, star_cons hab.2]; rfl) (by rw [star_cons hab.2]; rfl)
    split at h
    · rename_i hx
      obtain ⟨es, e1, e2⟩ := Option.map_eq_some_iff.mp h
      cases e2
      obtain ⟨rfl, hl, ht⟩ := hx
      obtain ⟨a, rfl⟩ := List.length_eq_one_iff.mp hl
      obtain ⟨ts, j, tp, rfl⟩ := isTupE_ok ht
      have ha : noStar a = true := by simpa using hs
      exact src_enum g1 g2 (pa_ok hS g hs e1) (by rw [star_cons ha]; rfl)
    split at h
    · rename_i hx
      obtain ⟨es, e1, e2⟩ := Option.map_eq_some_iff.mp h
      cases e2
      obtain ⟨rfl, hl, ht⟩ := hx
      obtain ⟨a, b, rfl⟩ := len_two hl
      obtain ⟨ts, j, tp, rfl⟩ := isTupE_ok ht
      have hab : noStar a = true ∧ noStar b = true := by simpa using hs
      exact src_zip g.K g1 g2 (pa_ok hS g hs e1) (star_cons hab.1 _) (star_none (by simp [hab.2]) _ _)
    · obtain ⟨e, e1, e2⟩ := Option.map_eq_some_iff.mp h
      exact one e1 e2
  · split at h <;> try contradiction
    obtain ⟨e, e1, e2⟩ := Option.map_eq_some_iff.mp h
    exact one e1 e2
/-- targets -/
theorem each_cons {e : Expr} {es : List Expr} (h : noStar e = true) (env : Env) : assignEach (e :: es) env = (false, PySem.assign e env) :: assignEach es env := by
  cases e <;> first | rfl | cases h
theorem asg_len {es : List Expr} (h : es.all noStar = true) (env : Env) : (assignEach es env).length = es.length ∧ (assignEach es env).findIdx? (·.1) = none := by
  induction es with
  | nil => exact ⟨rfl, rfl⟩
  | cons e es ih =>
    simp only [List.all_cons, Bool.and_eq_true] at h
    obtain ⟨i1, i2⟩ := ih h.2
    rw [each_cons h.1]
    refine ⟨congrArg (· + 1) i1, ?_⟩
    rw [List.findIdx?_cons]
    simp only [Bool.false_eq_true, if_false, i2]
    rfl
theorem pg_ok {wr : Scope} (hK : X.K = S.K) (hc : X.calm = true) (hN : X.N = C.N) (nd : X.N.Nodup) (st : ∀ x, stor wr x = true → Loc X.env.scope x ∧ (X.fn x = true ∨ X.env.scope.names.lookup x = some .local)) :
    ∀ (n : Nat) {e : Expr} {t : T}, cT C wr n e = some t → PG X e (gT S t) := by
  intro n
  induction n with
  | zero => intro e t h; cases h
  | succ n ih =>
    intro e t h
    unfold cT at h
    split at h
    · rename_i x pos
      split at h <;> try contradiction
      rename_i hx
      obtain ⟨i, e1, e2⟩ := Option.map_eq_some_iff.mp h
      subst e2
      obtain ⟨l1, l2⟩ := st x hx
      have pg := pg_name (pos := pos) nd (i := i) (by rw [hN]; exact slotOf_get e1) l1 l2
      exact ⟨fun pins s σ H v u Q I r q => pg.run pins s σ H v u Q I r (gT_nm q)⟩
    · rename_i es j pos
      split at h <;> try contradiction
      rename_i hs
      obtain ⟨ts, e1, e2⟩ := Option.map_eq_some_iff.mp h
      subst e2
      have go : ∀ {es : List Expr} {ts : List T}, es.all noStar = true → mapO (cT C wr n) es = some ts → ∃ gs : TGs, PGs X es gs ∧ ∀ v σc H Q, gTs S ts v σc H Q → gs v σc H Q := by
        intro es
        induction es with
        | nil => intro ts _ e1; cases e1; exact ⟨gNil, pgs_nil, fun v σc H Q q => gTs_nil q⟩
        | cons a as ih2 =>
          intro ts hs e1
          obtain ⟨b, cs, f1, f2, rfl⟩ := mapO_cons e1
          simp only [List.all_cons, Bool.and_eq_true] at hs
          obtain ⟨gs, p1, p2⟩ := ih2 hs.2 f2
          exact ⟨gCons (gT S b) gs, pgs_cons (ih f1) p1 (by rw [each_cons hs.1]; rfl), fun v σc H Q q => gTs_cons (fun _ _ _ _ z => z) p2 q⟩
      obtain ⟨gs, p1, p2⟩ := go hs e1
      obtain ⟨l1, l2⟩ := asg_len hs X.env
      have pg := pg_tup (pos := pos) (k := j) (n := ts.length) hc p1 (by rw [l1, mapO_len e1]) l2
      exact ⟨fun pins s σ H v u Q I r q => pg.run pins s σ H v u Q I r (gT_tp hK p2 q)⟩
    · cases h
theorem relS_keep {scope sc : Scope} {x : Str} {kd : NameKind} (hk : kd ≠ .free) (h : scope.names.lookup x = some kd) : (relS scope sc).names.lookup x = some kd := lookup_relS_keep hk h
theorem stor_blk {scope sc : Scope} {x : Str} (h : stor scope x = true) : Loc (relS scope sc) x ∧ ((scope.names.lookup x == some .cell) = true ∨ (relS scope sc).names.lookup x = some .local) := by
  unfold stor at h
  split at h
  · rename_i e
    exact ⟨.inl (relS_keep (by decide) e), .inr (relS_keep (by decide) e)⟩
  · rename_i e
    exact ⟨.inr (relS_keep (by decide) e), .inl (by rw [e]; rfl)⟩
  · cases h
theorem good_blk (g : Good C S P k X W sc) (scope : Scope) (s : Shared) (H : Hp) (A : Addr) (cl : List (Str × Addr)) (fp : List Addr) : Good C S P k (X.blk s H scope (compEnvC scope cl A X.env) fp) W0 (relS scope sc) := by
  have hs := g.scope
  subst hs
  exact ⟨g.prog, g.w, g.K, g.N, g.nd, rfl, g.calm, g.room, takes_none5, g.gl, fun f a e => ⟨(g.fns f a e).keep, (g.fns f a e).ok⟩, g.fr⟩
theorem set_fold {iter : Expr} (h : notSet iter = true) (env : Env) (x : Value) : foldedSetIterable iter env x = pure x := by
  cases iter <;> first | rfl | cases h
theorem comp_read {t : T} {s : Src} {args ts : List E} {e : E} {own : List Nat} {fr : Bool} (hsl : ∀ i ∈ t.slots, i ∈ own) {σc : L2.St} {H : Hp} {Q : VK} (q : tR S (RE S true) W (ev P.G (Rf.call P k) (.cmpr e t s args ts own)) σc H Q) :
    tLc (iD S W s (evs P.G (Rf.call P k) args)) (gT S t) (tR S REq W0 (evi P.G (Rf.call P k) ts)) (tR S (RE S fr) W0 (ev P.G (Rf.call P k) e)) own σc H Q := by
  obtain ⟨σ, h, ι, hid, sr, hr, p⟩ := q
  refine ⟨σ, h, ι, hid, sr, hr, ?_⟩
  refine Post.imp (Post.bind (R1 := RA S) back_RE p) fun vs H1 ⟨as, h1, k1, x1, r1, p1⟩ => ⟨as, h1, ?_⟩
  cases ei : items s as with
  | none => simp only [ei] at p1; exact False.elim p1
  | some ds =>
    simp only [ei] at p1
    refine ⟨ds, k1, x1, r1, rfl, fun J it => ?_⟩
    have p1 : Post S (RE S true) W ι hid σc H1 ((turns (turnC t own σ (evi P.G (Rf.call P k) ts) (ev P.G (Rf.call P k) e)) ds h1).bind fun ds h2 => if ds.length ≤ lim then .ok (.lst ds) h2 else .no) Q := p1
    cases et : turns (turnC t own σ (evi P.G (Rf.call P k) ts) (ev P.G (Rf.call P k) e)) ds h1 with
    | no => rw [et] at p1; exact False.elim p1
    | ex z _ =>
      exfalso
      revert et
      have go : ∀ (l : List D) (g : AH) {z : Exc} {g' : AH}, turns (turnC t own σ (evi P.G (Rf.call P k) ts) (ev P.G (Rf.call P k) e)) l g ≠ .ex z g' := by
        intro l
        cases l with
        | nil => intro g z g' e; cases e
        | cons d l =>
          intro g z g' e
          unfold turns at e
          split at e
          · split at e <;> cases e
          · cases e
      exact go _ _
    | ok r h2 =>
      rw [et] at p1
      simp only [Res.bind_ok] at p1
      by_cases hl : r.length ≤ lim
      · rw [if_pos hl] at p1
        exact comp_ok it (sr.keep k1) x1 (fun _ _ _ _ z => z) hsl et hl p1
      · rw [if_neg hl] at p1; exact False.elim p1

theorem comp_snd {rec : Scope → Expr → Option E} (hS : Snd C S P k rec) (g : Good C S P k X W sc) {elt tg iter : Expr} {ifs : List Expr} {scope : Scope} {pos : Pos} (h : cComp C rec sc elt tg iter ifs scope = some E') : Snd1 P S k X W (.ListComp elt [⟨tg, iter, ifs, 0⟩] scope pos) E' := by
  refine Snd1.of g.K ?_ (fun _ => rfl) (fun _ _ _ z => by cases z)
  unfold cComp at h
  split at h <;> try contradiction
  rename_i hc
  simp only [Bool.and_eq_true, decide_eq_true_eq] at hc
  split at h <;> try contradiction
  rename_i s args t ts e e1 e2 e3 e4
  split at h <;> try contradiction
  rename_i hsl
  cases h
  have ok : BlkOk X.N X.env.scope scope (ownOf C.N scope) := by
    rw [g.N, g.scope]
    exact blkOk_by hc.1.1
  refine PE.imp' (pe_lc g.calm g.nd (src_ok hS g e1) ok
    (fun s H A cl fp => pg_ok (C := C) (S := S) (X := X.blk s H scope (compEnvC scope cl A X.env) fp) (wr := scope) g.K g.calm g.N g.nd (fun x hx => stor_blk hx) 8 e2)
    (fun s H A cl fp => pts_ok hS (good_blk g scope s H A cl fp) hc.2 e3)
    (fun s H A cl fp => (hS _ _ _ e4 _ _ (good_blk g scope s H A cl fp)).pe) (fun x => set_fold hc.1.2 _ _)) fun σc H Q q => comp_read (fun i hi => by simpa using List.all_eq_true.mp hsl i hi) q

/-! ### all -/
theorem snd_step {rec : Scope → Expr → Option E} (hSet : SetPE S) (hS : Snd C S P k rec) : Snd C S P k (cE1 C rec) := by
  intro sc e E' h X W g
  unfold cE1 at h
  split at h
  · exact name_ok g h
  · exact con_ok g.K h
  · split at h <;> try contradiction
    rename_i hs
    exact tup_ok hS g hs h
  · split at h <;> try contradiction
    rename_i hs
    exact lst_ok hS g hs h
  · split at h <;> try contradiction
    rename_i o' a' b' e1 e2 e3
    cases h
    rw [cOp2_ok e1]
    exact bin_ok g (hS _ _ _ e2 X W g) (hS _ _ _ e3 X W g)
  · obtain ⟨a', e1, e2⟩ := Option.map_eq_some_iff.mp h
    subst e2
    exact neg_ok g (hS _ _ _ e1 X W g)
  · obtain ⟨a', e1, e2⟩ := Option.map_eq_some_iff.mp h
    subst e2
    exact not_ok g (hS _ _ _ e1 X W g)
  · rename_i op a pos
    have q := hS _ _ _ h X W g
    have w : PW X (.BoolOp op [a] pos) (tR S REq W (tst P.G (Rf.call P k) E')) := by
      cases op with
      | And => exact pw_and1 q.pt
      | Or => exact pw_or1 q.pt
    exact ⟨pe_one q.pe, w.pt, fun _ _ _ _ => w⟩
  · split at h <;> try contradiction
    rename_i a' b' e1 e2
    cases h
    exact and_ok g (hS _ _ _ e1 X W g) (hS _ _ _ e2 X W g)
  · split at h <;> try contradiction
    rename_i a' b' e1 e2
    cases h
    exact or_ok g (hS _ _ _ e1 X W g) (hS _ _ _ e2 X W g)
  · split at h <;> try contradiction
    rename_i hb
    split at h <;> try contradiction
    rename_i c a' b' e1 e2 e3
    cases h
    rw [cCp_ok e1]
    exact cmp_ok g hb (hS _ _ _ e2 X W g) (hS _ _ _ e3 X W g)
  · split at h <;> try contradiction
    rename_i hb
    split at h <;> try contradiction
    rename_i c c' a' b' d' e1 e1' e2 e3 e4
    cases h
    rw [cCp_ok e1, cCp_ok e1']
    exact chn_ok g hb (hS _ _ _ e2 X W g) (hS _ _ _ e3 X W g) (hS _ _ _ e4 X W g)
  · split at h <;> try contradiction
    rename_i c' a' b' e1 e2 e3
    cases h
    exact ite_ok g (hS _ _ _ e1 X W g) (hS _ _ _ e2 X W g) (hS _ _ _ e3 X W g)
  · exact sub_ok hS g h
  · exact call_ok hSet hS g h
  · exact mth_snd hS g h
  · exact comp_snd hS g h
  · cases h
theorem snd_all (hSet : SetPE S) : ∀ n, Snd C S P k (cE C n)
  | 0 => fun _ _ _ h => by cases h
  | n + 1 => snd_step hSet (snd_all hSet n)
end
end Rf
/-! Rf17 -/
set_option maxHeartbeats 1000000
/-! Rf17: statements' parts: new lists that may change, values side by side. -/
namespace Rf
open PySem PySem.Spec PyProof.Rows L2
section
variable {S : Sta} {ι hid : List Addr} {H : Hp} {h : AH} {W : WX}
theorem HRep.push {p : Addr} (nh : p ∉ hid) (x : HRep S ι (p :: hid) H h) {ds : List D} {vs : List V} (e : H p = some (.lst vs)) (r : RepNs S ι (p :: hid) H ds vs) : HRep S (ι ++ [p]) hid H (h ++ [.lst ds]) := by
  have np : p ∉ ι := x.dj p List.mem_cons_self
  refine ⟨by rw [List.length_append, List.length_append, x.len]; rfl, ?_, fun m a o e1 e2 => ?_, fun a ha z => ?_, fun a ha => x.trk a (List.mem_cons_of_mem _ ha)⟩
  · rw [List.nodup_append]
    refine ⟨x.nd, by simp, fun a ha b hb => ?_⟩
    rw [List.mem_singleton.mp hb]
    exact fun z => np (z ▸ ha)
  · by_cases hm : m < ι.length
    · rw [List.getElem?_append_left hm] at e1
      rw [List.getElem?_append_left (by rw [← x.len]; exact hm)] at e2
      obtain ⟨u, h1, h2⟩ := x.obj m a o e1 e2
      exact ⟨u, h1, h2.to stay_move⟩
    · have hm1 := (List.getElem?_eq_some_iff.mp e1).1
      rw [List.length_append, List.length_singleton] at hm1
      have hm2 : m = ι.length := by omega
      subst hm2
      rw [List.getElem?_append_right (Nat.le_refl _), Nat.sub_self] at e1
      rw [List.getElem?_append_right (by rw [x.len]; exact Nat.le_refl _), x.len, Nat.sub_self] at e2
      cases e1
      cases e2
      exact ⟨_, e, vs, rfl, RepNs.to stay_move _ _ r⟩
  · rcases List.mem_append.mp z with z | z
    · exact x.dj a (List.mem_cons_of_mem _ ha) z
    · rw [List.mem_singleton.mp z] at ha
      exact nh ha
/-- a new list becomes a mutable one -/
theorem thaw_step {H1 : Hp} {h1 : AH} {xs : List D} {x : V} (hr : HRep S ι hid H h) (k1 : Kp ι H H1) (x1 : HRep S ι hid H1 h1) (r1 : RE S true ι hid H H1 h1 (.lst xs) x) :
    ∃ p, x = .ref p ∧ Later ι (ι ++ [p]) H H1 ∧ HRep S (ι ++ [p]) hid H1 (h1 ++ [.lst xs]) ∧ Rep S (ι ++ [p]) hid H1 (.ref h1.length) (.ref p) := by
  obtain ⟨p, vs, rfl, n, e, rs, y⟩ := r1.2 rfl xs rfl
  obtain ⟨np, nh⟩ := hr.nin n
  exact ⟨p, rfl, ⟨⟨[p], rfl⟩, k1, fun a ha na => by
    rcases List.mem_append.mp ha with z | z
    · exact absurd z na
    · rw [List.mem_singleton.mp z]; exact n⟩, y.push nh e rs, .inr ⟨_, p, rfl, rfl, by rw [← x1.len, List.getElem?_append_right (Nat.le_refl _), Nat.sub_self]; rfl⟩⟩

/-! ### values side by side -/
def PostL (S : Sta) (W : WX) (ι hid : List Addr) (σc : L2.St) (H : Hp) (r : Res (List D)) (Q : List V → Hp → Prop) : Prop := match r with
  | .ok ds h' => ∀ vs H' ι', Later ι ι' H H' → HRep S ι' hid H' h' → Reps S ι' hid H' ds vs → Q vs H'
  | .ex e h' => ∀ c dx H' ι', Later ι ι' H H' → HRep S ι' hid H' h' → ExRep S ι' hid H' e c dx → W c dx σc H'
  | .no => False
def tL (S : Sta) (W : WX) (m : St' → AH → Res (List D)) : TA := fun σc H Q => ∃ σ h ι hid, SRep S ι hid H σ σc ∧ HRep S ι hid H h ∧ PostL S W ι hid σc H (m σ h) Q
theorem PostL.later {ι' : List Addr} {H1 : Hp} {σc : L2.St} {r : Res (List D)} {f : List D → List D} {g : List V → List V} {Q : List V → Hp → Prop} (l : Later ι ι' H H1) (p : PostL S W ι hid σc H (r.bind fun ds h2 => .ok (f ds) h2) Q)
    (fg : ∀ ds vs H2 ι2, Later ι' ι2 H1 H2 → Reps S ι2 hid H2 ds vs → Reps S ι2 hid H2 (f ds) (g vs)) : PostL S W ι' hid σc H1 r (fun vs H2 => Q (g vs) H2) := by
  cases r with
  | ok ds h2 => exact fun vs H2 ι2 l2 x2 rs => p (g vs) H2 ι2 (l.trans l2) x2 (fg ds vs H2 ι2 l2 rs)
  | ex e h2 => exact fun c dx H2 ι2 l2 => p c dx H2 ι2 (l.trans l2)
  | no => exact p
variable {C : Cc} {P : Prg} {k : Nat} {X : Cx} {sc : Scope}
theorem evp_ok {rec : Scope → Expr → Option E} (hS : Snd C S P k rec) (g : Good C S P k X W sc) : ∀ {args : List Expr} {es : List E} (fs : List Bool), args.all noStar = true → mapO (rec sc) args = some es → PA X args (tL S W (evp P.G (Rf.call P k) fs es))
  | [], es, fs, _, h => by
    cases h
    cases fs with
    | nil => exact PA.imp' pa_nil fun σc H Q ⟨σ, h, ι, hid, sr, hr, p⟩ => p [] H ι .refl hr .nil
    | cons _ _ => exact PA.imp' pa_nil fun σc H Q ⟨σ, h, ι, hid, sr, hr, p⟩ => False.elim p
  | a :: as, es, fs, hs, h => by
    obtain ⟨b, cs, e1, e2, rfl⟩ := mapO_cons h
    simp only [List.all_cons, Bool.and_eq_true] at hs
    cases fs with
    | nil => exact ⟨fun pos pins s σc H Q I ⟨σ, h, ι, hid, sr, hr, p⟩ => False.elim p⟩
    | cons f fs =>
      refine PA.imp' (pa_cons (hS sc a b e1 X W g).pe (evp_ok hS g fs hs.2 e2) (star_cons hs.1 _)) fun σc H Q ⟨σ, h, ι, hid, sr, hr, p⟩ => ⟨σ, h, ι, hid, sr, hr, ?_⟩
      have p : PostL S W ι hid σc H ((ev P.G (Rf.call P k) b σ h).bind fun d h1 => if f then (match b.fresh P.G.fr, d with
        | true, .lst xs => (evp P.G (Rf.call P k) fs cs σ (h1 ++ [.lst xs])).bind fun ds h2 => .ok (.ref h1.length :: ds) h2
        | _, _ => .no) else (evp P.G (Rf.call P k) fs cs σ h1).bind fun ds h2 => .ok (d :: ds) h2) Q := p
      cases ee : ev P.G (Rf.call P k) b σ h with
      | no => rw [ee] at p; exact p
      | ex e h1 => rw [ee] at p; exact fun c dx H1 k1 x1 r1 => p c dx H1 ι (.of k1) x1 r1
      | ok d h1 =>
        rw [ee] at p
        simp only [Res.bind_ok] at p
        intro x H1 k1 x1 r1
        cases f with
        | false =>
          simp only [Bool.false_eq_true, if_false] at p
          exact ⟨σ, h1, ι, hid, sr.keep k1, x1, p.later (f := (d :: ·)) (g := (x :: ·)) (.of k1) fun ds vs H2 ι2 l2 rs => .cons (r1.1.later l2 x1) rs⟩
        | true =>
          simp only [if_true] at p
          split at p
          · rename_i xs ef
            rw [ef] at r1
            obtain ⟨q, rfl, l, y, rq⟩ := thaw_step hr k1 x1 r1
            exact ⟨σ, _, ι ++ [q], hid, sr.later l hr, y, p.later (f := (.ref h1.length :: ·)) (g := (.ref q :: ·)) l fun ds vs H2 ι2 l2 rs => .cons (rq.later l2 y) rs⟩
          · exact False.elim p
end

/-! ### statements -/
theorem PS.imp' {X : Cx} {e : Stmt} {t t' : TS} (h : PS X e t) (k : ∀ D σ H, t' D σ H → t D σ H) : PS X e t' := ⟨fun pins s σ H D I q => h.run pins s σ H D I (k _ _ _ q)⟩
theorem PSs.imp' {X : Cx} {e : List Stmt} {t t' : TS} (h : PSs X e t) (k : ∀ D σ H, t' D σ H → t D σ H) : PSs X e t' := ⟨fun pins s σ H D I q => h.run pins s σ H D I (k _ _ _ q)⟩
structure GoodS (C : Cc) (S : Sta) (P : Prg) (k : Nat) (X : Cx) (W : WX) (sc : Scope) : Prop extends Good C S P k X W sc where
  kind : sc.kind = .function
  pass : PassesOwn (model X.prog X.w) X.A X.env X.xe
  tab : ExT S
  st : ∀ x, stor sc x = true → Loc sc x ∧ (X.fn x = true ∨ sc.names.lookup x = some .local)
  stk : X.stack = X.env :: X.outer
  frm : X.env.frame = some X.env.locals
section
variable {C : Cc} {S : Sta} {P : Prg} {k : Nat} {X : Cx} {W : WX} {sc : Scope}
theorem GoodS.tg (g : GoodS C S P k X W sc) {n : Nat} {e : Expr} {t : T} (h : cT C sc n e = some t) : PG X e (gT S t) :=
  pg_ok g.K g.calm g.N g.nd (fun x hx => by rw [g.scope]; exact g.st x hx) n h
theorem GoodS.bk (g : GoodS C S P k X W sc) : X.env.blockKind = .function := by
  unfold Env.blockKind
  rw [g.scope, g.kind]
  rfl
/-- target = e -/
theorem asg_read {e : E} {t : T} {te : TE} {g : TG} {D : Ends} {σc : L2.St} {H : Hp} (ht : ∀ σ H Q, tR S (RE S (e.fresh P.G.fr)) W (ev P.G (Rf.call P k) e) σ H Q → te σ H Q) (hg : ∀ v σ H Q, gT S t v σ H Q → g v σ H Q)
    (q : tS S W (exec P.G (Rf.call P k) P.W (.asg t e)) D σc H) : tAsg te g D σc H := by
  obtain ⟨σ, h, ι, hid, sr, hr, p⟩ := q
  refine ht _ _ _ ⟨σ, h, ι, hid, sr, hr, ?_⟩
  refine Post.imp (Post.out (R1 := RE S _) sr hr p) fun x H1 ⟨d, h1, k1, x1, r1, p1⟩ => hg _ _ _ _ ?_
  cases ea : assign t d σ with
  | none => simp only [ea] at p1; exact False.elim p1
  | some σ' =>
    simp only [ea] at p1
    exact ⟨σ, h1, ι, hid, d, σ', sr.keep k1, x1, r1.1, ea, fun σc' s' _ => p1 σc' H1 ι .refl x1 s'⟩
theorem thaw_read {e : E} {i : Nat} {te : TE} {D : Ends} {σc : L2.St} {H : Hp} (ht : ∀ σ H Q, tR S (RE S (e.fresh P.G.fr)) W (ev P.G (Rf.call P k) e) σ H Q → te σ H Q)
    (q : tS S W (exec P.G (Rf.call P k) P.W (.thaw i e)) D σc H) : tAsg te (gName i) D σc H := by
  obtain ⟨σ, h, ι, hid, sr, hr, p⟩ := q
  refine ht _ _ _ ⟨σ, h, ι, hid, sr, hr, ?_⟩
  have p : PostS S W D ι hid H ((ev P.G (Rf.call P k) e σ h).out σ fun d h1 => match e.fresh P.G.fr, d with
    | true, .lst xs => .nx (σ.set i (some (.ref h1.length))) (h1 ++ [.lst xs])
    | _, _ => .no) := p
  cases ee : ev P.G (Rf.call P k) e σ h with
  | no => rw [ee] at p; exact p
  | ex x h1 => rw [ee] at p; exact fun c dx H1 k1 x1 r1 => p c dx σc H1 ι (.of k1) x1 (sr.keep k1) r1
  | ok d h1 =>
    rw [ee] at p
    simp only [Res.out_ok] at p
    intro x H1 k1 x1 r1
    split at p
    · rename_i xs ef
      rw [ef] at r1
      obtain ⟨q, rfl, l, y, rq⟩ := thaw_step hr k1 x1 r1
      exact p _ H1 _ l y ((sr.later l hr).set rq)
    · exact False.elim p
/-- name = e, e a comprehension or not -/
def notComp : Expr → Bool
  | .ListComp .. => false
  | .SetComp .. => false
  | .DictComp .. => false
  | _ => true
theorem swaps_no {v : Expr} (h : notComp v = true) (t : Option Expr) (l : Nat) (env : Env) : swapsWith v t l env = pure false := by
  cases v <;> first | rfl | cases h
/-- does the comprehension's value go to its name ahead of the rest's end -/
def swB (sc : Scope) (x : Str) (px : Pos) (v : Expr) : Bool := match v with
  | .ListComp _ _ s pv => (sc.names.lookup x == some .local) && (px.line == pv.line) && !(s.names.any fun (n, k) => n == x && (k == .local || k == .cell))
  | _ => false
theorem swB_ok (g : GoodS C S P k X W sc) {x : Str} {px : Pos} {elt : Expr} {gs : List Comprehension} {s : Scope} {pv : Pos} (l : Nat) : swapsWith (.ListComp elt gs s pv) (some (.Name x px)) l X.env = pure (swB sc x px (.ListComp elt gs s pv)) := by
  have hk : X.env.kindOf x = sc.names.lookup x := by show X.env.scope.names.lookup x = _; rw [g.scope]
  unfold swapsWith swB
  simp only [g.bk, hk, Expr.pos]
  rfl
end
end Rf
/-! Rf18 -/
set_option maxHeartbeats 1000000
/-! Rf18: from the model's statements to the small syntax; they are sound. -/
namespace Rf
open PySem PySem.Spec PyProof.Rows L2
def par2 (sc : Scope) (x : Str) (px : Pos) (y : Str) (py : Pos) (a b : Expr) : Bool :=
  (sc.names.lookup x == some .local) && (sc.names.lookup y == some .local) && (py.line == px.line) && !(x == y) && (noStar a && noStar b) && (![a, b].all (foldedForSure 8)) && (![a, b].all (constantsAlone 8))
def par3 (sc : Scope) (x : Str) (px : Pos) (y : Str) (py : Pos) (z : Str) (pz : Pos) (a b c : Expr) : Bool :=
  (sc.names.lookup x == some .local) && (sc.names.lookup y == some .local) && (sc.names.lookup z == some .local) && (py.line == px.line) && (pz.line == px.line) && (!(x == y) && !(x == z) && !(y == z)) && (noStar a && noStar b && noStar c) && (![a, b, c].all (foldedForSure 8)) && (![a, b, c].all (constantsAlone 8))
def notLoc (sc : Scope) : Expr → Bool
  | .Name x _ => !(sc.names.lookup x == some .local)
  | _ => true
def noSwap (sc : Scope) (ts vs : List Expr) : Bool := !(ts.length == 2 || ts.length == 3) || (vs.length != ts.length) || ts.any (notLoc sc)
section
variable {C : Cc} {S : Sta} {P : Prg} {k : Nat} {X : Cx} {W : WX} {sc : Scope}
theorem star_any {vs : List Expr} (h : vs.all noStar = true) : (vs.any fun | .Starred .. => true | _ => false) = false := by
  induction vs with
  | nil => rfl
  | cons v vs ih =>
    simp only [List.all_cons, Bool.and_eq_true] at h
    rw [List.any_cons, ih h.2]
    cases v <;> first | rfl | cases h.1
theorem par2_ok (g : GoodS C S P k X W sc) {x y : Str} {px py pt pt2 : Pos} {kt k2 : Nat} {a b : Expr} (h : par2 sc x px y py a b = true) : swappedStores [.Tuple [.Name x px, .Name y py] kt pt] (.Tuple [a, b] k2 pt2) X.env = pure (some [x, y]) := by
  unfold par2 at h
  simp only [Bool.and_eq_true, Bool.not_eq_true'] at h
  obtain ⟨⟨⟨⟨⟨⟨h1, h2⟩, h3⟩, h4⟩, h5⟩, h6⟩, h7⟩ := h
  have e1 : X.env.kindOf x = some .local := by show X.env.scope.names.lookup x = _; rw [g.scope]; exact eq_of_beq h1
  have e2 : X.env.kindOf y = some .local := by show X.env.scope.names.lookup y = _; rw [g.scope]; exact eq_of_beq h2
  have hl : py.line = px.line := eq_of_beq h3
  have hs := star_any (vs := [a, b]) (by simp [h5])
  have hd : ([x, y] : List Str).eraseDups = [x, y] := by
    have : (y == x) = false := by rw [BEq.comm]; exact h4
    simp [List.eraseDups_cons, this]
  unfold swappedStores
  simp only [hs, g.bk, List.length_cons, List.length_nil, List.head?_cons, Option.map_some, Option.getD_some, Expr.pos, List.filterMap_cons, List.filterMap_nil, e1, e2, hl, h6, h7, beq_self_eq_true, Bool.and_self, if_true, hd]
  exact (if_neg (by decide)).trans ((if_neg (Bool.eq_false_iff.mp hs)).trans rfl)
theorem par3_ok (g : GoodS C S P k X W sc) {x y z : Str} {px py pz pt pt2 : Pos} {kt k2 : Nat} {a b c : Expr} (h : par3 sc x px y py z pz a b c = true) : swappedStores [.Tuple [.Name x px, .Name y py, .Name z pz] kt pt] (.Tuple [a, b, c] k2 pt2) X.env = pure (some [x, y, z]) := by
  unfold par3 at h
  simp only [Bool.and_eq_true, Bool.not_eq_true'] at h
  obtain ⟨⟨⟨⟨⟨⟨⟨⟨h1, h2⟩, h2z⟩, h3⟩, h3z⟩, ⟨h4, h4z⟩, h4w⟩, h5⟩, h6⟩, h7⟩ := h
  have e1 : X.env.kindOf x = some .local := by show X.env.scope.names.lookup x = _; rw [g.scope]; exact eq_of_beq h1
  have e2 : X.env.kindOf y = some .local := by show X.env.scope.names.lookup y = _; rw [g.scope]; exact eq_of_beq h2
  have e3 : X.env.kindOf z = some .local := by show X.env.scope.names.lookup z = _; rw [g.scope]; exact eq_of_beq h2z
  have hl : py.line = px.line := eq_of_beq h3
  have hlz : pz.line = px.line := eq_of_beq h3z
  have hs := star_any (vs := [a, b, c]) (by simp [h5])
  have hd : ([x, y, z] : List Str).eraseDups = [x, y, z] := by
    have q1 : (y == x) = false := by rw [BEq.comm]; exact h4
    have q2 : (z == x) = false := by rw [BEq.comm]; exact h4z
    have q3 : (z == y) = false := by rw [BEq.comm]; exact h4w
    simp [List.eraseDups_cons, q1, q2, q3]
  unfold swappedStores
  simp only [hs, g.bk, List.length_cons, List.length_nil, List.head?_cons, Option.map_some, Option.getD_some, Expr.pos, List.filterMap_cons, List.filterMap_nil, e1, e2, e3, hl, hlz, h6, h7, beq_self_eq_true, Bool.and_self, if_true, hd]
  exact (if_neg (by decide)).trans ((if_neg (Bool.eq_false_iff.mp hs)).trans rfl)
theorem filter_lt {α β : Type} {f : α → Option β} : ∀ {l : List α}, (∃ a ∈ l, f a = none) → (l.filterMap f).length < l.length
  | [], ⟨a, h, _⟩ => by cases h
  | x :: xs, ⟨a, h, e⟩ => by
    rw [List.filterMap_cons]
    rcases List.mem_cons.mp h with rfl | h
    · rw [e]
      exact Nat.lt_succ_of_le (List.length_filterMap_le _ _)
    · have ih := filter_lt ⟨a, h, e⟩
      split
      · exact Nat.lt_succ_of_lt ih
      · exact Nat.succ_lt_succ ih
theorem noSwap_ok (g : GoodS C S P k X W sc) {ts vs : List Expr} {pt pt2 : Pos} {kt k2 : Nat} (h : noSwap sc ts vs = true) : swappedStores [.Tuple ts kt pt] (.Tuple vs k2 pt2) X.env = pure none := by
  unfold noSwap at h
  unfold swappedStores
  simp only [g.bk]
  by_cases h1 : (!(ts.length == 2 || ts.length == 3) || vs.length != ts.length) = true
  · rw [show (!(ts.length == 2 || ts.length == 3) || vs.length != ts.length || ScopeKind.function != ScopeKind.function) = true by rw [h1]; rfl]
    rfl
  · rw [Bool.not_eq_true] at h1
    rw [h1, Bool.false_or] at h
    obtain ⟨t, ht, hn⟩ := List.any_eq_true.mp h
    rw [show (!(ts.length == 2 || ts.length == 3) || vs.length != ts.length || ScopeKind.function != ScopeKind.function) = false by rw [h1]; rfl]
    simp only [Bool.false_eq_true, if_false]
    by_cases h2 : (vs.any fun | .Starred .. => true | _ => false) = true
    · exact (if_pos h2).trans rfl
    · refine (if_neg h2).trans ?_
      have lt : ∀ (l : Nat), ((ts.filterMap fun
        | .Name id pos => if X.env.kindOf id == some .local && pos.line == l then some id else none
        | _ => none).length != ts.length) = true := fun l => by
        refine bne_iff_ne.mpr (Nat.ne_of_lt (filter_lt ⟨t, ht, ?_⟩))
        cases t <;> first | rfl | skip
        rename_i x p
        have hk : X.env.kindOf x = sc.names.lookup x := by show X.env.scope.names.lookup x = _; rw [g.scope]
        have hn : (!(sc.names.lookup x == some .local)) = true := hn
        rw [Bool.not_eq_true'] at hn
        simp only [hk, hn, Bool.false_and]
        rfl
      exact if_pos (by rw [Bool.or_eq_true]; exact .inl (lt _))
end
end Rf
/-! Rf19 -/
set_option maxHeartbeats 1000000
/-! Rf19: statements are sound (without exceptions). -/
namespace Rf
open PySem PySem.Spec PyProof.Rows L2
section
variable {C : Cc} {S : Sta} {P : Prg} {k : Nat} {X : Cx} {W : WX} {sc : Scope}
def SndS (C : Cc) (S : Sta) (P : Prg) (k : Nat) (sc : Scope) (rec : Stmt → Option Rf.S) : Prop := ∀ s s', rec s = some s' → ∀ X W, GoodS C S P k X W sc → PS X s (tS S W (exec P.G (Rf.call P k) P.W s'))
theorem execs_ok {rec : Stmt → Option Rf.S} (hS : SndS C S P k sc rec) (g : GoodS C S P k X W sc) : ∀ {ss : List Stmt} {ss' : List Rf.S}, mapO rec ss = some ss' → PSs X ss (tS S W (execs P.G (Rf.call P k) P.W ss'))
  | [], ss', h => by
    cases h
    exact PSs.imp' pss_nil fun D σc H ⟨σ, h, ι, hid, sr, hr, p⟩ => p σc H ι .refl hr sr
  | s :: ss, ss', h => by
    obtain ⟨b, cs, e1, e2, rfl⟩ := mapO_cons h
    refine PSs.imp' (pss_cons (hS s b e1 X W g) (execs_ok hS g e2)) fun D σc H ⟨σ, h, ι, hid, sr, hr, p⟩ => ⟨σ, h, ι, hid, sr, hr, ?_⟩
    have p : PostS S W D ι hid H (match exec P.G (Rf.call P k) P.W b σ h with
      | .nx σ1 h1 => execs P.G (Rf.call P k) P.W cs σ1 h1
      | o => o) := p
    cases eb : exec P.G (Rf.call P k) P.W b σ h with
    | nx σ1 h1 =>
      rw [eb] at p
      exact fun σc2 H2 ι2 l2 x2 s2 => ⟨σ1, h1, ι2, hid, s2, x2, p.back l2 x2⟩
    | rt _ _ _ => rw [eb] at p; exact p
    | bk _ _ => rw [eb] at p; exact p
    | ct _ _ => rw [eb] at p; exact p
    | ex _ _ _ => rw [eb] at p; exact p
    | no => rw [eb] at p; exact p
theorem expr_s {e : Expr} {e' : E} {pos : Pos} (hn : notComp e = true) (h : Snd1 P S k X W e e') : PS X (.Expr e pos) (tS S W (exec P.G (Rf.call P k) P.W (.expr e'))) := by
  refine PS.imp' (ps_expr h.pe (swaps_no hn _ _ _)) fun D σc H ⟨σ, h, ι, hid, sr, hr, p⟩ => ⟨σ, h, ι, hid, sr, hr, ?_⟩
  exact Post.imp (Post.out (R1 := RE S _) sr hr p) fun x H1 ⟨d, h1, k1, x1, r1, p1⟩ => p1 σc H1 ι .refl x1 (sr.keep k1)
theorem ret_s {e : Expr} {e' : E} {pos : Pos} (h : Snd1 P S k X W e e') : PS X (.Return (some e) pos) (tS S W (exec P.G (Rf.call P k) P.W (.ret e'))) := by
  refine PS.imp' (ps_ret h.pe) fun D σc H ⟨σ, h, ι, hid, sr, hr, p⟩ => ⟨σ, h, ι, hid, sr, hr, ?_⟩
  have p : PostS S W D ι hid H ((ev P.G (Rf.call P k) e' σ h).out σ fun d h1 => .rt d (e'.fresh P.G.fr) h1) := p
  cases ee : ev P.G (Rf.call P k) e' σ h with
  | no => rw [ee] at p; exact p
  | ex x h1 => rw [ee] at p; exact fun c dx H1 k1 x1 r1 => p c dx σc H1 ι (.of k1) x1 (sr.keep k1) r1
  | ok d h1 => rw [ee] at p; exact fun x H1 k1 x1 r1 => p x H1 ι (.of k1) x1 r1
theorem retN_s {pos : Pos} : PS X (.Return none pos) (tS S W (exec P.G (Rf.call P k) P.W .retN)) :=
  PS.imp' ps_retN fun D σc H ⟨σ, h, ι, hid, sr, hr, p⟩ => p .non H ι .refl hr (mk0 (.inl .non))
theorem pass_s {pos : Pos} : PS X (.Pass pos) (tS S W (exec P.G (Rf.call P k) P.W .pass)) :=
  PS.imp' ps_pass fun D σc H ⟨σ, h, ι, hid, sr, hr, p⟩ => p σc H ι .refl hr sr
theorem doc_s {x : Str} {j : Nat} {pos pos' : Pos} : PS X (.Expr (.Constant (.str x) j pos) pos') (tS S W (exec P.G (Rf.call P k) P.W .pass)) :=
  PS.imp' ps_doc fun D σc H ⟨σ, h, ι, hid, sr, hr, p⟩ => p σc H ι .refl hr sr
theorem brk_s {pos : Pos} : PS X (.Break pos) (tS S W (exec P.G (Rf.call P k) P.W .brk)) :=
  PS.imp' ps_break fun D σc H ⟨σ, h, ι, hid, sr, hr, p⟩ => p σc H ι .refl hr sr
theorem cont_s {pos : Pos} : PS X (.Continue pos) (tS S W (exec P.G (Rf.call P k) P.W .cont)) :=
  PS.imp' ps_continue fun D σc H ⟨σ, h, ι, hid, sr, hr, p⟩ => p σc H ι .refl hr sr
theorem tst_out {G : Glb} {cl : CallF} {Wn : Nat} (c : E) (a b : List Rf.S) (σ : St') (h : AH) : exec G cl Wn (.ite c a b) σ h = (tst G cl c σ h).out σ fun r h1 => if r then execs G cl Wn a σ h1 else execs G cl Wn b σ h1 := by
  unfold tst
  show ((ev G cl c σ h).out σ fun x h1 => match truth h1 x with
    | some true => execs G cl Wn a σ h1
    | some false => execs G cl Wn b σ h1
    | none => .no) = _
  cases ev G cl c σ h with
  | no => rfl
  | ex _ _ => rfl
  | ok x h1 =>
    simp only [Res.bind_ok, Res.out_ok]
    cases e : truth h1 x with
    | none => rfl
    | some r => cases r <;> rfl
theorem if_s {c : Expr} {a b : List Stmt} {c' : E} {a' b' : List Rf.S} {pos : Pos} (hc : Snd1 P S k X W c c') (ha : PSs X a (tS S W (execs P.G (Rf.call P k) P.W a'))) (hb : PSs X b (tS S W (execs P.G (Rf.call P k) P.W b'))) :
    PS X (.If c a b pos) (tS S W (exec P.G (Rf.call P k) P.W (.ite c' a' b'))) := by
  refine PS.imp' (ps_if hc.pt ha hb) fun D σc H ⟨σ, h, ι, hid, sr, hr, p⟩ => ⟨σ, h, ι, hid, sr, hr, ?_⟩
  rw [tst_out] at p
  refine Post.imp (Post.out (R1 := REq) sr hr p) fun r H1 ⟨r', h1, k1, x1, e1, p1⟩ => ?_
  have e1 : r' = r := e1
  subst e1
  cases r' with
  | true => exact ⟨σ, h1, ι, hid, sr.keep k1, x1, p1⟩
  | false => exact ⟨σ, h1, ι, hid, sr.keep k1, x1, p1⟩
theorem while_s {c : Expr} {a : List Stmt} {c' : E} {a' : List Rf.S} {pos : Pos} (g : GoodS C S P k X W sc) (hc : Snd1 P S k X W c c') (ha : PSs X a (tS S W (execs P.G (Rf.call P k) P.W a'))) :
    PS X (.While c a [] pos) (tS S W (exec P.G (Rf.call P k) P.W (.while_ c' a'))) := by
  refine PS.imp' (ps_while g.pass hc.pt ha) fun D σc H ⟨σ, h, ι, hid, sr, hr, p⟩ => while_ok (n := P.W) (ι := ι) (hid := hid) (σ := σ) (h := h) sr hr ?_
  have p : PostS S W D ι hid H (loopW (fun σ' h' => (ev P.G (Rf.call P k) c' σ' h').out σ' fun x h1 => match truth h1 x with
    | some true => execs P.G (Rf.call P k) P.W a' σ' h1
    | some false => .bk σ' h1
    | none => .no) P.W σ h) := p
  have e : (fun (σ' : St') (h' : AH) => (ev P.G (Rf.call P k) c' σ' h').out σ' fun x h1 => match truth h1 x with
    | some true => execs P.G (Rf.call P k) P.W a' σ' h1
    | some false => .bk σ' h1
    | none => .no) = fun σ' h' => (tst P.G (Rf.call P k) c' σ' h').out σ' fun b h1 => if b then execs P.G (Rf.call P k) P.W a' σ' h1 else .bk σ' h1 := by
    funext σ' h'
    unfold tst
    cases ev P.G (Rf.call P k) c' σ' h' with
    | no => rfl
    | ex _ _ => rfl
    | ok x h1 =>
      simp only [Res.bind_ok, Res.out_ok]
      cases e : truth h1 x with
      | none => rfl
      | some r => cases r <;> rfl
  rw [e] at p
  exact p
theorem for_s {tg iter : Expr} {a : List Stmt} {t : T} {s : Src} {args : List E} {a' : List Rf.S} {pos : Pos} (g : GoodS C S P k X W sc) (hn : notSet iter = true) (hi : PI X tg iter (iD S W s (evs P.G (Rf.call P k) args))) (hg : PG X tg (gT S t)) (ha : PSs X a (tS S W (execs P.G (Rf.call P k) P.W a'))) :
    PS X (.For tg iter a [] pos) (tS S W (exec P.G (Rf.call P k) P.W (.for_ t s args a'))) := by
  refine PS.imp' (ps_for g.pass g.calm hi hg ha (fun x => set_fold hn _ _)) fun D σc H ⟨σ, h, ι, hid, sr, hr, p⟩ => ⟨σ, h, ι, hid, sr, hr, ?_⟩
  refine Post.imp (Post.out (R1 := RA S) sr hr p) fun vs H1 ⟨as, h1, k1, x1, r1, p1⟩ => ⟨as, h1, ?_⟩
  cases ei : items s as with
  | none => simp only [ei] at p1; exact False.elim p1
  | some ds =>
    simp only [ei] at p1
    exact ⟨ds, k1, x1, r1, rfl, fun J it => loop_ok it (sr.keep k1) x1 (fun _ _ _ _ z => z) p1⟩
/-- o[i] = v -/
theorem sub_asg {o i : Expr} {ps : Pos} (h : plainIx i = true) (env : Env) (v : Value) : PySem.assign (.Subscript o i ps) env v = (do
      let ov ← holding [v] (eval o env)
      let iv ← holding [v, ov] (eval i env)
      standAt ps
      holding [v, ov, iv] (setItem ov iv v)
      release [v, ov, iv] []) := by
  cases i <;> first | rfl | cases h
theorem setix_s {o i v : Expr} {o' i' v' : E} {pos ps : Pos} (hp : plainIx i = true) (g : GoodS C S P k X W sc) (ho : Snd1 P S k X W o o') (hi : Snd1 P S k X W i i') (hv : Snd1 P S k X W v v') : PS X (.Assign [.Subscript o i ps] v pos) (tS S W (exec P.G (Rf.call P k) P.W (.setix o' i' v'))) := by
  have hs : swapsWithSole [.Subscript o i ps] v pos.line X.env = pure false := by
    show swapsWith v (some (.Subscript o i ps)) pos.line X.env = pure false
    cases v <;> rfl
  refine PS.imp' (ps_asg hv.pe (pg_sub ho.pe hi.pe (set_ok (S := S)) (sub_asg hp _)) hs) fun D σc H ⟨σ, h, ι, hid, sr, hr, p⟩ => ⟨σ, h, ι, hid, sr, hr, ?_⟩
  refine Post.imp (Post.out (R1 := RE S _) sr hr p) fun x H1 ⟨d, h1, k1, x1, r1, p1⟩ => ⟨σ, h1, ι, hid, sr.keep k1, x1, ?_⟩
  refine Post.imp (Post.out (R1 := RE S _) (sr.keep k1) x1 p1) fun y H2 ⟨e, h2, k2, x2, r2, p2⟩ => ⟨σ, h2, ι, hid, (sr.keep k1).keep k2, x2, ?_⟩
  refine Post.imp (Post.out (R1 := RE S _) ((sr.keep k1).keep k2) x2 p2) fun z H3 ⟨f, h3, k3, x3, r3, p3⟩ => ?_
  cases es : setIx h3 e f d with
  | none => simp only [es] at p3; exact False.elim p3
  | some h4 =>
    simp only [es] at p3
    exact ⟨ι, hid, h3, e, f, d, h4, x3, r2.1.keep k3, r3.1, (r1.1.keep k2).keep k3, es, fun H' k' x' => p3 σc H' ι (.of k') x' ((((sr.keep k1).keep k2).keep k3).keep k')⟩
/-- name = value -/
theorem set_s {x : Str} {v : Expr} {v' : E} {i : Nat} {pos px : Pos} (g : GoodS C S P k X W sc) (hx : stor sc x = true) (ei : slotOf C.N x = some i) (hs : swapsWith v (some (.Name x px)) pos.line X.env = pure false) (hv : Snd1 P S k X W v v') :
    PS X (.Assign [.Name x px] v pos) (tS S W (exec P.G (Rf.call P k) P.W (if C.mu i then .thaw i v' else .asg (.nm i) v'))) := by
  obtain ⟨l1, l2⟩ := g.st x hx
  have ps := ps_set (pos' := px) (pos := pos) g.nd (i := i) (by rw [g.N]; exact slotOf_get ei) (by rw [g.scope]; exact l1) hv.pe hs (by rw [g.scope]; exact l2)
  cases em : C.mu i with
  | true => exact PS.imp' ps fun D σc H q => thaw_read (fun _ _ _ z => z) (by simpa [em] using q)
  | false => exact PS.imp' ps fun D σc H q => asg_read (fun _ _ _ z => z) (fun _ _ _ _ z => gT_nm z) (by simpa [em] using q)
/-- name = [..] on one line -/
theorem setc_s {rec : Scope → Expr → Option E} (hE : Snd C S P k rec) (g : GoodS C S P k X W sc) {x : Str} {i : Nat} {pos px pv : Pos} {elt tg iter : Expr} {ifs : List Expr} {scope : Scope} {v' : E} (ei : slotOf C.N x = some i) (hw : swB sc x px (.ListComp elt [⟨tg, iter, ifs, 0⟩] scope pv) = true)
    (h : cComp C rec sc elt tg iter ifs scope = some v') : PS X (.Assign [.Name x px] (.ListComp elt [⟨tg, iter, ifs, 0⟩] scope pv) pos) (tS S W (exec P.G (Rf.call P k) P.W (if C.mu i then .thaw i v' else .asg (.nm i) v'))) := by
  have hl : X.env.scope.names.lookup x = some .local := by
    unfold swB at hw
    simp only [Bool.and_eq_true] at hw
    rw [g.scope]
    exact eq_of_beq hw.1.1
  have gg := g.toGood
  have hv := comp_snd (pos := pv) hE gg h
  have hc := h
  unfold cComp at hc
  split at hc <;> try contradiction
  rename_i hc1
  simp only [Bool.and_eq_true, decide_eq_true_eq] at hc1
  split at hc <;> try contradiction
  rename_i s args t ts e e1 e2 e3 e4
  split at hc <;> try contradiction
  rename_i hsl
  cases hc
  have ok : BlkOk X.N X.env.scope scope (ownOf C.N scope) := by
    rw [g.N, g.scope]
    exact blkOk_by hc1.1.1
  have ps := ps_setLc (spos := pos) (pos := pv) g.calm g.nd (i := i) (by rw [g.N]; exact slotOf_get ei) hl (by rw [swB_ok g, hw]) (src_ok (W := W) hE gg e1) ok
    (fun s H A cl fp => pg_ok (C := C) (S := S) (X := X.blk s H scope (compEnvC scope cl A X.env) fp) (wr := scope) g.K g.calm g.N g.nd (fun x hx => stor_blk hx) 8 e2)
    (fun s H A cl fp => pts_ok hE (good_blk gg scope s H A cl fp) hc1.2 e3)
    (fun s H A cl fp => (hE _ _ _ e4 _ _ (good_blk gg scope s H A cl fp)).pe) (fun x => set_fold hc1.1.2 _ _)
  have rd := fun σc H Q q => comp_read (fr := e.fresh P.G.fr) (P := P) (k := k) (S := S) (W := W) (t := t) (s := s) (args := args) (ts := ts) (e := e) (own := (ownOf C.N scope).map (·.2)) (fun i hi => by simpa using List.all_eq_true.mp hsl i hi) (σc := σc) (H := H) (Q := Q) q
  cases em : C.mu i with
  | true => exact PS.imp' ps fun D σc H q => thaw_read (rd) (by simpa [em] using q)
  | false => exact PS.imp' ps fun D σc H q => asg_read rd (fun _ _ _ _ z => gT_nm z) (by simpa [em] using q)
end
end Rf
/-! Rf19b -/
set_option maxHeartbeats 1000000
/-! Rf19b: raise, try. -/
namespace Rf
open PySem PySem.Spec PyProof.Rows L2
section
variable (C : Cc) (recE : Scope → Expr → Option E) (recS : Stmt → Option Rf.S) (sc : Scope)
def cRaise (x : Str) (args : List Expr) : Option Rf.S := if plainN x && gbl sc x then (match C.gl x, args with
  | .cls c none, [] => some (.raise c [])
  | .cls c (some _), [e] => if noStar e then (recE sc e).map fun e' => .raise c [e'] else none
  | _, _ => none) else none
def cPart (n : Option Str) (fo : Option Str) : Expr → Option (Option D)
  | .Constant .none _ _ => some (some .non)
  | .Constant (.bool b) _ _ => some (some (.bl b))
  | .Constant (.int i) _ _ => some (some (.int i))
  | .Constant (.str z) _ _ => some (some (.str z))
  | .Attribute (.Name m _) f _ => if plainN m && decide (n = some m) && decide (fo = some f) then some none else none
  | _ => none
def cNm : Option Str → Option (Option Nat)
  | none => some none
  | some n => if decide (sc.names.lookup n = some .local) then (slotOf C.N n).map some else none
def cHd : ExceptHandler → Option Hdl
  | .ExceptHandler (some (.Name x _)) n [.Assign [.Name y _] (.List es _) _] _ => if plainN x && gbl sc x && stor sc y then (match C.gl x, cNm C sc n, slotOf C.N y with
    | .cls c fo, some j, some i => if C.mu i then none else if es.all noStar && decide (es.length ≤ 1000) then (mapO (cPart n fo) es).map fun ps => ⟨c, j, i, .l ps⟩ else none
    | _, _, _ => none) else none
  | _ => none
def cTry (b : List Stmt) (hs : List ExceptHandler) : Option Rf.S := if hs.isEmpty then none else (match mapO recS b, mapO (cHd C sc) hs with
  | some b', some hs' => some (.try_ b' hs')
  | _, _ => none)
end
section
variable {C : Cc} {S : Sta} {P : Prg} {k : Nat} {X : Cx} {W : WX} {sc : Scope} {recE : Scope → Expr → Option E} {recS : Stmt → Option Rf.S}
theorem raise_s (hE : Snd C S P k recE) (g : GoodS C S P k X W sc) {x : Str} {p pos pos2 : Pos} {args : List Expr} {s' : Rf.S} (h : cRaise C recE sc x args = some s') : PS X (.Raise (some (.Call (.Name x p) args [] pos)) none pos2) (tS S W (exec P.G (Rf.call P k) P.W s')) := by
  unfold cRaise at h
  split at h <;> try contradiction
  rename_i hc
  rw [Bool.and_eq_true] at hc
  obtain ⟨q1, q2, q3⟩ := plainN_ok hc.1
  split at h <;> try contradiction
  · rename_i c ef
    cases h
    have gg := g.gl x
    rw [ef] at gg
    obtain ⟨C', e1, e2, e3, kp, sb, ty, B, i, newId, bmB, F, q⟩ := gg
    rw [← g.K] at kp sb ty q
    exact PS.imp' (ps_raise g.calm g.tk (pmk_zero F q (raises_own sb ty) kp (g.gb hc.2) e2 q1)) fun D σc H ⟨σ, h, ι, hid, sr, hr, p⟩ => p (.ref C') none σc H ι .refl hr sr ⟨C', e1, rfl, trivial⟩
  · rename_i c f e ef
    split at h <;> try contradiction
    rename_i hn
    obtain ⟨e', ee, rfl⟩ := Option.map_eq_some_iff.mp h
    have gg := g.gl x
    rw [ef] at gg
    obtain ⟨C', e1, e2, e3, kp, sb, ty, e4, _, _, B, i, newId, bmB, fI, FB, T⟩ := gg
    rw [← g.K] at kp sb ty
    rw [← g.K, ← g.prog] at T
    have dp := g.room.dp
    refine PS.imp' (ps_raise g.calm g.tk (pmk_xi FB T (raises_own sb ty) kp (g.gb hc.2) e2 e3 (by omega) (hE _ _ _ ee X W g.toGood).pe q1 (star_cons hn _))) fun D σc H ⟨σ, h, ι, hid, sr, hr, p⟩ => ⟨σ, h, ι, hid, sr, hr, ?_⟩
    have p : PostS S W D ι hid H (((ev P.G (Rf.call P k) e' σ h).bind fun x h1 => (Res.ok [x] h1)).out σ fun ds h1 => match ds with
      | [] => .ex ⟨c, none⟩ σ h1
      | [d] => if d.isRef then .no else .ex ⟨c, some d⟩ σ h1
      | _ => .no) := p
    cases ev : ev P.G (Rf.call P k) e' σ h with
    | no => rw [ev] at p; exact p
    | ex e h1 => rw [ev] at p; exact fun c dx H' k1 x1 r1 => p c dx σc H' ι (.of k1) x1 (sr.keep k1) r1
    | ok d h1 =>
      rw [ev] at p
      intro v H1 k1 x1 r1 dx hdx
      simp only [Res.bind_ok, Res.out_ok] at p
      split at p
      · exact False.elim p
      · rename_i nr
        have k2 : Kp ι H1 (upd H1 dx (.xd [(f, v)])) := Kp.new hdx
        exact p (.ref C') (some dx) σc _ ι (.of (k1.trans k2)) (x1.new hdx) ((sr.keep k1).keep k2) ⟨C', e1, rfl, f, dx, v, e4, rfl, upd_same, (r1.1.noref (by simpa using nr)).keep k2⟩
/-! ### except clauses -/
def cV : D → V
  | .bl b => .bl b
  | .int i => .int i
  | .str z => .str z
  | _ => .non
def tP (a : Addr) (cls : Value) (d : Option Addr) (A : Addr) (f : Str) (j : Nat) : List (Option D) → TA
  | [] => tNil
  | some x :: r => tCons (tC (cV x)) (tP a cls d A f j r)
  | none :: r => tCons (tXf a cls d A f (tVar j)) (tP a cls d A f j r)
/-- what a clause's suite does -/
def tHd (A : Addr) (f : Str) (j i : Nat) (ps : List (Option D)) (a : Addr) (cls : Value) (d : Option Addr) : TS := tAsg (tLst (tP a cls d A f j ps)) (gName i)
theorem cPart_con {n fo : Option Str} {e : Expr} {x : D} (h : cPart n fo e = some (some x)) : (x = .non ∨ (∃ b, x = .bl b) ∨ (∃ i, x = .int i) ∨ ∃ z, x = .str z) ∧ ∀ Y : Cx, PE Y e (tC (cV x)) := by
  unfold cPart at h
  split at h
  · cases h; exact ⟨.inl rfl, fun Y => pe_non⟩
  · cases h; exact ⟨.inr (.inl ⟨_, rfl⟩), fun Y => pe_bl⟩
  · cases h; exact ⟨.inr (.inr (.inl ⟨_, rfl⟩)), fun Y => pe_int⟩
  · cases h; exact ⟨.inr (.inr (.inr ⟨_, rfl⟩)), fun Y => pe_str⟩
  · split at h <;> cases h
  · cases h
theorem cPart_fld {n fo : Option Str} {e : Expr} (h : cPart n fo e = some none) : ∃ m p f q, e = .Attribute (.Name m p) f q ∧ plainN m = true ∧ n = some m ∧ fo = some f := by
  unfold cPart at h
  split at h
  · cases h
  · cases h
  · cases h
  · cases h
  · rename_i m p f q
    split at h <;> try contradiction
    rename_i hc
    simp only [Bool.and_eq_true, decide_eq_true_eq] at hc
    exact ⟨m, p, f, q, rfl, hc.1.1, hc.1.2, hc.2⟩
  · cases h
theorem parts_pa {X : Cx} {a A : Addr} {oe : Obj} {cls : Value} {d : Option Addr} {pn : List (Addr × Obj)} {n : Option Str} {j : Nat} {f : Str} {fo : Option Str} (hz : Zc cls d oe) (hf : ∃ vs, oe.data = .fields vs)
    (hx : ∀ g, fo = some g → g = f ∧ XfC X.K A ∧ PySem.W.findIn X.K (.ref A) f = some none) (hn : ∀ m, n = some m → X.N[j]? = some m ∧ X.env.kindOf m = some .local) :
    ∀ {es : List Expr} {ps : List (Option D)}, es.all noStar = true → mapO (cPart n fo) es = some ps → PA (X.suite a ((a, oe) :: pn)) es (tP a cls d A f j ps)
  | [], ps, _, h => by cases h; exact pa_nil
  | e :: es, ps, hs, h => by
    obtain ⟨b, cs, e1, e2, rfl⟩ := mapO_cons h
    simp only [List.all_cons, Bool.and_eq_true] at hs
    have ih := parts_pa (d := d) (cls := cls) (oe := oe) (a := a) (pn := pn) hz hf hx hn hs.2 e2
    cases b with
    | some x => exact pa_cons ((cPart_con e1).2 _) ih (star_cons hs.1 _)
    | none =>
      obtain ⟨m, p, g, q, rfl, q1, q2, q3⟩ := cPart_fld e1
      obtain ⟨rfl, xf, hno⟩ := hx g q3
      obtain ⟨y1, y2⟩ := hn m q2
      obtain ⟨p1, p2, p3⟩ := plainN_ok q1
      exact pa_cons (pe_xf xf hno hz hf (pe_var y1 (.inl y2) p1 p2) (by rfl)) ih (star_cons hs.1 _)
/-- the parts' values -/
theorem parts_read {S : Sta} {ι hid : List Addr} {a A : Addr} {d : Option Addr} {j : Nat} {f : Str} {e : Exc} {H : Hp} {σc : L2.St} {n fo : Option Str}
    (hj : ∀ m g, n = some m → fo = some g → σc[j]? = some (some (.ref a)) ∧ S.cf e.cls = some f) (r : ExRep S ι hid H e (.ref A) d) : ∀ {es : List Expr} {ps : List (Option D)} {ds : List D}, mapO (cPart n fo) es = some ps → hparts e ps = some ds → ∃ vs, RepNs S ι hid H ds vs ∧ vs.length = es.length ∧ ∀ Q : List V → Hp → Prop, Q vs H → tP a (.ref A) d A f j ps σc H Q := by
  intro es
  induction es with
  | nil =>
    intro ps ds h1 h2
    cases h1
    cases h2
    exact ⟨[], .nil, rfl, fun Q q => q⟩
  | cons x es ih =>
    intro ps ds h1 h2
    obtain ⟨b, cs, e1, e2, rfl⟩ := mapO_cons h1
    have h2 : (match hpart e b, hparts e cs with
      | some d, some ds => some (d :: ds)
      | _, _ => none) = some ds := h2
    split at h2
    · rename_i y ys g1 g2
      cases h2
      obtain ⟨vs, i1, i2, i3⟩ := ih e2 g2
      cases b with
      | some z =>
        cases g1
        refine ⟨cV y :: vs, .cons ?_ i1, congrArg (· + 1) i2, fun Q q => i3 _ q⟩
        rcases (cPart_con e1).1 with rfl | ⟨_, rfl⟩ | ⟨_, rfl⟩ | ⟨_, rfl⟩
        · exact .non
        · exact .bl _
        · exact .int _
        · exact .str _
      | none =>
        have g1 : e.arg = some y := g1
        obtain ⟨C, a1, a2, a3⟩ := r
        rw [g1] at a3
        obtain ⟨f', dd, v, b1, b2, b3, b4⟩ := a3
        obtain ⟨m, p, g, q, _, _, q2, q3⟩ := cPart_fld e1
        obtain ⟨z1, z2⟩ := hj m g q2 q3
        rw [z2] at b1
        cases b1
        exact ⟨v :: vs, .cons b4 i1, congrArg (· + 1) i2, fun Q q => ⟨_, z1, rfl, rfl, dd, [(f, v)], v, b2, b3, by simp [List.lookup], i3 _ q⟩⟩
    · cases h2
/-- a clause and its reading -/
structure HdM (S : Sta) (h : Hd) (c : Hdl) : Prop where
  ex : ∃ (A : Addr) (n fo : Option Str) (es : List Expr) (ps : List (Option D)) (f : Str) (j : Nat), S.ca c.cls = some A ∧ h.c = .ref A ∧ h.j = c.nm ∧ c.x = .l ps ∧ mapO (cPart n fo) es = some ps ∧ es.length ≤ 1000 ∧ h.ts = tHd A f j c.to ps ∧
    ∀ m g, n = some m → fo = some g → c.nm = some j ∧ S.cf c.cls = some f
inductive HdMs (S : Sta) : List Hd → List Hdl → Prop
  | nil : HdMs S [] []
  | cons {h : Hd} {c : Hdl} {hs : List Hd} {cs : List Hdl} : HdM S h c → HdMs S hs cs → HdMs S (h :: hs) (c :: cs)
theorem hd_ok (g : GoodS C S P k X W sc) {e : ExceptHandler} {c : Hdl} (h : cHd C sc e = some c) : ∃ x np n b₀ pos' hd, e = .ExceptHandler (some (.Name x np)) n [b₀] pos' ∧ Names X x hd.c ∧ NameAt X n hd.j ∧ SuiteOk X [b₀] hd.ts ∧ HdM S hd c := by
  unfold cHd at h
  split at h <;> try contradiction
  rename_i x np n y py es pl ps pe
  split at h <;> try contradiction
  rename_i hc
  simp only [Bool.and_eq_true] at hc
  split at h <;> try contradiction
  rename_i cl fo oj i ef en ei
  split at h <;> try contradiction
  split at h <;> try contradiction
  rename_i hm hl
  rw [Bool.and_eq_true, decide_eq_true_eq] at hl
  obtain ⟨ps', e1, rfl⟩ := Option.map_eq_some_iff.mp h
  obtain ⟨q1, q2, q3⟩ := plainN_ok hc.1.1
  have gg := g.gl x
  rw [ef] at gg
  obtain ⟨A, a1, a2, a3, kp, sb, ty, a4⟩ := gg
  obtain ⟨l1, l2⟩ := g.st y hc.2
  -- the name's slot, the field
  obtain ⟨j, f, hn, hx, hjf⟩ : ∃ (j : Nat) (f : Str), (∀ m, n = some m → X.N[j]? = some m ∧ X.env.kindOf m = some .local) ∧ (∀ g, fo = some g → g = f ∧ XfC X.K A ∧ PySem.W.findIn X.K (.ref A) f = some none) ∧ (∀ m g, n = some m → fo = some g → oj = some j ∧ S.cf cl = some f) := by
    obtain ⟨j, hj1, hj2⟩ : ∃ j : Nat, (∀ m, n = some m → X.N[j]? = some m ∧ X.env.kindOf m = some .local) ∧ ∀ m, n = some m → oj = some j := by
      cases n with
      | none => exact ⟨0, (fun m z => nomatch z), (fun m z => nomatch z)⟩
      | some m =>
        unfold cNm at en
        simp only at en
        split at en <;> try contradiction
        rename_i hk
        obtain ⟨j, z1, rfl⟩ := Option.map_eq_some_iff.mp en
        refine ⟨j, fun m' z => ?_, fun m' z => rfl⟩
        cases z
        exact ⟨by rw [g.N]; exact slotOf_get z1, by show X.env.scope.names.lookup m = _; rw [g.scope]; exact of_decide_eq_true hk⟩
    cases fo with
    | none => exact ⟨j, y, hj1, (fun g z => nomatch z), (fun m g _ z => nomatch z)⟩
    | some f =>
      obtain ⟨b1, b2, b3, _⟩ := a4
      exact ⟨j, f, hj1, (fun f' z => ⟨(Option.some.inj z).symm, by rw [g.K]; exact b2, by rw [g.K]; exact b3⟩), (fun m f' z1 z2 => ⟨hj2 m z1, b1⟩)⟩
  refine ⟨x, np, n, _, pe, ⟨.ref A, oj, tHd A f j i ps'⟩, rfl, ⟨g.gb hc.1.2, q1, .inl a2⟩, ?_, ?_, ⟨A, n, fo, es, ps', f, j, a1, rfl, rfl, rfl, e1, hl.2, rfl, hjf⟩⟩
  · cases n with
    | none => cases en; exact True.intro
    | some m =>
      unfold cNm at en
      simp only at en
      split at en <;> try contradiction
      obtain ⟨j', z1, rfl⟩ := Option.map_eq_some_iff.mp en
      rename_i hk
      exact ⟨by rw [g.N]; exact slotOf_get z1, by show X.env.scope.names.lookup m = _; rw [g.scope]; exact of_decide_eq_true hk⟩
  · intro a oe cls d pn hz hf
    exact pss_one (ps_set (X := X.suite a ((a, oe) :: pn)) (pos' := py) (pos := ps) g.nd (i := i) (by show X.N[i]? = _; rw [g.N]; exact slotOf_get ei) (by show Loc X.env.scope y; rw [g.scope]; exact l1) (pe_lst (parts_pa hz hf hx hn hl.1 e1)) rfl (by show X.fn y = true ∨ X.env.scope.names.lookup y = some .local; rw [g.scope]; exact l2))
theorem hds_ok (g : GoodS C S P k X W sc) : ∀ {hs : List ExceptHandler} {cs : List Hdl}, mapO (cHd C sc) hs = some cs → ∃ l, HdsMix X hs l ∧ HdMs S l cs
  | [], cs, h => by cases h; exact ⟨[], .nil, .nil⟩
  | e :: hs, cs, h => by
    obtain ⟨c, cs', e1, e2, rfl⟩ := mapO_cons h
    obtain ⟨x, np, n, b₀, pos', hd, rfl, h1, h2, h3, h4⟩ := hd_ok g e1
    obtain ⟨l, l1, l2⟩ := hds_ok g e2
    exact ⟨hd :: l, .cons h1 h2 h3 l1, .cons h4 l2⟩
theorem set_name {l : L2.St} {i j : Nat} {x y : Option V} : ((l.set j x).set i y).set j none = (l.set i y).set j none := by
  by_cases e : i = j
  · subst e; simp
  · rw [List.set_comm _ _ (Ne.symm e), List.set_set]
theorem mix_ok (ht : ExT S) (hK : X.K = S.K) {D : Ends} {ι hid : List Addr} {H : Hp} {e : Exc} {h : AH} {σ : St'} : ∀ {l : List Hd} {cs : List Hdl}, HdMs S l cs → PostS S W D ι hid H (handle e cs σ h) →
    ∀ cls d σc H' ι', Later ι ι' H H' → HRep S ι' hid H' h → SRep S ι' hid H' σ σc → ExRep S ι' hid H' e cls d → wMix X.K W D l cls d σc H' := by
  intro l cs m
  induction m with
  | nil => exact fun p cls d σc H' ι' lt x sr r => p cls d σc H' ι' lt x sr r
  | @cons hd c hs cs m _ ih =>
    intro p cls d σc H' ι' lt x sr r
    obtain ⟨A, n, fo, es, ps, f, j, a1, a2, a3, a4, a5, a6, a7, a8⟩ := m.ex
    obtain ⟨B, b1, b2, b3⟩ := id r
    have ex := ht e.cls c.cls B A b1 a1
    have p : PostS S W D ι hid H (if c.cls = e.cls then (match hval e c.x with
      | some d => if nmOk σ c.nm then .nx (unname (σ.set c.to (some d)) c.nm) h else .no
      | none => .no) else handle e cs σ h) := p
    refine ⟨decide (c.cls = e.cls), by rw [hK, b2, a2]; exact ex, fun hy a ha => ?_, fun hn => ?_⟩
    · have hy := of_decide_eq_true hy
      rw [if_pos hy] at p
      split at p <;> try contradiction
      rename_i dv ev
      split at p <;> try contradiction
      rename_i hnm
      rw [a4] at ev
      obtain ⟨ds, ed, rfl⟩ := Option.map_eq_some_iff.mp (show (hparts e ps).map Rf.D.lst = some dv from ev)
      have eA : A = B := by
        rw [hy] at a1
        exact Option.some.inj (a1.symm.trans b1)
      subst eA
      subst b2
      -- the suite's reading at slots σ2
      have main : ∀ (σ2 : L2.St) (D2 : Ends), (∀ m g, n = some m → fo = some g → σ2[j]? = some (some (.ref a)) ∧ S.cf e.cls = some f) →
          (∀ v H2, Kp ι' H' H2 → HRep S ι' hid H2 h → Rep S ι' hid H2 (.lst ds) v → D2.nx (σ2.set c.to (some v)) H2) → hd.ts a (.ref A) d D2 σ2 H' := by
        intro σ2 D2 hj k
        rw [a7]
        obtain ⟨vs, v1, v2, v3⟩ := parts_read (j := j) (f := f) (es := es) (a := a) hj r a5 ed
        refine v3 _ ⟨by rw [v2, sizeLine_eq]; omega, fun q hq => ?_⟩
        obtain ⟨k2, x2, r2⟩ := mk_lst (fr := false) x hq v1
        exact k _ _ k2 x2 r2.1
      unfold Hd.go
      rw [a3]
      cases en : c.nm with
      | none =>
        rw [en] at p hnm
        refine main σc D (fun m g z1 z2 => ?_) fun v H2 k2 x2 r2 => p _ H2 ι' (lt.trans (.of k2)) x2 ((sr.keep k2).set r2)
        obtain ⟨y1, _⟩ := a8 m g z1 z2
        rw [en] at y1
        cases y1
      | some j2 =>
        rw [en] at p hnm
        have hlt : j2 < σc.length := by
          rw [← sr.1]
          exact of_decide_eq_true hnm
        refine main (σc.set j2 (some (.ref a))) (D.drop j2) (fun m g z1 z2 => ?_) fun v H2 k2 x2 r2 => ?_
        · obtain ⟨y1, y2⟩ := a8 m g z1 z2
          rw [en] at y1
          cases y1
          exact ⟨by rw [List.getElem?_set_self hlt], by rw [← hy]; exact y2⟩
        · show D.nx (((σc.set j2 (some (.ref a))).set c.to (some v)).set j2 none) H2
          rw [set_name]
          exact p _ H2 ι' (lt.trans (.of k2)) x2 (((sr.keep k2).set r2).none)
    · have hn := of_decide_eq_false hn
      rw [if_neg hn] at p
      exact ih p cls d σc H' ι' lt x sr r
theorem GoodS.tr (g : GoodS C S P k X W sc) {W' : WX} {pn : List (Addr × Obj)} {xe : Value → Shared → Prop} (tk : Takes (X.tr pn xe) W') (pa : PassesOwn (model X.prog X.w) X.A X.env xe) : GoodS C S P k (X.tr pn xe) W' sc :=
  { prog := g.prog, w := g.w, K := g.K, N := g.N, nd := g.nd, scope := g.scope, calm := g.calm, room := g.room, tk := tk, gl := g.gl, fns := fun f a e => ⟨(g.fns f a e).keep, (g.fns f a e).ok⟩, fr := g.fr, kind := g.kind, pass := pa, tab := g.tab, st := g.st, stk := g.stk, frm := g.frm }
theorem try_s (hS : SndS C S P k sc recS) (g : GoodS C S P k X W sc) {b : List Stmt} {hs : List ExceptHandler} {pos : Pos} {s' : Rf.S} (h : cTry C recS sc b hs = some s') : PS X (.Try b hs [] [] pos) (tS S W (exec P.G (Rf.call P k) P.W s')) := by
  unfold cTry at h
  split at h <;> try contradiction
  rename_i he
  split at h <;> try contradiction
  rename_i b' cs e1 e2
  cases h
  obtain ⟨l, l1, l2⟩ := hds_ok g e2
  cases hs with
  | nil => exact absurd rfl he
  | cons h0 hs =>
    refine PS.imp' (ps_try_mix g.stk g.frm g.nd g.tk (fun W' pn xe tk pa => execs_ok hS (g.tr tk pa) e1) l1) fun D σc H ⟨σ, h, ι, hid, sr, hr, p⟩ => ⟨σ, h, ι, hid, sr, hr, ?_⟩
    have p : PostS S W D ι hid H (match execs P.G (Rf.call P k) P.W b' σ h with
      | .ex e σ1 h1 => handle e cs σ1 h1
      | o => o) := p
    cases ee : execs P.G (Rf.call P k) P.W b' σ h with
    | ex e σ1 h1 => rw [ee] at p; exact fun cls d σc' H' ι' lt x s2 r => mix_ok g.tab g.K l2 p cls d σc' H' ι' lt x s2 r
    | nx _ _ => rw [ee] at p; exact p
    | rt _ _ _ => rw [ee] at p; exact p
    | bk _ _ => rw [ee] at p; exact p
    | ct _ _ => rw [ee] at p; exact p
    | no => rw [ee] at p; exact p
end
end Rf
/-! Rf20 -/
set_option maxHeartbeats 1000000
/-! Rf20: from the model's statements to the small syntax, the whole; defs. -/
namespace Rf
open PySem PySem.Spec PyProof.Rows L2
def cSub1 : List Expr → Option (Expr × Expr)
  | [.Subscript o i _] => some (o, i)
  | _ => none
section
variable (C : Cc) (recE : Scope → Expr → Option E) (recS : Stmt → Option Rf.S) (sc : Scope)
def cComp1 : Expr → Option E
  | .ListComp elt [⟨tg, iter, ifs, 0⟩] scope _ => cComp C recE sc elt tg iter ifs scope
  | _ => none
def setS (i : Nat) (e : E) : Rf.S := if C.mu i then .thaw i e else .asg (.nm i) e
def cAsg (tg v : Expr) : Option Rf.S := match tg, v with
  | .Name x px, .ListComp elt gs s pv => (match slotOf C.N x, recE sc (.ListComp elt gs s pv) with
    | some i, some e => if stor sc x then (if swB sc x px (.ListComp elt gs s pv) then (match cComp1 C recE sc (.ListComp elt gs s pv) with
        | some e' => some (setS C i e')
        | none => none) else some (setS C i e)) else none
    | _, _ => none)
  | .Name x px, v => if notComp v && stor sc x then (match slotOf C.N x, recE sc v with
    | some i, some e => some (setS C i e)
    | _, _ => none) else none
  | .Subscript o i _, v => if plainIx i then (match recE sc o, recE sc i, recE sc v with
    | some o', some i', some v' => some (.setix o' i' v')
    | _, _, _ => none) else none
  | .Tuple [.Name x px, .Name y py] kt pt, .Tuple [a, b] k2 pt2 =>
    if par2 sc x px y py a b then (match slotOf C.N x, slotOf C.N y, mapO (recE sc) [a, b] with
      | some i, some j, some es => if i = j then none else some (.par [i, j] [C.mu i, C.mu j] es)
      | _, _, _ => none) else if noSwap sc [.Name x px, .Name y py] [a, b] then (match cT C sc 8 (.Tuple [.Name x px, .Name y py] kt pt), recE sc (.Tuple [a, b] k2 pt2) with
      | some t, some e => some (.asg t e)
      | _, _ => none) else none
  | .Tuple [.Name x px, .Name y py, .Name z pz] kt pt, .Tuple [a, b, c] k2 pt2 =>
    if par3 sc x px y py z pz a b c then (match slotOf C.N x, slotOf C.N y, slotOf C.N z, mapO (recE sc) [a, b, c] with
      | some i, some j, some l, some es => if i = j ∨ i = l ∨ j = l then none else some (.par [i, j, l] [C.mu i, C.mu j, C.mu l] es)
      | _, _, _, _ => none) else if noSwap sc [.Name x px, .Name y py, .Name z pz] [a, b, c] then (match cT C sc 8 (.Tuple [.Name x px, .Name y py, .Name z pz] kt pt), recE sc (.Tuple [a, b, c] k2 pt2) with
      | some t, some e => some (.asg t e)
      | _, _ => none) else none
  | .Tuple ts kt pt, .Tuple vs k2 pt2 => if noSwap sc ts vs then (match cT C sc 8 (.Tuple ts kt pt), recE sc (.Tuple vs k2 pt2) with
      | some t, some e => some (.asg t e)
      | _, _ => none) else none
  | .Tuple ts kt pt, v => if isTupE v then none else (match cT C sc 8 (.Tuple ts kt pt), recE sc v with
      | some t, some e => some (.asg t e)
      | _, _ => none)
  | _, _ => none
def cS1 (s : Stmt) : Option Rf.S := match s with
  | .Expr (.Constant (.str _) _ _) _ => some .pass
  | .Expr e _ => if notComp e then (recE sc e).map .expr else none
  | .Assign [tg] v _ => cAsg C recE sc tg v
  | .If c a b _ => (match recE sc c, mapO recS a, mapO recS b with
    | some c', some a', some b' => some (.ite c' a' b')
    | _, _, _ => none)
  | .For tg iter a [] _ => if notSet iter then (match cSrc C recE sc tg iter, cT C sc 8 tg, mapO recS a with
    | some (s, args), some t, some a' => some (.for_ t s args a')
    | _, _, _ => none) else none
  | .While c a [] _ => (match recE sc c, mapO recS a with
    | some c', some a' => some (.while_ c' a')
    | _, _ => none)
  | .Return (some e) _ => (recE sc e).map .ret
  | .Return none _ => some .retN
  | .Pass _ => some .pass
  | .Raise (some (.Call (.Name x _) args [] _)) none _ => cRaise C recE sc x args
  | .Try b hs [] [] _ => cTry C recS sc b hs
  | .Break _ => some .brk
  | .Continue _ => some .cont
  | _ => none
end
/-- what is not covered is stuck -/
def cS (C : Cc) (recE : Scope → Expr → Option E) (sc : Scope) : Nat → Stmt → Option Rf.S
  | 0 => fun _ => some .stuck
  | n + 1 => fun s => some ((cS1 C recE (cS C recE sc n) sc s).getD .stuck)
section
variable {C : Cc} {S : Sta} {P : Prg} {k : Nat} {X : Cx} {W : WX} {sc : Scope} {recE : Scope → Expr → Option E} {recS : Stmt → Option Rf.S}
theorem stuck_s {s : Stmt} : PS X s (tS S W (exec P.G (Rf.call P k) P.W .stuck)) := PS.imp' ps_never fun D σc H ⟨σ, h, ι, hid, sr, hr, p⟩ => p
theorem setS_s (hE : Snd C S P k recE) (g : GoodS C S P k X W sc) {x : Str} {px pos : Pos} {v : Expr} {i : Nat} {e : E} (hx : stor sc x = true) (ei : slotOf C.N x = some i) (ee : recE sc v = some e) (hs : swapsWith v (some (.Name x px)) pos.line X.env = pure false) :
    PS X (.Assign [.Name x px] v pos) (tS S W (exec P.G (Rf.call P k) P.W (setS C i e))) := set_s g hx ei hs (hE _ _ _ ee X W g.toGood)
theorem tup_s (hE : Snd C S P k recE) (g : GoodS C S P k X W sc) {ts : List Expr} {kt : Nat} {pt pos : Pos} {v : Expr} {t : T} {e : E} (hw : swappedStores [.Tuple ts kt pt] v X.env = pure none) (et : cT C sc 8 (.Tuple ts kt pt) = some t) (ee : recE sc v = some e) :
    PS X (.Assign [.Tuple ts kt pt] v pos) (tS S W (exec P.G (Rf.call P k) P.W (.asg t e))) := by
  have hs : swapsWithSole [.Tuple ts kt pt] v pos.line X.env = pure false := by
    show swapsWith v (some (.Tuple ts kt pt)) pos.line X.env = pure false
    cases v <;> rfl
  exact PS.imp' (ps_asg (hE _ _ _ ee X W g.toGood).pe (g.tg et) hs hw) fun D σc H q => asg_read (fun _ _ _ z => z) (fun _ _ _ _ z => z) q
theorem evp_len {G : Glb} {cl : CallF} : ∀ {fs : List Bool} {es : List E} {σ : St'} {h h' : AH} {ds : List D}, evp G cl fs es σ h = .ok ds h' → ds.length = es.length
  | [], [], σ, h, h', ds, e => by cases e; rfl
  | [], _ :: _, σ, h, h', ds, e => by cases e
  | _ :: _, [], σ, h, h', ds, e => by cases e
  | f :: fs, x :: es, σ, h, h', ds, e => by
    have e : ((ev G cl x σ h).bind fun d h1 => if f then (match x.fresh G.fr, d with
      | true, .lst xs => (evp G cl fs es σ (h1 ++ [.lst xs])).bind fun ds h2 => .ok (.ref h1.length :: ds) h2
      | _, _ => .no) else (evp G cl fs es σ h1).bind fun ds h2 => .ok (d :: ds) h2) = .ok ds h' := e
    have fin : ∀ {g : AH} {c : D}, ((evp G cl fs es σ g).bind fun ds h2 => Res.ok (c :: ds) h2) = .ok ds h' → ds.length = (x :: es).length := fun {g c} z => by
      cases ee : evp G cl fs es σ g with
      | no => rw [ee] at z; cases z
      | ex _ _ => rw [ee] at z; cases z
      | ok ds' h2 =>
        rw [ee] at z
        cases z
        exact congrArg (· + 1) (evp_len ee)
    cases ex : ev G cl x σ h with
    | no => rw [ex] at e; cases e
    | ex _ _ => rw [ex] at e; cases e
    | ok d h1 =>
      rw [ex] at e
      simp only [Res.bind_ok] at e
      cases f with
      | false => exact fin e
      | true =>
        simp only [if_true] at e
        split at e
        · exact fin e
        · cases e
theorem par_read {is : List Nat} {fs : List Bool} {es : List E} {D : Ends} {σc : L2.St} {H : Hp} (q : tS S W (exec P.G (Rf.call P k) P.W (.par is fs es)) D σc H) :
    tL S W (evp P.G (Rf.call P k) fs es) σc H (fun vs H1 => ∃ σ h ι hid ds, SRep S ι hid H1 σ σc ∧ HRep S ι hid H1 h ∧ Reps S ι hid H1 ds vs ∧ ds.length = es.length ∧ ∀ σc', SRep S ι hid H1 (sets is ds σ) σc' → D.nx σc' H1) := by
  obtain ⟨σ, h, ι, hid, sr, hr, p⟩ := q
  refine ⟨σ, h, ι, hid, sr, hr, ?_⟩
  have p : PostS S W D ι hid H ((evp P.G (Rf.call P k) fs es σ h).out σ fun ds h1 => .nx (sets is ds σ) h1) := p
  cases ee : evp P.G (Rf.call P k) fs es σ h with
  | no => rw [ee] at p; exact p
  | ex e h1 => rw [ee] at p; exact fun c dx H1 ι1 l x1 r1 => p c dx σc H1 ι1 l x1 (sr.later l hr) r1
  | ok ds h1 =>
    rw [ee] at p
    exact fun vs H1 ι1 l x1 rs => ⟨σ, h1, ι1, hid, ds, sr.later l hr, x1, rs, evp_len ee, fun σc' s' => p σc' H1 ι1 l x1 s'⟩
theorem tL_imp {m : St' → AH → Res (List D)} {σc : L2.St} {H : Hp} {Q Q' : List V → Hp → Prop} (q : tL S W m σc H Q) (i : ∀ vs H', Q vs H' → Q' vs H') : tL S W m σc H Q' := by
  obtain ⟨σ, h, ι, hid, sr, hr, p⟩ := q
  refine ⟨σ, h, ι, hid, sr, hr, ?_⟩
  cases em : m σ h with
  | no => rw [em] at p; exact p
  | ex e h1 => rw [em] at p; exact p
  | ok ds h1 => rw [em] at p; exact fun vs H1 ι1 l x1 rs => i _ _ (p vs H1 ι1 l x1 rs)
theorem par2_s (hE : Snd C S P k recE) (g : GoodS C S P k X W sc) {x y : Str} {px py pt pt2 pos : Pos} {kt k2 : Nat} {a b : Expr} {i j : Nat} {es : List E} (hp : par2 sc x px y py a b = true) (ei : slotOf C.N x = some i) (ej : slotOf C.N y = some j) (em : mapO (recE sc) [a, b] = some es) (hij : i ≠ j) {fs : List Bool} :
    PS X (.Assign [.Tuple [.Name x px, .Name y py] kt pt] (.Tuple [a, b] k2 pt2) pos) (tS S W (exec P.G (Rf.call P k) P.W (.par [i, j] fs es))) := by
  have hp' := hp
  unfold par2 at hp'
  simp only [Bool.and_eq_true] at hp'
  obtain ⟨⟨⟨⟨⟨⟨h1, h2⟩, _⟩, _⟩, h5⟩, _⟩, _⟩ := hp'
  refine PS.imp' (ps_par g.calm g.nd (i := i) (j := j) (by rw [g.N]; exact slotOf_get ei) (by rw [g.N]; exact slotOf_get ej) hij (by rw [g.scope]; exact eq_of_beq h1) (by rw [g.scope]; exact eq_of_beq h2) (evp_ok hE g.toGood fs (by simp [h5]) em) (par2_ok g hp)) fun D σc H q => tL_imp (par_read q) fun vs H1 ⟨σ, h, ι, hid, ds, sr, hr, rs, hl, k⟩ => ?_
  obtain ⟨d, e, rfl⟩ := len_two (hl.trans (mapO_len em))
  obtain ⟨v, w, rfl, r1, r2⟩ := reps2 rs
  exact ⟨v, w, rfl, k _ ((sr.set r1).set r2)⟩
theorem par3_s (hE : Snd C S P k recE) (g : GoodS C S P k X W sc) {x y z : Str} {px py pz pt pt2 pos : Pos} {kt k2 : Nat} {a b c : Expr} {i j l : Nat} {es : List E} (hp : par3 sc x px y py z pz a b c = true) (ei : slotOf C.N x = some i) (ej : slotOf C.N y = some j) (el : slotOf C.N z = some l) (em : mapO (recE sc) [a, b, c] = some es) (hij : i ≠ j) (hil : i ≠ l) (hjl : j ≠ l) {fs : List Bool} :
    PS X (.Assign [.Tuple [.Name x px, .Name y py, .Name z pz] kt pt] (.Tuple [a, b, c] k2 pt2) pos) (tS S W (exec P.G (Rf.call P k) P.W (.par [i, j, l] fs es))) := by
  have hp' := hp
  unfold par3 at hp'
  simp only [Bool.and_eq_true] at hp'
  obtain ⟨⟨⟨⟨⟨⟨⟨⟨h1, h2⟩, h3⟩, _⟩, _⟩, _⟩, h5⟩, _⟩, _⟩ := hp'
  refine PS.imp' (ps_par3 g.calm g.nd (i := i) (j := j) (l := l) (by rw [g.N]; exact slotOf_get ei) (by rw [g.N]; exact slotOf_get ej) (by rw [g.N]; exact slotOf_get el) hij hil hjl (by rw [g.scope]; exact eq_of_beq h1) (by rw [g.scope]; exact eq_of_beq h2) (by rw [g.scope]; exact eq_of_beq h3) (evp_ok hE g.toGood fs (by simp [h5]) em) (par3_ok g hp)) fun D σc H q => tL_imp (par_read q) fun vs H1 ⟨σ, h, ι, hid, ds, sr, hr, rs, hl, k⟩ => ?_
  have hl := hl.trans (mapO_len em)
  cases rs with
  | nil => cases hl
  | cons r1 rs =>
    cases rs with
    | nil => cases hl
    | cons r2 rs =>
      cases rs with
      | nil => cases hl
      | cons r3 rs =>
        cases rs with
        | cons _ _ => simp at hl
        | nil => exact ⟨_, _, _, rfl, k _ (((sr.set r1).set r2).set r3)⟩
theorem asg_s (hE : Snd C S P k recE) (g : GoodS C S P k X W sc) {tg v : Expr} {pos : Pos} {s' : Rf.S} (h : cAsg C recE sc tg v = some s') : PS X (.Assign [tg] v pos) (tS S W (exec P.G (Rf.call P k) P.W s')) := by
  unfold cAsg at h
  split at h
  · split at h <;> try contradiction
    rename_i i e e1 e2
    split at h <;> try contradiction
    rename_i hx
    split at h
    · rename_i hw
      split at h <;> try contradiction
      rename_i e' e3
      cases h
      unfold cComp1 at e3
      split at e3 <;> try contradiction
      rename_i elt tg iter ifs scope pv heq
      cases heq
      exact setc_s hE g e1 hw e3
    · rename_i hw
      cases h
      exact setS_s hE g hx e1 e2 (by rw [swB_ok g]; simp [hw])
  · split at h <;> try contradiction
    rename_i hx
    rw [Bool.and_eq_true] at hx
    split at h <;> try contradiction
    rename_i i e e1 e2
    cases h
    exact setS_s hE g hx.2 e1 e2 (swaps_no hx.1 _ _ _)
  · split at h <;> try contradiction
    rename_i hp
    split at h <;> try contradiction
    rename_i o' i' v' e1 e2 e3
    cases h
    exact setix_s hp g (hE _ _ _ e1 X W g.toGood) (hE _ _ _ e2 X W g.toGood) (hE _ _ _ e3 X W g.toGood)
  · split at h
    · rename_i hp
      split at h <;> try contradiction
      rename_i i j es e1 e2 e3
      split at h <;> try contradiction
      rename_i hij
      cases h
      exact par2_s hE g hp e1 e2 e3 hij
    · split at h <;> try contradiction
      rename_i hn
      split at h <;> try contradiction
      rename_i t e e1 e2
      cases h
      exact tup_s hE g (noSwap_ok g hn) e1 e2
  · split at h
    · rename_i hp
      split at h <;> try contradiction
      rename_i i j l es e1 e2 e3 e4
      split at h <;> try contradiction
      rename_i hij
      cases h
      rw [not_or, not_or] at hij
      exact par3_s hE g hp e1 e2 e3 e4 hij.1 hij.2.1 hij.2.2
    · split at h <;> try contradiction
      rename_i hn
      split at h <;> try contradiction
      rename_i t e e1 e2
      cases h
      exact tup_s hE g (noSwap_ok g hn) e1 e2
  · split at h <;> try contradiction
    rename_i hn
    split at h <;> try contradiction
    rename_i t e e1 e2
    cases h
    exact tup_s hE g (noSwap_ok g hn) e1 e2
  · split at h <;> try contradiction
    rename_i hn
    split at h <;> try contradiction
    rename_i t e e1 e2
    cases h
    refine tup_s hE g ?_ e1 e2
    cases v <;> first | rfl | exact absurd rfl hn
  · cases h
theorem step_s (hE : Snd C S P k recE) (hS : SndS C S P k sc recS) (g : GoodS C S P k X W sc) {s : Stmt} {s' : Rf.S} (h : cS1 C recE recS sc s = some s') : PS X s (tS S W (exec P.G (Rf.call P k) P.W s')) := by
  have gg := g.toGood
  unfold cS1 at h
  split at h
  · cases h; exact doc_s
  · split at h <;> try contradiction
    rename_i hn
    obtain ⟨e', e1, e2⟩ := Option.map_eq_some_iff.mp h
    subst e2
    exact expr_s hn (hE _ _ _ e1 X W gg)
  · exact asg_s hE g h
  · split at h <;> try contradiction
    rename_i c' a' b' e1 e2 e3
    cases h
    exact if_s (hE _ _ _ e1 X W gg) (execs_ok hS g e2) (execs_ok hS g e3)
  · split at h <;> try contradiction
    rename_i hn
    split at h <;> try contradiction
    rename_i s args t a' e1 e2 e3
    cases h
    exact for_s g hn (src_ok hE gg e1) (g.tg e2) (execs_ok hS g e3)
  · split at h <;> try contradiction
    rename_i c' a' e1 e2
    cases h
    exact while_s g (hE _ _ _ e1 X W gg) (execs_ok hS g e2)
  · obtain ⟨e', e1, e2⟩ := Option.map_eq_some_iff.mp h
    subst e2
    exact ret_s (hE _ _ _ e1 X W gg)
  · cases h; exact retN_s
  · cases h; exact pass_s
  · exact raise_s hE g h
  · exact try_s hS g h
  · cases h; exact brk_s
  · cases h; exact cont_s
  · cases h
theorem sndS_all (hE : Snd C S P k recE) : ∀ n, SndS C S P k sc (cS C recE sc n)
  | 0 => fun s s' h X W g => by cases h; exact stuck_s
  | n + 1 => fun s s' h X W g => by
    have h : some ((cS1 C recE (cS C recE sc n) sc s).getD .stuck) = some s' := h
    cases e : cS1 C recE (cS C recE sc n) sc s with
    | none => rw [e] at h; cases h; exact stuck_s
    | some s2 => rw [e] at h; cases h; exact step_s hE (sndS_all hE n) g e
end
end Rf
/-! Rf21 -/
set_option maxHeartbeats 1000000
/-! Rf21: all defs of a text keep what the evaluator says. -/
namespace Rf
open PySem PySem.Spec PyProof.Rows L2
/-- a def's text, with its names in order (the parameters first), the slots that it changes as lists, whether it hands back a list of its own -/
structure Dn where
  name : Str
  qual : Str
  params : Arguments
  body : List Stmt
  scope : Scope
  N : List Str
  ps : List Str
  mu : List Nat
  fresh : Bool
def Dn.cc (gl : Str → Gk) (d : Dn) : Cc := ⟨gl, d.N, fun i => d.mu.contains i⟩
def Dn.code (gl : Str → Gk) (d : Dn) : Option (List Rf.S) := mapO (cS (d.cc gl) (cE (d.cc gl) 60) d.scope 40) d.body
def Dn.df (gl : Str → Gk) (d : Dn) : Def := ⟨d.ps.length, d.N.length, (d.code gl).getD [.stuck], d.fresh⟩
structure Txt (S : Sta) (P : Prg) (mg : Str → Option Value) (base : Heap) (gl : Str → Gk) (ds : List Dn) : Prop where
  defs : ∀ f, P.defs f = (ds[f]?).map (Dn.df gl)
  at_ : ∀ f d, ds[f]? = some d → ∃ a fd, S.fa f = some a ∧ FunD S.K d.name d.qual d.params d.body d.scope [] [] a fd ∧ Binds S.K fd d.ps [] ∧ FnScope d.N d.ps d.scope
  of : ∀ f a, S.fa f = some a → ∃ d, ds[f]? = some d
  gl : ∀ x, GlOk S P mg x (gl x)
  fr : ∀ f, P.G.fr f = frOf P f
  set : SetPE S
  tab : ExT S
section
variable {S : Sta} {P : Prg} {mg : Str → Option Value} {base : Heap} {gl : Str → Gk} {ds : List Dn}
theorem srep_start {ι hid : List Addr} {H : Hp} {N : List Str} {n m : Nat} : ∀ {ds : List D} {vs : List V}, Reps S ι hid H ds vs → ds.length = n → n ≤ N.length → m = N.length → SRep S ι hid H (ds.map some ++ List.replicate (m - n) none) (L2.start N vs) := by
  intro ds vs r hn hl hm
  have hv := r.length
  subst hm
  refine ⟨?_, fun i d e => ?_⟩
  · unfold L2.start
    rw [List.length_append, List.length_append, List.length_map, List.length_map, List.length_replicate, List.length_replicate]
    omega
  · by_cases hi : i < ds.length
    · rw [List.getElem?_append_left (by rw [List.length_map]; exact hi), List.getElem?_map] at e
      obtain ⟨d', e1, e2⟩ := Option.map_eq_some_iff.mp e
      cases e2
      have go : ∀ {ds : List D} {vs : List V} {i : Nat}, Reps S ι hid H ds vs → ds[i]? = some d → ∃ v, vs[i]? = some v ∧ Rep S ι hid H d v := by
        intro ds
        induction ds with
        | nil => intro vs i _ e; simp at e
        | cons x xs ih =>
          intro vs i r e
          cases r with
          | cons r1 r2 =>
            cases i with
            | zero => simp at e; subst e; exact ⟨_, rfl, r1⟩
            | succ i =>
              obtain ⟨v, z1, z2⟩ := ih r2 (i := i) (by simpa using e)
              exact ⟨v, by simpa using z1, z2⟩
      obtain ⟨v, z1, z2⟩ := go r e1
      refine ⟨v, ?_, z2⟩
      unfold L2.start
      rw [List.getElem?_append_left (by rw [List.length_map, ← hv]; exact hi), List.getElem?_map, z1]
      rfl
    · rw [List.getElem?_append_right (by rw [List.length_map]; omega)] at e
      rw [List.getElem?_replicate] at e
      split at e <;> cases e
theorem fns_ok (T : Txt S P mg base gl ds) : ∀ (k : Nat) (f : Nat) (d : Dn) (a : Addr) (fd : FuncData), ds[f]? = some d → S.fa f = some a → FunD S.K d.name d.qual d.params d.body d.scope [] [] a fd → FnOk S.P S.w S.K mg base (L2.CX S.P S.w) k a fd d.ps (spD S P k f) := by
  intro k
  induction k with
  | zero =>
    intro f d a fd hd ha F
    have no : ∀ {vs H Q E}, spD S P 0 f vs H Q E → False := fun ⟨ι, hid, h, ds, hr, rs, p⟩ => p
    exact ⟨fun vs H Q E h => (no h).elim, fun A outer s H args us vs Q E _ _ _ _ h => (no h).elim⟩
  | succ k ih =>
    intro f d a fd hd ha F
    obtain ⟨a', fd', ea, F', hb, S0⟩ := T.at_ f d hd
    have hdf : P.defs f = some (d.df gl) := by rw [T.defs, hd]; rfl
    have hpl : d.ps.length ≤ d.N.length := by have := congrArg List.length S0.pre; rw [List.length_take] at this; omega
    have un : ∀ {ds' : List D} {h : AH}, Rf.call P (k + 1) f ds' h = if ds'.length = d.ps.length then close h.length d.fresh (execs P.G (Rf.call P k) P.W ((d.code gl).getD [.stuck]) (ds'.map some ++ List.replicate (d.N.length - d.ps.length) none) h) else .no := fun {ds' h} => by
      show (match P.defs f with
        | some F => if ds'.length = F.n then close h.length F.fresh (execs P.G (Rf.call P k) P.W F.body (ds'.map some ++ List.replicate (F.m - F.n) none) h) else .no
        | none => .no) = _
      rw [hdf]
      rfl
    refine F.ok S0 (fun vs H Q E ⟨ι, hid, h, ds', hr, rs, p⟩ => ?_) fun cdv A outer s H vs Q E hr0 ⟨ι, hid, h, ds', hr, rs, p⟩ => ?_
    · rw [un] at p
      split at p
      · rename_i hl
        rw [← rs.length]; exact hl
      · exact False.elim p
    · rw [un] at p
      split at p
      · rename_i hl
        have g : GoodS (d.cc gl) S P k (cxOf (L2.CX S.P S.w) S.P S.w S.K mg base d.N d.qual d.scope a cdv A outer s H E) (fun cls dx _ H' => E cls dx H') d.scope :=
          { prog := rfl, w := rfl, K := rfl, N := rfl, nd := S0.nd, scope := rfl, calm := rfl, room := hr0, tk := takes_of rfl rfl rfl rfl, gl := T.gl, fr := T.fr, kind := S0.kind, pass := passes_of rfl, tab := T.tab,
            fns := fun f' a' e' => by
              obtain ⟨d', hd'⟩ := T.of f' a' e'
              obtain ⟨a2, fd2, ea2, F2, hb2, S2⟩ := T.at_ f' d' hd'
              rw [e'] at ea2
              cases ea2
              exact ⟨F2.kp, fd2, d'.ps, ih f' d' a' fd2 hd' e' F2, hb2⟩
            st := fun x hx => by
              unfold stor at hx
              split at hx
              · rename_i e; exact ⟨.inl e, .inl rfl⟩
              · rename_i e; exact ⟨.inr e, .inl rfl⟩
              · cases hx
            stk := rfl, frm := rfl }
        have sr := srep_start (N := d.N) rs hl hpl rfl
        cases ec : d.code gl with
        | none => rw [ec] at p; exact ⟨tNever, pss_never, (by
            have q := close_ok (W := fun c dx _ H' => E c dx H') hr (fr := d.fresh) (Q := Q) (σc := []) (by
              have e : frOf P f = d.fresh := by unfold frOf; rw [hdf]; rfl
              rw [e] at p; exact p)
            exact q)⟩
        | some ss =>
          rw [ec] at p
          refine ⟨_, execs_ok (sndS_all (snd_all T.set 60) 40) g (show mapO (cS (d.cc gl) (cE (d.cc gl) 60) d.scope 40) d.body = some ss from ec), _, h, ι, hid, sr, hr, ?_⟩
          have e : frOf P f = d.fresh := by unfold frOf; rw [hdf]; rfl
          rw [e] at p
          exact close_ok (W := fun c dx _ H' => E c dx H') hr p
      · exact False.elim p
end
end Rf
/-! Rf23 -/
set_option maxHeartbeats 1000000
/-! Rf23: sorted(set(..)), fewer than 64 tuples of ints. -/
namespace Rf
open PySem PySem.Spec PyProof.Rows L2
abbrev ddI (ns : List Int) : D := .tup (ns.map D.int)
theorem allInt_ints : ∀ {ds : List D}, allInt ds = true → ∃ ns : List Int, ds = ns.map D.int
  | [], _ => ⟨[], rfl⟩
  | .int i :: ds, h => let ⟨ns, e⟩ := allInt_ints (ds := ds) h; ⟨i :: ns, by rw [e]; rfl⟩
theorem ints_of_rep {S : Sta} {ι hid : List Addr} {H : Hp} : ∀ {ns : List Int} {vs : List V}, RepNs S ι hid H (ns.map D.int) vs → vs = ns.map V.int
  | [], _, h => by cases h; rfl
  | n :: ns, _, h => by
    cases h with
    | cons a b => cases a; rw [ints_of_rep b]; rfl
theorem ints_rows {S : Sta} {ι hid : List Addr} {H : Hp} : ∀ {xs : List D} {vs : List V}, xs.all intsT = true → RepNs S ι hid H xs vs →
    ∃ ks : List (Addr × List Int), vs = ks.map (fun p => V.ref p.1) ∧ xs = ks.map (fun p => ddI p.2) ∧ ∀ p ∈ ks, p.2 ≠ [] ∧ SqT S.K H p.1 (p.2.map V.int) ∧ RepN S ι hid H (ddI p.2) (.ref p.1)
  | [], _, _, h => by cases h; exact ⟨[], rfl, rfl, fun p hp => by cases hp⟩
  | x :: xs, _, ha, h => by
    cases h with
    | cons a b =>
      simp only [List.all_cons, Bool.and_eq_true] at ha
      obtain ⟨ks, e1, e2, e3⟩ := ints_rows ha.2 b
      cases x with
      | tup ds =>
        have ha1 : (!ds.isEmpty && allInt ds) = true := ha.1
        rw [Bool.and_eq_true] at ha1
        obtain ⟨ns, rfl⟩ := allInt_ints ha1.2
        have a0 := a
        cases a with
        | @tup _ ws ad h1 h2 =>
          obtain rfl := ints_of_rep h2
          refine ⟨(ad, ns) :: ks, by rw [e1]; rfl, by rw [e2]; rfl, fun p hp => ?_⟩
          rcases List.mem_cons.mp hp with rfl | hp
          · exact ⟨fun e => by have e : ns = [] := e; subst e; exact absurd ha1.1 (by decide), h1.sq, a0⟩
          · exact e3 p hp
      | _ => exact absurd (show false = true from ha.1) Bool.false_ne_true
theorem toPy_ints (ns : List Int) : toPys (ns.map D.int) = ns.map PyData.int := by
  induction ns with
  | nil => rfl
  | cons n ns ih => show toPy (.int n) :: toPys (ns.map D.int) = _; rw [ih]; rfl
theorem toPy_dd (ns : List Int) : toPy (ddI ns) = .tuple (ns.map PyData.int) := by
  show PyData.tuple (toPys (ns.map D.int)) = _
  rw [toPy_ints]
theorem ints_depth (ns : List Int) : (PyData.tuple (ns.map PyData.int)).depth ≤ 7 := by
  have e : PyData.depthAll (ns.map PyData.int) = 0 := by
    induction ns with
    | nil => rfl
    | cons n ns ih => show max (PyData.int n).depth (PyData.depthAll (ns.map PyData.int)) = 0; rw [ih]; rfl
  show PyData.depthAll (ns.map PyData.int) + 1 ≤ 7
  rw [e]
  decide
theorem each_refs : ∀ {out : List Value} {L : List (Addr × List Int)}, PySem.W.EachIs (fun v (q : Addr × List Int) => v = Value.ref q.1) out L → out = L.map fun q => Value.ref q.1
  | _, _, .nil => rfl
  | _, _, .cons a b => by rw [a, each_refs b]; rfl
theorem ddI_inj {a b : List Int} (h : ddI a = ddI b) : a = b := by
  have h : D.tup (a.map D.int) = D.tup (b.map D.int) := h
  injection h with h
  exact List.map_inj_right (fun x y e => by injection e) |>.mp h
section
variable {P : Program} {w : World} {A : Around} {E : Value → Shared → Prop} {s : Shared} {a : Addr} {L : List (Addr × List Int)} {es : Array (Int × Value)} {ep : Nat} {t : SetTable}
theorem sorted_setD {Q : Value → Shared → Prop} (R : SetTR P w s.heap a L es ep t) (hh : A.handled = none) (hu : A.units + 10 < cLine) (sr : Srt (L.map fun q => ddI q.2)) (ne : ∀ q ∈ L, q.2 ≠ [])
    (hQ : ∀ s' p (out : Array Value) (c : Nat) (L' : List (Addr × List Int)), (∀ b o, s.heap.get? b = some o → s'.heap.get? b = some o) → s'.gens = s.gens → s'.os = s.os → s.heap.objs.size ≤ p →
      s'.heap.get? p = some (seqObj "list" out c) → out.toList = L'.map (fun q => Value.ref q.1) → L'.Perm L → L'.map (fun q => ddI q.2) = D.isort (L.map fun q => ddI q.2) → Q (.ref p) s') :
    wpAny (model P w) A (PySem.call (.builtin "sorted") [.ref a]) Q E s := by
  obtain ⟨o, ho, hex, hd⟩ := R.ob
  have hsz := R.size
  have hfew := R.few
  refine Calls.call_function_entry kind_sorted plain_sorted entry_sorted (args_sorted1 _) ?_
  unfold Builtin.«sorted»
  refine wpAny_bind (m := checkCount "sorted" 1 1 _) (wpAny_pure ?_)
  refine wpAny_bind (collect_set (A := A.in1) hh ⟨o, ho, hex.1, hd⟩ R.fits (by unfold scanBound; omega) R.tab.ris R.led fun s1 vs k1 hz g1 o1 pm => ?_)
  have hes : es.toList.map (·.2) = L.map fun q => Value.ref q.1 := by
    rw [R.rows]
    unfold rowsOf
    rw [List.map_map] <;> rfl
  rw [hes] at pm
  obtain ⟨L1, eL1, pL1⟩ : ∃ L1 : List (Addr × List Int), vs = L1.map (fun q => Value.ref q.1) ∧ L1.Perm L := by
    have nL : L.Nodup := nodup_of_map R.nd
    have one : ∀ q ∈ L, ∀ r ∈ L, q.1 = r.1 → q = r := fun q hq r hr e => by
      have a1 := R.tup q hq
      have a2 := R.tup r hr
      rw [e] at a1
      exact Prod.ext e (a1.inj a2)
    have ord : ∀ vs : List Value, (∀ v ∈ vs, ∃ q ∈ L, v = Value.ref q.1) → ∃ L1 : List (Addr × List Int), vs = L1.map (fun q => Value.ref q.1) ∧ ∀ q ∈ L1, q ∈ L := by
      intro vs
      induction vs with
      | nil => intro _; exact ⟨[], rfl, fun q hq => (by cases hq)⟩
      | cons v vs ih =>
        intro hv
        obtain ⟨q, hq, e⟩ := hv v List.mem_cons_self
        obtain ⟨L1, e1, hs⟩ := ih fun u hu => hv u (List.mem_cons_of_mem _ hu)
        refine ⟨q :: L1, by rw [List.map_cons, e, e1], fun r hr => ?_⟩
        rcases List.mem_cons.mp hr with z | z
        · rw [z]; exact hq
        · exact hs r z
    obtain ⟨L1, e1, hs⟩ := ord vs fun v hv => by
      obtain ⟨q, hq, e⟩ := List.mem_map.mp (pm.mem_iff.mp hv)
      exact ⟨q, hq, e.symm⟩
    refine ⟨L1, e1, ?_⟩
    have pm1 : (L1.map (fun q => Value.ref q.1)).Perm (L.map fun q => Value.ref q.1) := by rw [← e1]; exact pm
    have nref : (L.map fun q => Value.ref q.1).Nodup := by
      refine List.pairwise_map.mpr (List.Pairwise.imp_of_mem (fun {q r} hq hr hne e => ?_) nL)
      injection e with e
      exact hne (one q hq r hr e)
    have n1 : L1.Nodup := nodup_of_map (pm1.nodup_iff.mpr nref)
    refine (List.perm_ext_iff_of_nodup n1 nL).mpr fun q => ⟨hs q, fun hq => ?_⟩
    have hm : Value.ref q.1 ∈ L1.map (fun q => Value.ref q.1) := pm1.mem_iff.mpr (List.mem_map.mpr ⟨q, hq, rfl⟩)
    obtain ⟨r, hr, e⟩ := List.mem_map.mp hm
    injection e with e
    rw [← one r (hs r hr) q hq e]
    exact hr
  subst eL1
  have hL1 : L1.length < 64 := by rw [pL1.length_eq]; exact hfew
  refine wpAny_bind (wpAny_newList ?_ (by rw [List.length_map, sizeLine_eq]; omega))
  have hoL : (s1.heap.push (seqObj "list" (L1.map fun q => Value.ref q.1).toArray 0)).get? s1.heap.objs.size = some (seqObj "list" (L1.map fun q => Value.ref q.1).toArray 0) := Heap.get?_push_size _ rfl
  have sr1 : Srt (L1.map fun q => ddI q.2) := sr.sub fun x hx => (pL1.map _).mem_iff.mp hx
  have alk : PySem.W.AllAlike (L1.map fun q => toPy (ddI q.2)) := by
    have := srt_alike sr1
    rwa [List.map_map] at this
  have srtb : PySem.W.Sortable (L1.map fun q => toPy (ddI q.2)) := by
    refine .inl fun d hd => ?_
    obtain ⟨q, hq, rfl⟩ := List.mem_map.mp hd
    rw [toPy_dd]
    have z := ne q (pL1.mem_iff.mp hq)
    cases e : q.2 with
    | nil => exact absurd e z
    | cons n ns => exact ⟨_, _, rfl⟩
  have er : PySem.W.EachIs (fun v (q : Addr × List Int) => v = Value.ref q.1) (L1.map fun q => Value.ref q.1) L1 := by
    clear pL1 hL1 hoL sr1 alk srtb pm
    induction L1 with
    | nil => exact .nil
    | cons q L1 ih => exact .cons rfl ih
  refine wpAny_bind (wpAny_holding (PySem.W.list_sort_data (s := { s1 with heap := s1.heap.push (seqObj "list" (L1.map fun q => Value.ref q.1).toArray 0) }) (R := fun v (q : Addr × List Int) => v = Value.ref q.1) (enc := fun q => toPy (ddI q.2)) hoL er (each_mono' er fun v q hq e => ?_) alk srtb (by rw [sizeLine_eq]; omega) (fun q hq => ?_) fun out h1 h2 => ?_))
  · subst e
    have tk := isT_keep (R.tup q (pL1.mem_iff.mp hq)) fun b u e => Heap.get?_push_of_some (seqObj "list" (L1.map fun q => Value.ref q.1).toArray 0) (k1 b u e)
    obtain ⟨ad, its, e1, e2, e3⟩ := tupInts_of tk
    cases e1
    refine ⟨[], ?_, by simp⟩
    rw [toPy_dd]
    exact reads_tuple_ints (vr := its.toList) (by simpa using e2) e3
  · show A.in1.units + 1 + (toPy (ddI q.2)).depth < cLine
    have hd : (toPy (ddI q.2)).depth ≤ 7 := by
      rw [toPy_dd]
      exact ints_depth q.2
    have : A.in1.units = A.units + 1 := rfl
    omega
  · have h2' : PySem.W.EachIs (fun v (q : Addr × List Int) => v = Value.ref q.1) out (L1.mergeSort (PySem.W.dataLe false fun q => toPy (ddI q.2))) := h2
    obtain ⟨c, hc⟩ := sortedHeap_at (vs := L1.map fun q => Value.ref q.1) (out := out.toArray) hoL
    refine wpAny_pure ⟨_, rfl, hQ _ s1.heap.objs.size out.toArray c _ (fun b u e => ?_) g1 o1 hz hc (by simpa using each_refs h2') ((List.mergeSort_perm _ _).trans pL1) ?_⟩
    · have q := k1 b u e
      have hlt := Heap.lt_size q
      show (sortedHeap (s1.heap.push (seqObj "list" (L1.map fun q => Value.ref q.1).toArray 0)) s1.heap.objs.size (L1.map fun q => Value.ref q.1) out.toArray).get? b = some u
      rw [sortedHeap_old (Nat.ne_of_lt hlt) (by rw [size_push']; exact Nat.lt_succ_of_lt hlt)]
      exact Heap.get?_push_of_some _ q
    · refine isort_uniq sr (((List.mergeSort_perm _ _).trans pL1).map _) (List.pairwise_map.mpr ?_)
      have e : (PySem.W.dataLe false fun q : Addr × List Int => toPy (ddI q.2)) = fun a b => !lt0 (ddI b.2) (ddI a.2) := PySem.W.dataLe_eq false _
      rw [e]
      refine (List.pairwise_mergeSort (le := fun (a b : Addr × List Int) => !lt0 (ddI b.2) (ddI a.2)) (fun a b c h1 h2 => ?_) (fun a b => ?_) L1).imp fun {a b} k => by simpa using k
      · simp only [Bool.not_eq_true'] at h1 h2 ⊢
        cases q : lt0 (ddI c.2) (ddI a.2) with
        | false => rfl
        | true =>
          rcases lt0_trans (y := ddI b.2) q with k | k
          · rw [h2] at k; cases k
          · rw [h1] at k; cases k
      · cases q : lt0 (ddI b.2) (ddI a.2) with
        | false => simp
        | true =>
          cases q2 : lt0 (ddI a.2) (ddI b.2) with
          | false => simp
          | true =>
            have := lt0_tr q q2
            rw [lt0_irr] at this; cases this
end
section
variable {X : Cx} {S : Sta}
def rSortedD (K : PySem.W.Frag) (P : Program) (w : World) : List V → Hp → VK → Prop := fun vs H Q => ∃ (a : Addr) (L : List (Addr × List Int)), vs = [V.ref a] ∧ H a = some (SetTO P w a L) ∧ (∀ p ∈ L, p.2 ≠ [] ∧ SqT K H p.1 (p.2.map V.int)) ∧ Srt (L.map fun q => ddI q.2) ∧
  ∀ (L' : List (Addr × List Int)) (p : Addr), L'.Perm L → (L.map (·.2)).Nodup → L'.map (fun q => ddI q.2) = D.isort (L.map fun q => ddI q.2) → H p = none → Q (.ref p) (upd H p (.lst (L'.map fun q => V.ref q.1)))
theorem cr_sortedD (hc : X.calm = true) (hu : X.A.units + 65 < cLine) : CallR X (.builtin "sorted") (rSortedD X.K X.prog X.w) := by
  intro pins s σ H vs us Q I r h
  obtain ⟨a, L, rfl, ha, hk, hs, q⟩ := h
  have R0 : SetT0 X.prog X.w s.heap a L := (I.hok a _ ha).1
  obtain ⟨es, ep, t, R⟩ := R0.full fun p hp => I.isT (hk p hp).2
  rw [Vals.ref1 r]
  refine sorted_setD R (I.ok.hd hc) (by omega) hs (fun p hp => (hk p hp).1) fun s' p out c L' k g o hp hg hout pm pw => ?_
  have hfew : L'.length < 64 := by rw [pm.length_eq]; exact R.few
  have hlen : (L'.map fun q => V.ref q.1).length ≤ sizeLine := by rw [List.length_map, sizeLine_eq]; omega
  have hn : H p = none := I.hok.fresh hp
  have hv : Vals (L'.map fun q => V.ref q.1) out.toList := by rw [hout]; exact vals_of_refs L'
  have J : Inv X pins σ (upd H p (.lst (L'.map fun q => V.ref q.1))) { s with heap := s'.heap, gens := s'.gens, drawn := s'.drawn, toks := s'.toks } :=
    I.call (ch := []) (Un.laid k hp hn) (I.hok.laid k hp ⟨hlen, out.toList, c, hv, hg⟩) (by rw [g]; exact I.bare) (fun _ z => nomatch z)
  have e : s' = { s with heap := s'.heap, gens := s'.gens, drawn := s'.drawn, toks := s'.toks } := by
    cases s'
    cases s
    cases o
    rfl
  rw [e]
  exact ⟨.ref p, _, J, rfl, q L' p pm R.nd pw hn⟩
theorem pa_mono {es : List Expr} {t : TA} (h : PA X es t) : PA X es (fun σ H Q => ∃ Q', t σ H Q' ∧ ∀ vs H1, Q' vs H1 → Q vs H1) :=
  ⟨fun pos pins s σ H Q I ⟨Q', a, b⟩ => thn (h.run pos pins s σ H Q' I a) fun us s1 ⟨vs, H1, I1, r1, q1⟩ => ⟨vs, H1, I1, r1, b vs H1 q1⟩⟩
/-- the items by the first of each -/
theorem dedup_spec : ∀ xs : List D, (∀ x ∈ xs, ∃ ns, x = ddI ns) → (D.dedup xs).Nodup ∧ ∀ x, x ∈ D.dedup xs ↔ x ∈ xs := by
  have eq1 : ∀ a b : List Int, D.eqv (ddI a) (ddI b) = decide (a = b) := fun a b => by
    show D.eqvs (a.map D.int) (b.map D.int) = _
    induction a generalizing b with
    | nil => cases b <;> rfl
    | cons x a ih => cases b with
      | nil => rfl
      | cons y b =>
        show ((x == y) && D.eqvs (a.map D.int) (b.map D.int)) = _
        rw [ih]
        by_cases e : x = y <;> by_cases e2 : a = b <;> simp [e, e2]
  intro xs
  induction xs with
  | nil => intro _; exact ⟨.nil, fun x => .rfl⟩
  | cons x xs ih =>
    intro h
    obtain ⟨i1, i2⟩ := ih fun y hy => h y (List.mem_cons_of_mem _ hy)
    obtain ⟨ns, rfl⟩ := h x List.mem_cons_self
    have ne : ∀ y, y ∈ xs → ((!D.eqv (ddI ns) y) = true ↔ y ≠ ddI ns) := fun y hy => by
      obtain ⟨ms, rfl⟩ := h y (List.mem_cons_of_mem _ hy)
      rw [eq1]
      by_cases e : ns = ms
      · subst e; simp
      · simp only [e, decide_false, Bool.not_false, true_iff]
        exact fun z => e (ddI_inj z).symm
    unfold D.dedup
    refine ⟨List.nodup_cons.mpr ⟨fun z => ?_, i1.filter _⟩, fun y => ?_⟩
    · obtain ⟨z1, z2⟩ := List.mem_filter.mp z
      exact (ne _ ((i2 _).mp z1)).mp z2 rfl
    · rw [List.mem_cons, List.mem_cons, List.mem_filter, i2]
      constructor
      · rintro (z | z)
        · exact .inl z
        · exact .inr z.1
      · rintro (z | z)
        · exact .inl z
        · by_cases e : y = ddI ns
          · exact .inl e
          · exact .inr ⟨z, (ne y z).mpr e⟩
theorem setPE_all (S : Sta) : SetPE S := by
  intro X hK hc hu e p1 p2 pos pos2 t hs g1 m1 g2 m2 ha
  have ha' := pa_mono ha
  refine PE.imp' (pe_callB (cr_sortedD (X := X) hc hu) g1 m1 PyProof.Rows.boot_sorted (pa_cons (pe_callTy (cr_setOfT (X := X) hc (by omega)) g2 m2 PyProof.Rows.boot_set ha' (by decide) (by decide) (star_cons hs _) rfl) pa_nil rfl) (by decide) (by decide) rfl rfl) fun σ H Q q => ?_
  refine ⟨_, q, fun vs H1 hh => ?_⟩
  obtain ⟨ι, hid, h, ds, r, hr, rs, q, dn⟩ := hh
  obtain ⟨d, rfl, q⟩ := one_some q
  obtain ⟨v, rfl, r1⟩ := reps1 rs
  obtain ⟨xs, e1, e2⟩ := onL_some q
  obtain ⟨gd, rfl⟩ := guard_some e2
  simp only [Bool.and_eq_true, decide_eq_true_eq] at gd
  obtain ⟨⟨gs, gt⟩, gl⟩ := gd
  obtain ⟨a, ys, rfl, b1, b2⟩ := r1.listOf hr e1
  obtain ⟨ks, rfl, rfl, e3⟩ := ints_rows gt b2
  have sr := srt_of gs
  rw [List.length_map] at gl
  refine ⟨a, ks, rfl, by rw [hK]; exact .inl b1, fun p hp => by rw [hK]; exact (e3 p hp).2.1, gl, fun b L hb hL1 hL2 => ?_⟩
  have k2 : Kp ι H1 (upd H1 b (SetTO X.prog X.w b L)) := Kp.new hb
  have hr2 := hr.new (u := SetTO X.prog X.w b L) hb
  have sqk : ∀ p ∈ ks, SqT S.K (upd H1 b (SetTO X.prog X.w b L)) p.1 (p.2.map V.int) := fun p hp => by
    have z := (e3 p hp).2.2.keep k2
    cases z with
    | tup z1 z2 => rw [← ints_of_rep z2]; exact z1.sq
  have srL : Srt (L.map fun q => ddI q.2) := sr.sub fun x hx => by
    obtain ⟨p, hp, rfl⟩ := List.mem_map.mp hx
    exact List.mem_map.mpr ⟨p, hL1 p hp, rfl⟩
  refine ⟨b, L, rfl, upd_same, fun p hp => ⟨(e3 p (hL1 p hp)).1, by rw [hK]; exact sqk p (hL1 p hp)⟩, srL, fun L' c pm nd es hc => ?_⟩
  have eL : D.isort (L.map fun q => ddI q.2) = D.isort (D.dedup (ks.map fun p => ddI p.2)) := by
    have ds := dedup_spec (ks.map fun p => ddI p.2) fun x hx => by
      obtain ⟨p, _, rfl⟩ := List.mem_map.mp hx
      exact ⟨_, rfl⟩
    have nL : (L.map fun q => ddI q.2).Nodup := by
      have : (L.map fun q => ddI q.2) = (L.map (·.2)).map ddI := by rw [List.map_map] <;> rfl
      rw [this]
      exact List.pairwise_map.mpr (nd.imp fun {x y} n e => n (ddI_inj e))
    have pp : (L.map fun q => ddI q.2).Perm (D.dedup (ks.map fun p => ddI p.2)) := by
      refine (List.perm_ext_iff_of_nodup nL ds.1).mpr fun x => ?_
      rw [ds.2]
      constructor
      · intro hx
        obtain ⟨p, hp, rfl⟩ := List.mem_map.mp hx
        exact List.mem_map.mpr ⟨p, hL1 p hp, rfl⟩
      · intro hx
        obtain ⟨p, hp, rfl⟩ := List.mem_map.mp hx
        obtain ⟨p', hp', e⟩ := List.mem_map.mp (hL2 p hp)
        exact List.mem_map.mpr ⟨p', hp', by rw [e]⟩
    exact isort_uniq (srL.sub fun x hx => pp.mem_iff.mpr hx) ((isort_perm _).trans pp) (isort_pair _ srL fun y hy => hy)
  have rep : ∀ M : List (Addr × List Int), (∀ p ∈ M, p ∈ ks) → RepNs S ι hid (upd H1 b (SetTO X.prog X.w b L)) (M.map fun q => ddI q.2) (M.map fun q => V.ref q.1) := by
    intro M
    induction M with
    | nil => intro _; exact .nil
    | cons m M ih => intro hM; exact .cons ((e3 m (hM m List.mem_cons_self)).2.2.keep k2) (ih fun p hp => hM p (List.mem_cons_of_mem _ hp))
  have r2 : RepNs S ι hid (upd H1 b (SetTO X.prog X.w b L)) (D.isort (D.dedup (ks.map fun p => ddI p.2))) (L'.map fun q => V.ref q.1) := by
    rw [← eL, ← es]
    exact rep L' fun p hp => hL1 p (pm.mem_iff.mp hp)
  have dn2 : Done S ι hid (upd H1 b (SetTO X.prog X.w b L)) h (.lst (D.isort (D.dedup (ks.map fun p => ddI p.2)))) Q := fun v H' kp hr' re => dn v H' (k2.trans kp) hr' (back_RE (fr := true) ι hid H1 _ H' h h _ v k2 hr2 re)
  exact dn2.lst hr2 r2 c hc
end
end Rf
/-! Rf21b -/
set_option maxHeartbeats 1000000
/-! Rf21b: exception classes, looked at in the head's part. -/
namespace Rf
open PySem PySem.Spec PyProof.Rows L2 PySem.W
/-- an exception class of the text: what its own __init__ keeps, is it over LookupError -/
structure ClsT where
  name : Str
  fo : Option Str
  lk : Bool
def bN (lk : Bool) : String := if lk then "LookupError" else "ValueError"
def bI (lk : Bool) : String := if lk then "LookupError.__init__" else "ValueError.__init__"
def bW (lk : Bool) : String := if lk then "LookupError.__new__" else "ValueError.__new__"
def bM (lk : Bool) : List Value := if lk then [.type "LookupError", .type "Exception", .type "BaseException", .type "object"] else [.type "ValueError", .type "Exception", .type "BaseException", .type "object"]
theorem bX (lk : Bool) : XiB (bN lk) (bI lk) (bW lk) (bM lk) := by
  cases lk
  · exact xi_ValueError
  · exact xi_LookupError
def isFnK : ScopeKind → Bool
  | .function => true
  | _ => false
theorem isFnK_ok {k : ScopeKind} (h : isFnK k = true) : k = .function := by
  cases k <;> first | rfl | cases h
def initB (f : Str) (params : Arguments) (body : List Stmt) (scope : Scope) : Bool := match params, body with
  | ⟨[], [a0, a1], none, [], [], none, []⟩, [.Expr (.Call (.Attribute (.Call (.Name su _) [] [] _) ini p2) [.Name x _] [] p4) _, .Assign [.Attribute (.Name se _) f' _] (.Name x' _) _] =>
    decide (a0.arg = "self") && (decide (a1.arg = x) && (decide (su = "super") && (decide (ini = "__init__") && (decide (se = "self") && (decide (f' = f) && (decide (x' = x) && ((p2.endLine == p4.line) && (decide (x ≠ "self") && (!(x == ("__debug__" : Str)) &&
    (decide (scope.names.lookup ("super" : Str) = some .globalImplicit) && (decide (scope.names.lookup ("__class__" : Str) = some .free) && (decide (scope.names.lookup ("self" : Str) = some .local) && (decide (scope.names.lookup x = some .local) && ((scope.names.all fun y => decide (y.2 ≠ .cell)) && (!scope.isCoroutine && (!scope.isGenerator && isFnK scope.kind))))))))))))))))
  | _, _ => false
theorem initB_ok {f : Str} {params : Arguments} {body : List Stmt} {scope : Scope} (h : initB f params body scope = true) : ∃ x, XiT f params body scope x := by
  unfold initB at h
  split at h
  · rename_i a0 a1 su q1 q2 ini p2 x q3 p4 q5 se q6 f' q7 x' q8 q9
    simp only [Bool.and_eq_true, decide_eq_true_eq, Bool.not_eq_true'] at h
    obtain ⟨h1, h2, rfl, rfl, rfl, rfl, rfl, h8, h9, h10, h11, h12, h13, h14, h15, h16, h17, h18⟩ := h
    exact ⟨x', ⟨⟨a0, a1, rfl, h1, h2⟩, ⟨_, _, _, _, _, _, _, _, _, _, h8, rfl⟩, h9, h10, h11, h12, h13, h14, fun y hy => of_decide_eq_true (List.all_eq_true.mp h15 y hy), h16, h17, isFnK_ok h18⟩⟩
  · cases h
def fnB (P : Program) (K : Frag) (C : Addr) (f : Str) (fI : Addr) : Bool := match K.lookup fI with
  | some ⟨.type t, _, .func ⟨_, qual, params, .stmts body, scope, gl, [(cn, cc)], .none, _, _, _, _, .ref cda, _, bl⟩, _⟩ => decide (t = "function") && (decide (cn = "__class__") && (decide (gl = mainGlobals) && (decide (bl = builtinsNs) && (codeIn K (.ref cda) qual && (initB f params body scope &&
      ((match K.lookup cda with
        | some ⟨_, _, .fields vs, _⟩ => (match (vs[2]? : Option Value) with
          | some (.str file _) => (P.main.file : Str) == file
          | _ => false)
        | _ => false) && (match K.lookup cc with
        | some ⟨_, _, .cell (some (.ref D)), _⟩ => decide (D = C)
        | _ => false)))))))
  | _ => false
theorem fnB_ok {P : Program} {K : Frag} {C : Addr} {f : Str} {fI : Addr} (h : fnB P K C f fI = true) : ∃ oc od name qual params body scope kV doc pm an cda ct cc osl x, K.lookup fI = some ⟨oc, od, .func (ksFn name qual params body scope .none kV doc pm an (.ref cda) ct cc), osl⟩ ∧ oc = .type "function" ∧ codeIn K (.ref cda) qual = true ∧ XiT f params body scope x ∧
    (∃ ccl cdd vs ccs file tf, K.lookup cda = some ⟨ccl, cdd, .fields vs, ccs⟩ ∧ vs[2]? = some (.str file tf) ∧ ((P.main.file : Str) == file) = true) ∧ (∃ cl cld csl, K.lookup cc = some ⟨cl, cld, .cell (some (.ref C)), csl⟩) := by
  unfold fnB at h
  split at h <;> try contradiction
  rename_i t od nm qual params body scope gl cn cc kV doc pm an cda ct bl osl ho
  simp only [Bool.and_eq_true, decide_eq_true_eq] at h
  obtain ⟨rfl, rfl, rfl, rfl, h5, h6, h7, h8⟩ := h
  obtain ⟨x, tx⟩ := initB_ok h6
  refine ⟨_, od, nm, qual, params, body, scope, kV, doc, pm, an, cda, ct, cc, osl, x, ho, rfl, h5, tx, ?_, ?_⟩
  · split at h7 <;> try contradiction
    rename_i e1
    split at h7 <;> try contradiction
    rename_i e2
    exact ⟨_, _, _, _, _, _, e1, e2, h7⟩
  · split at h8 <;> try contradiction
    rename_i e1
    have h8 := of_decide_eq_true h8
    subst h8
    exact ⟨_, _, _, e1⟩
def xiOk (P : Program) (K : Frag) (C : Addr) (f : Str) (lk : Bool) : Bool := match findIn K (.ref C) "__init__" with
  | some (some (.ref fI)) => excInitIn K C (bM lk) (bW lk) && (excOver K C (bM lk) && (decide (findIn K (.ref C) "__setattr__" = some (some (.builtin "object.__setattr__"))) && (decide (takerIn K C f = some none) && (hasDictIn K C && (fnB P K C f fI && (decide (mroIn K C (.ref C) = some true) &&
      (decide (nsIn K cStatics "thirdparty.any" = some none) && (decide (ks_superIn K C C "__init__" = some (some (.builtin (bI lk)))) && (decide (subIn K (.ref C) (.type (bN lk)) = some true) && !(P.main.scope.names.lookup ("super" : Str)).isSome)))))))))
  | _ => false
theorem xiOk_ok {P : Program} {K : Frag} {C : Addr} {f : Str} {lk : Bool} (h : xiOk P K C f lk = true) : ∃ fI, XiC P K (bN lk) (bI lk) (bW lk) (bM lk) C fI f := by
  unfold xiOk at h
  split at h <;> try contradiction
  rename_i fI e
  simp only [Bool.and_eq_true, decide_eq_true_eq, Bool.not_eq_true'] at h
  obtain ⟨h1, h2, h3, h4, h5, h6, h7, h8, h9, h10, h11⟩ := h
  exact ⟨fI, ⟨e, h1, h2, h3, h4, h5, fnB_ok h6, h7, h8, h9, h10, h11⟩⟩
def clsOk (P : Program) (K : Frag) (c : ClsT) : Bool := match nsIn K mainGlobals c.name with
  | some (some (.ref C)) => keepIn K (.ref C) && (decide (subIn K (.ref C) (.type "BaseException") = some true) && (decide (typeIn K (.ref C) = some (.type "type")) && (match c.fo with
      | none => excIn K C (bM c.lk) (bW c.lk)
      | some f => xfB K C && (decide (findIn K (.ref C) f = some none) && xiOk P K C f c.lk))))
  | _ => false
def caOf (K : Frag) (cls : List ClsT) (c : Nat) : Option Addr := (cls[c]?).bind fun d => match nsIn K mainGlobals d.name with
  | some (some (.ref C)) => some C
  | _ => none
def tabB (K : Frag) (cls : List ClsT) : Bool := (List.range cls.length).all fun a => (List.range cls.length).all fun b => match caOf K cls a, caOf K cls b with
  | some A, some B => decide (exmOne K (.ref A) (.ref B) = some (decide (b = a)))
  | _, _ => false
theorem tabB_ok {K : Frag} {cls : List ClsT} (h : tabB K cls = true) {a b : Nat} {A B : Addr} (ha : caOf K cls a = some A) (hb : caOf K cls b = some B) : exmOne K (.ref A) (.ref B) = some (decide (b = a)) := by
  have lt : ∀ {c : Nat} {D : Addr}, caOf K cls c = some D → c < cls.length := fun {c D} e => by
    obtain ⟨d, e1, _⟩ := Option.bind_eq_some_iff.mp e
    exact (List.getElem?_eq_some_iff.mp e1).1
  have := List.all_eq_true.mp (List.all_eq_true.mp h a (List.mem_range.mpr (lt ha))) b (List.mem_range.mpr (lt hb))
  rw [ha, hb] at this
  exact of_decide_eq_true this
end Rf
/-! Rf22 -/
set_option maxHeartbeats 1000000
/-! Rf22: from the head's facts to the defs' table; a law's end. -/
namespace Rf
open PySem PySem.Spec PyProof.Rows L2
/-! ### the text's defs -/
structure Mta where
  N : List Str
  ps : List Str
  mu : List Nat
  fresh : Bool
def nameOf : Stmt → Str
  | .FunctionDef n _ _ _ _ _ _ _ _ _ => n
  | _ => "?"
def isDef : Stmt → Bool
  | .FunctionDef _ _ _ _ _ _ _ _ _ _ => true
  | _ => false
def dOf (st : Stmt) : He.DefD := ⟨(nameOf st, none), nameOf st, nameOf st, defArgs st, defBody st, defScope st, [], []⟩
def dnOf (st : Stmt) (m : Mta) : Dn := ⟨nameOf st, nameOf st, defArgs st, defBody st, defScope st, m.N, m.ps, m.mu, m.fresh⟩
/-- plain parameters of these names, none said twice -/
def parB (p : Arguments) (ps : List Str) : Bool := match p with
  | ⟨[], args, none, [], [], none, []⟩ => decide (args.map (·.arg) = ps) && decide ps.Nodup
  | _ => false
def Dn.ok (d : Dn) : Bool := C8.scC d.N d.ps d.scope && parB d.params d.ps
theorem parB_binds {K : PySem.W.Frag} {d : Dn} {a : Addr} {fd : FuncData} (F : FunD K d.name d.qual d.params d.body d.scope [] [] a fd) (h : parB d.params d.ps = true) : Binds K fd d.ps [] := by
  refine F.bindsN fun kV doc pm an cdv ct us hl => ?_
  unfold parB at h
  split at h
  · rename_i args e
    rw [Bool.and_eq_true, decide_eq_true_eq, decide_eq_true_eq] at h
    rw [e, ← h.1]
    exact bind_all (by rw [h.1]; exact h.2) (by rw [hl, ← h.1, List.length_map])
  · cases h

/-! ### constants -/
def all2 (f : Value → D → Bool) : List Value → List D → Bool
  | [], [] => true
  | u :: us, d :: ds => f u d && all2 f us ds
  | _, _ => false
def conB : Nat → PySem.W.Frag → Value → D → Bool
  | 0, _, _, _ => false
  | n + 1, K, u, d => match u, d with
    | .none, .non => true
    | .bool b, .bl c => b == c
    | .int i _, .int j => decide (i = j)
    | .str x _, .str y => decide (x = y)
    | .ref a, .tup ds => (match K.lookup a with
      | some ⟨.type t, _, .seq its _, _⟩ => decide (t = "tuple") && decide (its.size ≤ sizeLine) && all2 (conB n K) its.toList ds
      | _ => false)
    | _, _ => false
theorem conB_ok {S : Sta} : ∀ (n : Nat) {u : Value} {d : D}, conB n S.K u d = true → (∃ v, RelV v u ∧ ∀ ι hid H, RepN S ι hid H d v) ∧ ∀ ds, d ≠ .lst ds := by
  intro n
  induction n with
  | zero => intro u d h; cases h
  | succ n ih =>
    intro u d h
    unfold conB at h
    split at h
    · exact ⟨⟨.non, rfl, fun _ _ _ => .non⟩, fun _ z => by cases z⟩
    · rename_i b c
      rw [← eq_of_beq h]
      exact ⟨⟨.bl b, rfl, fun _ _ _ => .bl b⟩, fun _ z => by cases z⟩
    · rename_i i t j
      rw [← of_decide_eq_true h]
      exact ⟨⟨.int i, ⟨t, rfl⟩, fun _ _ _ => .int i⟩, fun _ z => by cases z⟩
    · rename_i x t y
      rw [← of_decide_eq_true h]
      exact ⟨⟨.str x, ⟨t, rfl⟩, fun _ _ _ => .str x⟩, fun _ z => by cases z⟩
    · rename_i a ds
      split at h
      · rename_i t dd its m sl e
        simp only [Bool.and_eq_true, decide_eq_true_eq] at h
        obtain ⟨⟨h1, h2⟩, h3⟩ := h
        have go : ∀ {us : List Value} {ds : List D}, all2 (conB n S.K) us ds = true → ∃ vs, Vals vs us ∧ ∀ ι hid H, RepNs S ι hid H ds vs := by
          intro us
          induction us with
          | nil =>
            intro ds h
            cases ds with
            | nil => exact ⟨[], .nil, fun _ _ _ => .nil⟩
            | cons _ _ => cases h
          | cons u us ih2 =>
            intro ds h
            cases ds with
            | nil => cases h
            | cons d ds =>
              have h : (conB n S.K u d && all2 (conB n S.K) us ds) = true := h
              rw [Bool.and_eq_true] at h
              obtain ⟨⟨v, a1, a2⟩, _⟩ := ih h.1
              obtain ⟨vs, b1, b2⟩ := ih2 h.2
              exact ⟨v :: vs, .cons a1 b1, fun ι hid H => .cons (a2 ι hid H) (b2 ι hid H)⟩
        obtain ⟨vs, b1, b2⟩ := go h3
        exact ⟨⟨.ref a, rfl, fun ι hid H => .tup (.inr ⟨_, its, m, e, by rw [h1], rfl, h2, b1⟩) (b2 ι hid H)⟩, fun _ z => by cases z⟩
      · cases h
    · cases h
def conOk (K : PySem.W.Frag) (c : Str × D) : Bool := match PySem.W.nsIn K mainGlobals c.1 with
  | some (some u) => conB 8 K u c.2
  | _ => false
theorem lookup_mem {α β : Type} [BEq α] [LawfulBEq α] {k : α} {v : β} : ∀ {l : List (α × β)}, l.lookup k = some v → (k, v) ∈ l
  | (a, b) :: r, h => by
    rw [List.lookup_cons] at h
    by_cases e : (k == a) = true
    · rw [e] at h
      cases h
      rw [eq_of_beq e]
      exact List.mem_cons_self
    · rw [Bool.not_eq_true] at e
      rw [e] at h
      exact List.mem_cons_of_mem _ (lookup_mem h)
/-- no object of the head's part is a list -/
def noList (K : PySem.W.Frag) : Bool := K.all fun p => !(p.2.cls == Value.type "list")
def exOk (P : Program) (cs : List (Str × D)) (cls : List ClsT) (K : PySem.W.Frag) : Bool := noList K && (cs.all (conOk K) && (cls.all (clsOk P K) && tabB K cls))

/-! ### the head's Hook -/
abbrev AlE : Type := He.AlD × Bool
def frE (n : Nat) (g : Addr → Option Obj) : PySem.W.Frag := He.frG g (PySem.cStatics :: He.asD g n)
def obsEG (n : Nat) (fa : List He.Fa) (fn : List He.DefD) (ex : PySem.W.Frag → Bool) (g : Addr → Option Obj) : AlE := (He.obsD fa fn (frE n g), ex (frE n g))
def hookE (n : Nat) (fa : List He.Fa) (fn : List He.DefD) (ex : PySem.W.Frag → Bool) : PySem.W.Hook where
  α := AlE
  obs := fun s => obsEG n fa fn ex s.heap.get?
  val := fun _ => (He.valD fn, true)
  says := fun _ h => ∃ K : PySem.W.Frag, K.In h ∧ He.SaysD fa fn K ∧ ex K = true
  of := fun _ _ e => ⟨_, He.frG_in, congrArg (fun z : AlE => z.1) e, congrArg (fun z : AlE => z.2) e⟩
  keeps := fun _ _ _ ⟨K, hK, c⟩ k => ⟨K, PySem.W.Frag.In.keeps hK k, c⟩
theorem obsEG_eq {n : Nat} {fa : List He.Fa} {fn : List He.DefD} {ex : PySem.W.Frag → Bool} {g : Addr → Option Obj} {s : Shared} (h : ∀ a, g a = s.heap.get? a) : obsEG n fa fn ex g = (hookE n fa fn ex).obs s := by
  have e : g = s.heap.get? := funext h
  rw [e] <;> rfl

/-! ### a text -/
structure Text where
  defs : List Stmt
  mts : List Mta
  /-- built-in names -/
  bn : List Str
  cs : List (Str × D)
  cls : List ClsT
namespace Text
variable (t : Text)
def ds : List Dn := List.zipWith dnOf t.defs t.mts
def fn : List He.DefD := t.defs.map dOf
def fa : List He.Fa := (t.defs.map fun s => .glo (nameOf s)) ++ t.bn.map .free
def gl (x : Str) : Gk := match t.defs.findIdx? (fun s => decide (nameOf s = x)) with
  | some i => .fn i
  | none => if t.bn.contains x then .free else match t.cs.findIdx? (fun c => decide (c.1 = x)) with
    | some j => .con j
    | none => match t.cls.findIdx? (fun c => decide (c.name = x)) with
      | some j => .cls j ((t.cls[j]?).bind (·.fo))
      | none => .unk
def prg (W : Nat) : Prg := ⟨⟨fun j => (t.cs[j]?).map (·.2), fun f => ((t.ds[f]?).map (·.fresh)).getD false⟩, fun f => (t.ds[f]?).map (Dn.df t.gl), W⟩
def ok : Bool := decide (t.defs.length = t.mts.length) && (t.ds.all Dn.ok && (t.cls.isEmpty || t.bn.contains ("super" : Str)))
def sta (P : Program) (w : World) (K : PySem.W.Frag) : Sta := ⟨P, w, K, fun f => (t.fn[f]?).map fun d => He.fAd K d.at_, caOf K t.cls, fun c => (t.cls[c]?).bind (·.fo)⟩
variable {t}
theorem txt {P : Program} {w : World} {K : PySem.W.Frag} {h : Heap} {mg : Str → Option Value} {base : Heap} {W : Nat} (X : K.In h) (G : h.Ns mainGlobals mg) (c : He.SaysD t.fa t.fn K) (ce : exOk P t.cs t.cls K = true) (ok : t.ok = true) :
    Txt (t.sta P w K) (t.prg W) mg base t.gl t.ds := by
  unfold Text.ok at ok
  rw [Bool.and_eq_true, Bool.and_eq_true, decide_eq_true_eq] at ok
  obtain ⟨ok1, ok2, ok3⟩ := ok
  have ok : t.defs.length = t.mts.length ∧ t.ds.all Dn.ok = true := ⟨ok1, ok2⟩
  unfold exOk at ce
  rw [Bool.and_eq_true, Bool.and_eq_true, Bool.and_eq_true] at ce
  obtain ⟨_, ce1, ce2, ce3⟩ := ce
  have free : ∀ x, t.bn.contains x = true → mg x = none := fun x hb => by
    obtain ⟨i, hi, e⟩ := List.mem_iff_getElem.mp (List.contains_iff_mem.mp hb)
    have fact : (He.Fa.free x).ok K = true := by
      refine c.fact (t.defs.length + i) ?_
      unfold Text.fa
      rw [List.getElem?_append_right (by rw [List.length_map]; omega), List.length_map, Nat.add_sub_cancel_left, List.getElem?_map, List.getElem?_eq_getElem hi, e]
      rfl
    exact He.free_ok X G fact
  have at' : ∀ f d, t.ds[f]? = some d → ∃ s m, t.defs[f]? = some s ∧ d = dnOf s m := fun f d e => by
    unfold Text.ds at e
    rw [List.getElem?_zipWith] at e
    split at e
    · rename_i s m e1 e2
      exact ⟨s, m, e1, (Option.some.inj e).symm⟩
    · cases e
  refine ⟨fun f => rfl, fun f d e => ?_, fun f a e => ?_, fun x => ?_, fun f => ?_, setPE_all _, fun a b A B ha hb => tabB_ok ce3 ha hb⟩
  · obtain ⟨s, m, e1, rfl⟩ := at' f d e
    have e2 : t.fn[f]? = some (dOf s) := by
      unfold Text.fn
      rw [List.getElem?_map, e1]
      rfl
    obtain ⟨fd, F⟩ := c.def_ f e2
    have od : (dnOf s m).ok = true := List.all_eq_true.mp ok.2 _ (List.mem_of_getElem? e)
    unfold Dn.ok at od
    rw [Bool.and_eq_true] at od
    refine ⟨He.fAd K (dOf s).at_, fd, ?_, F, parB_binds (d := dnOf s m) F od.2, C8.fnScope_by od.1⟩
    show (t.fn[f]?).map _ = _
    rw [e2]
    rfl
  · obtain ⟨d, e1, _⟩ := Option.map_eq_some_iff.mp (show (t.fn[f]?).map (fun d => He.fAd K d.at_) = some a from e)
    have hl : f < t.defs.length := by
      have := (List.getElem?_eq_some_iff.mp e1).1
      unfold Text.fn at this
      rwa [List.length_map] at this
    refine ⟨_, List.getElem?_eq_getElem (by
      unfold Text.ds
      rw [List.length_zipWith]
      omega)⟩
  · unfold Text.gl
    split
    · rename_i i e
      obtain ⟨hk, h1, _⟩ := List.findIdx?_eq_some_iff_getElem.mp e
      have hx : nameOf t.defs[i] = x := of_decide_eq_true h1
      have fact : (He.Fa.glo x).ok K = true := by
        refine c.fact i ?_
        unfold Text.fa
        rw [List.getElem?_append_left (by rw [List.length_map]; exact hk), List.getElem?_map, List.getElem?_eq_getElem hk]
        show some (He.Fa.glo (nameOf t.defs[i])) = _
        rw [hx]
      refine ⟨He.ga K x, ?_, He.glo_ok X G fact⟩
      show (t.fn[i]?).map _ = _
      unfold Text.fn
      rw [List.getElem?_map, List.getElem?_eq_getElem hk]
      show some (He.ga K (nameOf t.defs[i])) = _
      rw [hx]
    · split
      · rename_i hb
        exact free x hb
      · split
        · rename_i j e
          obtain ⟨hk, h1, _⟩ := List.findIdx?_eq_some_iff_getElem.mp e
          have hx : (t.cs[j]).1 = x := of_decide_eq_true h1
          have q := List.all_eq_true.mp ce1 _ (List.getElem_mem hk)
          unfold conOk at q
          rw [hx] at q
          split at q
          · rename_i u eu
            obtain ⟨⟨v, a1, a2⟩, a3⟩ := conB_ok (S := t.sta P w K) 8 q
            refine ⟨u, v, (t.cs[j]).2, PySem.W.mg_of X G eu, a1, ?_, a3, a2⟩
            show (t.cs[j]?).map _ = _
            rw [List.getElem?_eq_getElem hk]
            rfl
          · cases q
        · split
          · rename_i j e
            obtain ⟨hk, h1, _⟩ := List.findIdx?_eq_some_iff_getElem.mp e
            have hx : (t.cls[j]).name = x := of_decide_eq_true h1
            have hsu : mg ("super" : Str) = none := by
              rcases Bool.or_eq_true_iff.mp ok3 with z | z
              · rw [List.isEmpty_iff.mp z] at hk
                exact absurd hk (Nat.not_lt_zero _)
              · exact free _ z
            have q := List.all_eq_true.mp ce2 _ (List.getElem_mem hk)
            unfold clsOk at q
            split at q <;> try contradiction
            rename_i C eC
            simp only [Bool.and_eq_true, decide_eq_true_eq] at q
            obtain ⟨q1, q2, q3, q4⟩ := q
            have e1 : (t.cls[j]?) = some t.cls[j] := List.getElem?_eq_getElem hk
            refine ⟨C, ?_, by rw [← hx]; exact PySem.W.mg_of X G eC, hsu, q1, q2, q3, ?_⟩
            · show caOf K t.cls j = _
              unfold caOf
              rw [e1]
              show (match PySem.W.nsIn K mainGlobals (t.cls[j]).name with
                | some (some (.ref C)) => some C
                | _ => none) = _
              rw [eC]
            · rw [e1]
              show match (t.cls[j]).fo with
                | none => _
                | some f => _
              split at q4
              · rename_i ef
                try rw [ef]
                exact ⟨_, _, _, _, (bX _).fb, q4⟩
              · rename_i f ef
                try rw [ef]
                simp only [Bool.and_eq_true, decide_eq_true_eq] at q4
                obtain ⟨r1, r2, r3⟩ := q4
                obtain ⟨fI, T⟩ := xiOk_ok r3
                refine ⟨?_, xfB_ok r1, r2, _, _, _, _, fI, bX _, T⟩
                show (t.cls[j]?).bind _ = _
                rw [e1]
                exact ef
          · trivial
  · show ((t.ds[f]?).map (·.fresh)).getD false = frOf (t.prg W) f
    unfold frOf
    show _ = match (t.ds[f]?).map (Dn.df t.gl) with
      | some F => F.fresh
      | none => false
    cases t.ds[f]? <;> rfl
theorem reps_ints {S : Sta} {ι hid : List Addr} {H : Hp} : ∀ ns : List Int, RepNs S ι hid H (ns.map D.int) (ns.map V.int)
  | [] => .nil
  | n :: ns => .cons (.int n) (reps_ints ns)
/-- the law's end: what the evaluator answers at every script -/
theorem fin {P : Program} {w : World} {K : PySem.W.Frag} {h : Heap} {mg : Str → Option Value} {W k iL : Nat} {d : Dn} {fa : Addr} {x : Str} (X : K.In h) (G : h.Ns mainGlobals mg) (c : He.SaysD t.fa t.fn K) (ce : exOk P t.cs t.cls K = true) (ok : t.ok = true)
    (hd : t.ds[iL]? = some d) (hp : d.ps = [x]) (hfa : mg d.name = some (.ref fa)) (hev : ∀ ns : List Int, ns.length ≤ 63 → Rf.call (t.prg W) k iL [.lst (ns.map D.int)] [] = .ok (.bl true) []) :
    ∃ (fd : FuncData) (sp : Sp), (∀ (s : Shared) (u : Value), BindsTo s fd ⟨[u], []⟩ [(x, u)]) ∧
        (∀ (H : Hp) (a : Addr) (ns : List Int), ns.length ≤ 63 → Only H → SqL K H a (ns.map V.int) → sp [.ref a] H (fun v _ => v = .bl true) fun _ _ _ => False) ∧
        ∀ base : Heap, K.In base → base.Ns mainGlobals mg → FnOk P w K mg base (L2.CX P w) k fa fd [x] sp := by
  have ok0 := ok
  have T := txt (w := w) (W := W) (base := h) X G c ce ok
  obtain ⟨a, fd, ea, F, hb, S0⟩ := T.at_ iL d hd
  unfold Text.ok at ok
  rw [Bool.and_eq_true] at ok
  rw [Bool.and_eq_true] at ok
  have od : d.ok = true := List.all_eq_true.mp ok.2.1 _ (List.mem_of_getElem? hd)
  unfold Dn.ok at od
  rw [Bool.and_eq_true] at od
  have hfa' : a = fa := by
    obtain ⟨s, m, e1, rfl⟩ : ∃ s m, t.defs[iL]? = some s ∧ d = dnOf s m := by
      unfold Text.ds at hd
      rw [List.getElem?_zipWith] at hd
      split at hd
      · rename_i s m e1 e2
        exact ⟨s, m, e1, (Option.some.inj hd).symm⟩
      · cases hd
    have hk := (List.getElem?_eq_some_iff.mp e1).1
    have fact : (He.Fa.glo (nameOf s)).ok K = true := by
      refine c.fact iL ?_
      unfold Text.fa
      rw [List.getElem?_append_left (by rw [List.length_map]; exact hk), List.getElem?_map, e1]
      rfl
    have e2 := He.glo_ok X G fact
    have e3 : (t.fn[iL]?).map (fun d => He.fAd K d.at_) = some a := ea
    unfold Text.fn at e3
    rw [List.getElem?_map, e1] at e3
    have e3 : some (He.ga K (nameOf s)) = some a := e3
    have e4 : some (Value.ref (He.ga K (nameOf s))) = some (.ref fa) := e2.symm.trans hfa
    cases e3
    cases e4
    rfl
  subst hfa'
  refine ⟨fd, spD (t.sta P w K) (t.prg W) k iL, fun s u => ?_, fun H a' ns hl hO hq => ?_, fun base KB GB => ?_⟩
  · have b := FunD.bindsA (ps := d.ps) F (fun kV doc pm an cdv ct us hl => ?_) s [u] (by rw [hp]; rfl)
    · rw [hp] at b
      exact b
    · have h := od.2
      unfold parB at h
      split at h
      · rename_i args e
        rw [Bool.and_eq_true, decide_eq_true_eq, decide_eq_true_eq] at h
        rw [e, ← h.1]
        exact bind_all (by rw [h.1]; exact h.2) (by rw [hl, ← h.1, List.length_map])
      · cases h
  · refine ⟨[], [], [], [.lst (ns.map D.int)], ⟨rfl, .nil, fun n a o e => by simp at e, fun a ha => (by cases ha), fun a ha => (by cases ha)⟩, .cons (.inl (.lst ⟨?_, by simp, by simp⟩ (reps_ints ns))) .nil, ?_⟩
    · rcases hq with hq | ⟨o, its, n, e1, e2, _⟩
      · exact hq
      · exfalso
        unfold exOk noList at ce
        rw [Bool.and_eq_true] at ce
        have q := List.all_eq_true.mp ce.1 (a', o) (lookup_mem e1)
        simp only [e2] at q
        exact absurd q (by decide)
    · rw [hev ns hl]
      exact fun v H' k x r => r.1.bl
  · have T' := txt (w := w) (W := W) (base := base) X G c ce ok0
    rw [← hp]
    exact fns_ok T' k iL d _ fd hd ea F
end Text
end Rf
/-! Rf24 -/
set_option maxHeartbeats 1000000
/-! Rf24: a law's end, in whatever world. -/
namespace Rf
open PySem PySem.Spec PyProof.Rows L2
def CXu (P : Program) : CXT := fun st H s E e s' => ∃ w : World, L2.CX P w st H s E e s'
theorem fnOk_cx {P : Program} {w : World} {K : PySem.W.Frag} {mg : Str → Option Value} {base : Heap} {CX CX' : CXT} {k : Nat} {f : Addr} {fd : FuncData} {ps : List Str} {sp : Sp} (F : FnOk P w K mg base CX k f fd ps sp) (h : ∀ st H s E e s', CX st H s E e s' → CX' st H s E e s') : FnOk P w K mg base CX' k f fd ps sp :=
  ⟨F.len, fun A outer s H args us vs Q E hr e0 hb r hsp => codeAny_mono (F.run A outer s H args us vs Q E hr e0 hb r hsp) fun r s' q => by
    cases r with
    | error e => exact h _ _ _ _ _ _ q
    | ok fl => cases fl <;> exact q⟩
theorem cxu_none {P : Program} (H : Hp) (s : Shared) (e : Value) (s' : Shared) (h : CXu P [] H s (fun _ _ _ => False) e s') : False := by
  obtain ⟨w, a, B, H', cls, d, _, _, _, _, _, _, _, z⟩ := h
  exact z
/-- all that a row's head asks of a law's text -/
theorem Text.end_ {t : Text} {P : Program} {W k iL : Nat} {d : Dn} {x : Str} (ok : t.ok = true) (hd : t.ds[iL]? = some d) (hp : d.ps = [x]) (hev : ∀ ns : List Int, ns.length ≤ 63 → Rf.call (t.prg W) k iL [.lst (ns.map D.int)] [] = .ok (.bl true) [])
    (w : World) (mg : Str → Option Value) (fa : Addr) (h : Heap) (Y : ∃ K : PySem.W.Frag, K.In h ∧ He.SaysD t.fa t.fn K ∧ exOk P t.cs t.cls K = true) (G : h.Ns mainGlobals mg) (hmg : mg d.name = some (.ref fa)) :
    ∃ (K : PySem.W.Frag) (fd : FuncData) (sp : Sp), K.In h ∧ (∀ (s : Shared) (u : Value), BindsTo s fd ⟨[u], []⟩ [(x, u)]) ∧
      (∀ (H : Hp) (a : Addr) (ns : List Int), ns.length ≤ 63 → Only H → SqL K H a (ns.map V.int) → sp [.ref a] H (fun v _ => v = .bl true) fun _ _ _ => False) ∧
      ∀ base : Heap, K.In base → base.Ns mainGlobals mg → FnOk P w K mg base (CXu P) k fa fd [x] sp := by
  obtain ⟨K, KX, c, ce⟩ := Y
  obtain ⟨fd, sp, h1, h2, h3⟩ := Text.fin (w := w) KX G c ce ok hd hp hmg hev
  exact ⟨K, fd, sp, KX, h1, h2, fun base a b => fnOk_cx (h3 base a b) fun st H s E e s' q => ⟨w, q⟩⟩
end Rf
/-! K01h -/
set_option maxHeartbeats 0
namespace K01
open PySem PySem.Spec PyProof.Rows L2 Rf
abbrev PW : Program := PySem.Challenge.pw_teefloors_k01_main_pieces_by_three_cells
abbrev RW := PySem.Challenge.rw_teefloors_k01_main_pieces_by_three_cells
-- 55 defs; law is def 54, statement 69
def mts : List Mta := [
  ⟨["thing"], ["thing"], [], false⟩ /- 0 is_number -/,
  ⟨["thing", "least"], ["thing", "least"], [], false⟩ /- 1 is_from -/,
  ⟨["thing", "length"], ["thing", "length"], [], false⟩ /- 2 is_long -/,
  ⟨["value", "own"], ["value"], [], false⟩ /- 3 tupled -/,
  ⟨["thing", "own"], ["thing"], [], false⟩ /- 4 are_numbers -/,
  ⟨["thing"], ["thing"], [], false⟩ /- 5 is_pair -/,
  ⟨["thing"], ["thing"], [], false⟩ /- 6 is_floor -/,
  ⟨["floor", "own"], ["floor"], [], false⟩ /- 7 sure_floor -/,
  ⟨["floor", "thing"], ["floor", "thing"], [], false⟩ /- 8 is_cell_in -/,
  ⟨["floor", "thing"], ["floor", "thing"], [], false⟩ /- 9 is_block_in -/,
  ⟨["floor", "block", "own"], ["floor", "block"], [], false⟩ /- 10 sure_block -/,
  ⟨["thing"], ["thing"], [], false⟩ /- 11 is_piece -/,
  ⟨["piece", "own"], ["piece"], [], false⟩ /- 12 sure_piece -/,
  ⟨["cell", "way", "right", "up"], ["cell", "way"], [], false⟩ /- 13 beside -/,
  ⟨["piece", "middle", "way"], ["piece"], [], false⟩ /- 14 cells_in -/,
  ⟨["block", "sign", "east", "north"], ["block", "sign"], [], false⟩ /- 15 middle_by -/,
  ⟨["piece"], ["piece"], [], false⟩ /- 16 own_block_in -/,
  ⟨["piece", "block", "sign"], ["piece"], [], false⟩ /- 17 sign_in -/,
  ⟨["number"], ["number"], [], false⟩ /- 18 outward -/,
  ⟨["piece", "i", "j"], ["piece"], [], false⟩ /- 19 goes_in -/,
  ⟨["cell", "is_level"], ["cell", "is_level"], [], false⟩ /- 20 stem_by -/,
  ⟨["floor", "piece", "own"], ["floor", "piece"], [], false⟩ /- 21 is_of_block -/,
  ⟨["block", "sign", "is_level", "middle"], ["block", "sign", "is_level"], [], false⟩ /- 22 piece_out -/,
  ⟨["floor", "block", "found", "sign", "own"], ["floor", "block"], [], false⟩ /- 23 four_in -/,
  ⟨["floor", "piece", "block", "goal", "dot", "other", "word"], ["floor", "piece"], [], false⟩ /- 24 tie_in -/,
  ⟨["floor", "piece", "own", "told"], ["floor", "piece"], [], false⟩ /- 25 sure_lying -/,
  ⟨["piece"], ["piece"], [], false⟩ /- 26 cells_of -/,
  ⟨["floor", "piece", "own", "cell"], ["floor", "piece"], [], false⟩ /- 27 on_floor -/,
  ⟨["floor", "block", "own"], ["floor", "block"], [], false⟩ /- 28 four_of -/,
  ⟨["floor", "piece", "own"], ["floor", "piece"], [], false⟩ /- 29 can_lie -/,
  ⟨["floor", "piece"], ["floor", "piece"], [], false⟩ /- 30 own_block -/,
  ⟨["floor", "piece", "told"], ["floor", "piece"], [], false⟩ /- 31 left_out -/,
  ⟨["floor", "piece"], ["floor", "piece"], [], false⟩ /- 32 goes_to -/,
  ⟨["floor", "piece"], ["floor", "piece"], [], false⟩ /- 33 sign_of -/,
  ⟨["floor", "piece", "own", "told"], ["floor", "piece"], [], false⟩ /- 34 tie_told -/,
  ⟨["floor", "block", "other", "own", "piece", "near", "far", "pair"], ["floor", "block", "other"], [], false⟩ /- 35 piece_to -/,
  ⟨["script", "k", "bit_so"], ["script", "k"], [], true⟩ /- 36 _law_box -/,
  ⟨["tin", "below_so", "once_so", "wide_so", "twice_so", "drawn"], ["tin", "below_so"], [], false⟩ /- 37 _law_take -/,
  ⟨["script", "most_so", "cells_so", "k", "bit_so", "at_so"], ["script", "most_so"], [2], false⟩ /- 38 _law_cells -/,
  ⟨["tin", "goods_so"], ["tin", "goods_so"], [], false⟩ /- 39 _law_of -/,
  ⟨["tin", "goods_so", "count_so", "lap", "pool_so", "found"], ["tin", "goods_so", "count_so"], [4, 5], false⟩ /- 40 _law_pick -/,
  ⟨["matter", "bit"], ["matter"], [], false⟩ /- 41 _law_lists -/,
  ⟨["got", "due", "mine", "its"], ["got", "due"], [], false⟩ /- 42 _law_same -/,
  ⟨["way_so"], ["way_so"], [], false⟩ /- 43 _law_off -/,
  ⟨["slab", "found", "k", "x", "y", "way_so", "own"], ["slab"], [1], false⟩ /- 44 _law_cells_of -/,
  ⟨["deck", "found", "i", "j"], ["deck"], [], false⟩ /- 45 _law_plots -/,
  ⟨["door_so", "goods_so", "many_so"], ["door_so", "goods_so"], [], false⟩ /- 46 _law_call -/,
  ⟨["door_so", "goods_so", "found", "slip_so"], ["door_so", "goods_so"], [], false⟩ /- 47 _law_told -/,
  ⟨["tin", "most_so", "i", "j"], ["tin", "most_so"], [], false⟩ /- 48 _law_deck -/,
  ⟨["goods_so"], ["goods_so"], [], false⟩ /- 49 _law_set -/,
  ⟨["slab", "cells_so", "rows_so", "plot", "sign_so", "gone_so", "four_so", "i", "j", "east", "north", "e_so", "f_so", "own", "k"], ["slab"], [], false⟩ /- 50 _law_look -/,
  ⟨["deck", "slab", "k", "plot", "sign_so", "gone_so", "left_so", "dot_so", "far_so", "x", "y", "way_so", "own", "beside_so", "there"], ["deck", "slab"], [], false⟩ /- 51 _law_tie_of -/,
  ⟨["deck", "slab", "inside", "own"], ["deck", "slab"], [], false⟩ /- 52 _law_lies -/,
  ⟨["tin", "deck", "slabs_so", "slab", "plot", "m", "n", "got", "four_so", "beside_so", "there_so", "own", "far_so", "k", "inside", "lies", "due", "door_so", "sign_so", "gone_so", "left_so", "its"], ["tin"], [], false⟩ /- 53 _law_right -/,
  ⟨["script", "tin", "deck", "many_so", "x", "lap", "k"], ["script"], [1], false⟩ /- 54 law -/]
def bn : List Str := ["len", "int", "abs", "min", "max", "sorted", "list", "tuple", "all", "range", "enumerate", "zip", "isinstance", "bool", "str", "set", "super"]
def cs : List (Str × D) := [("STEPS", .tup [.tup [.int (1), .int (0)], .tup [.int (0), .int (1)], .tup [.int (-1), .int (0)], .tup [.int (0), .int (-1)]])]
def cls : List ClsT := [⟨"NoBlock", (some "block"), true⟩, ⟨"NoCell", (some "cell"), true⟩, ⟨"NoFace", (some "face"), true⟩, ⟨"NoTie", (some "tie"), true⟩, ⟨"BadText", (some "line"), false⟩, ⟨"Broken", (some "place"), false⟩, ⟨"CanNot", none, false⟩, ⟨"TooMany", none, false⟩, ⟨"Unfit", none, false⟩]
def iL : Nat := 54
def iV : Nat := 69
def txt : Text := ⟨PW.main.body.filter isDef, mts, bn, cs, cls⟩
theorem ok : txt.ok = true := by decide +kernel
/-! ### the head -/
abbrev R : PySem.W.OpenRow := PySem.W.OpenLaw.row RW
def ex : PySem.W.Frag → Bool := exOk PW txt.cs txt.cls
abbrev hk : PySem.W.Hook := hookE 5 txt.fa txt.fn ex
def ob (s : PySem.W.SharedT) : AlE := obsEG 5 txt.fa txt.fn ex (HandSHeadRun.getT s)
theorem ob_eq (s : PySem.W.SharedT) : ob s = hk.obs s.abs := obsEG_eq (HandSHeadRun.getT_eq s)
def loose : List Str := PW.main.scope.names.filterMap fun p => if p.1 = ("__name__" : Str) ∨ p.1 = ("law" : Str) then none else some p.1
theorem run (w : World) : HandSHeadRun.RunEq R (PySem.W.view R.prog [69]) hk ob 30000 loose w := by
  intro os
  kernel_rfl
end K01
/-! Rf25 -/
set_option maxHeartbeats 1000000
/-! Rf25: the evaluator at a program of written defs. -/
namespace Rf
open PySem
def prgOf (codes : List Def) (cs : List (Str × D)) (W : Nat) : Prg := ⟨⟨fun j => (cs[j]?).map (·.2), fun f => ((codes[f]?).map (·.fresh)).getD false⟩, fun f => codes[f]?, W⟩
theorem call_at {P : Prg} {k f : Nat} {F : Def} (e : P.defs f = some F) {ds : List D} {h : AH} (hl : ds.length = F.n) : call P (k + 1) f ds h = close h.length F.fresh (execs P.G (call P k) P.W F.body (ds.map some ++ List.replicate (F.m - F.n) none) h) := by
  show (match P.defs f with
    | some F => if ds.length = F.n then close h.length F.fresh (execs P.G (call P k) P.W F.body (ds.map some ++ List.replicate (F.m - F.n) none) h) else .no
    | none => .no) = _
  rw [e]
  exact if_pos hl
section
variable {G : Glb} {cl : CallF} {σ : St'} {h : AH} {W : Nat}
@[simp] theorem ev_var (i : Nat) : ev G cl (.var i) σ h = .opt (σ[i]?.join) h := rfl
@[simp] theorem ev_con (d : D) : ev G cl (.con d) σ h = .ok d h := rfl
@[simp] theorem ev_glb (k : Nat) : ev G cl (.glb k) σ h = .opt (G.con k) h := rfl
@[simp] theorem ev_fnm (f : Nat) : ev G cl (.fnm f) σ h = .ok (.fn f) h := rfl
@[simp] theorem ev_tup (es : List E) : ev G cl (.tup es) σ h = (evs G cl es σ h).bind fun ds h1 => if ds.any D.isRef then .no else if ds.length ≤ lim then .ok (.tup ds) h1 else .no := rfl
@[simp] theorem ev_lst (es : List E) : ev G cl (.lst es) σ h = (evs G cl es σ h).bind fun ds h1 => if ds.any D.isRef then .no else if ds.length ≤ lim then .ok (.lst ds) h1 else .no := rfl
@[simp] theorem ev_bin (o : Op2) (a b : E) : ev G cl (.bin o a b) σ h = (ev G cl a σ h).bind fun x h1 => (ev G cl b σ h1).bind fun y h2 => .opt (op2 h2 o x y) h2 := rfl
def negD : D → AH → Res D
  | .int i, h => .ok (.int (-i)) h
  | _, _ => .no
@[simp] theorem negD_int (i : Int) : negD (.int i) h = .ok (.int (-i)) h := rfl
@[simp] theorem ev_neg (a : E) : ev G cl (.neg a) σ h = (ev G cl a σ h).bind negD := by
  show (ev G cl a σ h).bind _ = _
  congr 1 <;> (
    funext x h1
    cases x <;> rfl)
@[simp] theorem ev_not (a : E) : ev G cl (.not a) σ h = (ev G cl a σ h).bind fun x h1 => .opt ((truth h1 x).map fun b => .bl !b) h1 := rfl
@[simp] theorem ev_cmp (c : Cp) (a b : E) : ev G cl (.cmp c a b) σ h = (ev G cl a σ h).bind fun x h1 => (ev G cl b σ h1).bind fun y h2 => .opt ((cmpD h2 c x y).map .bl) h2 := rfl
/-- one of two by a truth value, if any -/
def pick {α : Type} (o : Option Bool) (a b c : α) : α := match o with
  | some true => a
  | some false => b
  | none => c
@[simp] theorem pick_true {α : Type} (a b c : α) : pick (some true) a b c = a := rfl
@[simp] theorem pick_false {α : Type} (a b c : α) : pick (some false) a b c = b := rfl
theorem pick_if {α : Type} (x : Bool) (a b c : α) : pick (some x) a b c = if x = true then a else b := by cases x <;> rfl
@[simp] theorem pick_dec {α : Type} (p : Prop) [Decidable p] (a b c : α) : pick (some (decide p)) a b c = if p then a else b := by
  by_cases e : p <;> simp [e]
@[simp] theorem pick_and {α : Type} (x y : Bool) (a b c : α) : pick (some (x && y)) a b c = pick (some x) (pick (some y) a b c) b c := by cases x <;> cases y <;> rfl
@[simp] theorem pick_or {α : Type} (x y : Bool) (a b c : α) : pick (some (x || y)) a b c = pick (some x) a (pick (some y) a b c) c := by cases x <;> cases y <;> rfl
@[simp] theorem pick_not {α : Type} (x : Bool) (a b c : α) : pick (some !x) a b c = pick (some x) b a c := by cases x <;> rfl
@[simp] theorem ev_chn (c c' : Cp) (a b d : E) : ev G cl (.chn c c' a b d) σ h = (ev G cl a σ h).bind fun x h1 => (ev G cl b σ h1).bind fun y h2 => pick (cmpD h2 c x y) ((ev G cl d σ h2).bind fun z h3 => .opt ((cmpD h3 c' y z).map .bl) h3) (.ok (.bl false) h2) .no := by
  show (ev G cl a σ h).bind _ = _
  congr 1 <;> (
    funext x h1
    congr 1
    funext y h2
    cases cmpD h2 c x y with
    | none => rfl
    | some r => cases r <;> rfl)
@[simp] theorem ev_and (a b : E) : ev G cl (.and a b) σ h = (ev G cl a σ h).bind fun x h1 => pick (truth h1 x) (ev G cl b σ h1) (.ok x h1) .no := by
  show (ev G cl a σ h).bind _ = _
  congr 1 <;> (
    funext x h1
    cases truth h1 x with
    | none => rfl
    | some r => cases r <;> rfl)
@[simp] theorem ev_or (a b : E) : ev G cl (.or a b) σ h = (ev G cl a σ h).bind fun x h1 => pick (truth h1 x) (.ok x h1) (ev G cl b σ h1) .no := by
  show (ev G cl a σ h).bind _ = _
  congr 1 <;> (
    funext x h1
    cases truth h1 x with
    | none => rfl
    | some r => cases r <;> rfl)
@[simp] theorem ev_ite' (c a b : E) : ev G cl (.ite c a b) σ h = (ev G cl c σ h).bind fun x h1 => pick (truth h1 x) (ev G cl a σ h1) (ev G cl b σ h1) .no := by
  show (ev G cl c σ h).bind _ = _
  congr 1 <;> (
    funext x h1
    cases truth h1 x with
    | none => rfl
    | some r => cases r <;> rfl)
@[simp] theorem ev_call (f : Nat) (es : List E) : ev G cl (.call f es) σ h = (evs G cl es σ h).bind fun ds h1 => cl f ds h1 := rfl
def calD (o : Option D) (f : Nat → Res D) : Res D := match o with
  | some (.fn g) => f g
  | _ => .no
@[simp] theorem calD_fn (g : Nat) (f : Nat → Res D) : calD (some (.fn g)) f = f g := rfl
@[simp] theorem ev_cal (i : Nat) (es : List E) : ev G cl (.cal i es) σ h = calD σ[i]?.join fun f => (evs G cl es σ h).bind fun ds h1 => cl f ds h1 := by
  show (match σ[i]?.join with
    | some (.fn f) => (evs G cl es σ h).bind fun ds h1 => cl f ds h1
    | _ => .no) = _
  cases σ[i]?.join with
  | none => rfl
  | some d => cases d <;> rfl
@[simp] theorem ev_blt (f : Bl) (es : List E) : ev G cl (.blt f es) σ h = (evs G cl es σ h).bind fun ds h1 => .opt (blt h1 f ds) h1 := rfl
@[simp] theorem ev_mth (m : Mt) (o : E) (es : List E) : ev G cl (.mth m o es) σ h = (ev G cl o σ h).bind fun x h1 => if (listOf h1 x).isSome then (evs G cl es σ h1).bind fun ds h2 => mth h2 m x ds else .no := rfl
@[simp] theorem ev_ix (a i : E) : ev G cl (.ix a i) σ h = (ev G cl a σ h).bind fun x h1 => (ev G cl i σ h1).bind fun y h2 => .opt (index h2 x y) h2 := rfl
@[simp] theorem ev_sl (a : E) (lo hi : Option E) : ev G cl (.sl a lo hi) σ h = (ev G cl a σ h).bind fun x h1 => (evo G cl lo σ h1).bind fun l h2 => (evo G cl hi σ h2).bind fun u h3 => .opt (slice h3 x l u) h3 := rfl
@[simp] theorem ev_rev (a : E) : ev G cl (.rev a) σ h = (ev G cl a σ h).bind fun x h1 => .opt (revD h1 x) h1 := rfl
/-- one turn of a comprehension -/
def turn (G : Glb) (cl : CallF) (elt : E) (t : T) (ifs : List E) (own : List Nat) (σ : St') (d : D) (h' : AH) : Res (Option D) := match assign t d (wiped σ own) with
  | some σ' => (match evi G cl ifs σ' h' with
    | .ok true h2 => (match ev G cl elt σ' h2 with
      | .ok x h3 => if x.isRef then .no else .ok (some x) h3
      | _ => .no)
    | .ok false h2 => .ok none h2
    | _ => .no)
  | none => .no
def listOut : Res (List D) → Res D
  | .ok ds h => if ds.length ≤ lim then .ok (.lst ds) h else .no
  | .ex e h => .ex e h
  | .no => .no
def comp (G : Glb) (cl : CallF) (elt : E) (t : T) (ifs : List E) (own : List Nat) (σ : St') (o : Option (List D)) (h : AH) : Res D := match o with
  | some xs => listOut (turns (turn G cl elt t ifs own σ) xs h)
  | none => .no
@[simp] theorem comp_some (elt : E) (t : T) (ifs : List E) (own : List Nat) (xs : List D) : comp G cl elt t ifs own σ (some xs) h = listOut (turns (turn G cl elt t ifs own σ) xs h) := rfl
@[simp] theorem ev_cmpr (elt : E) (t : T) (s : Src) (args ifs : List E) (own : List Nat) : ev G cl (.cmpr elt t s args ifs own) σ h = (evs G cl args σ h).bind fun as h1 => comp G cl elt t ifs own σ (items s as) h1 := by
  show (evs G cl args σ h).bind _ = _
  congr 1 <;> (
    funext as h1
    cases items s as with
    | none => rfl
    | some xs =>
      show (turns _ xs h1).bind _ = listOut (turns (turn G cl elt t ifs own σ) xs h1)
      have e : ∀ r : Res (List D), (r.bind fun ds h2 => if ds.length ≤ lim then Res.ok (D.lst ds) h2 else .no) = listOut r := fun r => by cases r <;> rfl
      rw [e]
      rfl)
@[simp] theorem evs_nil : evs G cl [] σ h = .ok [] h := rfl
@[simp] theorem evs_cons (e : E) (es : List E) : evs G cl (e :: es) σ h = (ev G cl e σ h).bind fun x h1 => (evs G cl es σ h1).bind fun xs h2 => .ok (x :: xs) h2 := rfl
@[simp] theorem evo_none : evo G cl none σ h = .ok none h := rfl
@[simp] theorem evo_some (e : E) : evo G cl (some e) σ h = (ev G cl e σ h).bind fun x h1 => .opt (part x) h1 := rfl
@[simp] theorem evi_nil : evi G cl [] σ h = .ok true h := rfl
@[simp] theorem evi_one (e : E) : evi G cl [e] σ h = (ev G cl e σ h).bind fun x h1 => .opt (truth h1 x) h1 := rfl
/-! statements -/
@[simp] theorem exec_expr (e : E) : exec G cl W (.expr e) σ h = (ev G cl e σ h).out σ fun _ h1 => .nx σ h1 := rfl
def stored (o : Option St') (h : AH) : Out := match o with
  | some σ => .nx σ h
  | none => .no
@[simp] theorem stored_some (σ : St') : stored (some σ) h = .nx σ h := rfl
@[simp] theorem exec_asg (t : T) (e : E) : exec G cl W (.asg t e) σ h = (ev G cl e σ h).out σ fun d h1 => stored (assign t d σ) h1 := rfl
def thawD (b : Bool) (d : D) (i : Nat) (σ : St') (h : AH) : Out := match b, d with
  | true, .lst xs => .nx (σ.set i (some (.ref h.length))) (h ++ [.lst xs])
  | _, _ => .no
@[simp] theorem thawD_lst (xs : List D) (i : Nat) : thawD true (.lst xs) i σ h = .nx (σ.set i (some (.ref h.length))) (h ++ [.lst xs]) := rfl
@[simp] theorem exec_thaw (i : Nat) (e : E) : exec G cl W (.thaw i e) σ h = (ev G cl e σ h).out σ fun d h1 => thawD (e.fresh G.fr) d i σ h1 := by
  show (ev G cl e σ h).out σ _ = _
  congr 1 <;> (
    funext d h1
    cases e.fresh G.fr <;> cases d <;> rfl)
@[simp] theorem exec_par (is : List Nat) (fs : List Bool) (es : List E) : exec G cl W (.par is fs es) σ h = (evp G cl fs es σ h).out σ fun ds h1 => .nx (sets is ds σ) h1 := rfl
@[simp] theorem evp_nil : evp G cl [] [] σ h = .ok [] h := rfl
def parD (b : Bool) (d : D) (k : AH → Res (List D)) (h : AH) : Res (List D) := match b, d with
  | true, .lst xs => (k (h ++ [.lst xs])).bind fun ds h2 => .ok (.ref h.length :: ds) h2
  | _, _ => .no
@[simp] theorem parD_lst (xs : List D) (k : AH → Res (List D)) : parD true (.lst xs) k h = (k (h ++ [.lst xs])).bind fun ds h2 => .ok (.ref h.length :: ds) h2 := rfl
@[simp] theorem evp_thaw (e : E) (fs : List Bool) (es : List E) : evp G cl (true :: fs) (e :: es) σ h = (ev G cl e σ h).bind fun d h1 => parD (e.fresh G.fr) d (evp G cl fs es σ) h1 := by
  show (ev G cl e σ h).bind _ = _
  congr 1 <;> (
    funext d h1
    cases e.fresh G.fr <;> cases d <;> rfl)
@[simp] theorem evp_cons (e : E) (fs : List Bool) (es : List E) : evp G cl (false :: fs) (e :: es) σ h = (ev G cl e σ h).bind fun d h1 => (evp G cl fs es σ h1).bind fun ds h2 => .ok (d :: ds) h2 := rfl
def setOut (o : Option AH) (σ : St') : Out := match o with
  | some h => .nx σ h
  | none => .no
@[simp] theorem setOut_some : setOut (some h) σ = .nx σ h := rfl
@[simp] theorem exec_setix (o i v : E) : exec G cl W (.setix o i v) σ h = (ev G cl v σ h).out σ fun x h1 => (ev G cl o σ h1).out σ fun y h2 => (ev G cl i σ h2).out σ fun z h3 => setOut (setIx h3 y z x) σ := by
  show (ev G cl v σ h).out σ _ = _
  congr 1 <;> (
    funext x h1
    congr 1
    funext y h2
    congr 1
    funext z h3
    cases setIx h3 y z x <;> rfl)
@[simp] theorem exec_ite (c : E) (a b : List S) : exec G cl W (.ite c a b) σ h = (ev G cl c σ h).out σ fun x h1 => pick (truth h1 x) (execs G cl W a σ h1) (execs G cl W b σ h1) .no := by
  show (ev G cl c σ h).out σ _ = _
  congr 1 <;> (
    funext x h1
    cases truth h1 x with
    | none => rfl
    | some r => cases r <;> rfl)
def round (G : Glb) (cl : CallF) (W : Nat) (t : T) (body : List S) (d : D) (σ : St') (h : AH) : Out := match assign t d σ with
  | some σ2 => execs G cl W body σ2 h
  | none => .no
def loopO (f : D → St' → AH → Out) (o : Option (List D)) (σ : St') (h : AH) : Out := match o with
  | some xs => loop f xs σ h
  | none => .no
@[simp] theorem loopO_some (f : D → St' → AH → Out) (xs : List D) : loopO f (some xs) σ h = loop f xs σ h := rfl
@[simp] theorem exec_for (t : T) (s : Src) (args : List E) (body : List S) : exec G cl W (.for_ t s args body) σ h = (evs G cl args σ h).out σ fun as h1 => loopO (round G cl W t body) (items s as) σ h1 := by
  show (evs G cl args σ h).out σ _ = _
  congr 1 <;> (
    funext as h1
    cases items s as <;> rfl)
@[simp] theorem exec_ret (e : E) : exec G cl W (.ret e) σ h = (ev G cl e σ h).out σ fun d h1 => .rt d (e.fresh G.fr) h1 := rfl
@[simp] theorem exec_retN : exec G cl W .retN σ h = .rt .non false h := rfl
def raised (c : Nat) (σ : St') (h : AH) : List D → Out
  | [] => .ex ⟨c, none⟩ σ h
  | [d] => if d.isRef then .no else .ex ⟨c, some d⟩ σ h
  | _ => .no
@[simp] theorem raised_nil (c : Nat) : raised c σ h [] = .ex ⟨c, none⟩ σ h := rfl
@[simp] theorem raised_one (c : Nat) (d : D) : raised c σ h [d] = if d.isRef then .no else .ex ⟨c, some d⟩ σ h := rfl
@[simp] theorem exec_raise (c : Nat) (es : List E) : exec G cl W (.raise c es) σ h = (evs G cl es σ h).out σ fun ds h1 => raised c σ h1 ds := by
  show (evs G cl es σ h).out σ _ = _
  congr 1 <;> (
    funext ds h1
    match ds with
    | [] => rfl
    | [d] => rfl
    | _ :: _ :: _ => rfl)
@[simp] theorem exec_pass : exec G cl W .pass σ h = .nx σ h := rfl
@[simp] theorem exec_brk : exec G cl W .brk σ h = .bk σ h := rfl
@[simp] theorem exec_cont : exec G cl W .cont σ h = .ct σ h := rfl
def caught (hs : List Hdl) : Out → Out
  | .ex e σ h => handle e hs σ h
  | o => o
@[simp] theorem caught_ex (hs : List Hdl) (e : Exc) : caught hs (.ex e σ h) = handle e hs σ h := rfl
@[simp] theorem caught_nx (hs : List Hdl) : caught hs (.nx σ h) = .nx σ h := rfl
@[simp] theorem exec_try (b : List S) (hs : List Hdl) : exec G cl W (.try_ b hs) σ h = caught hs (execs G cl W b σ h) := by
  show (match execs G cl W b σ h with
    | .ex e σ1 h1 => handle e hs σ1 h1
    | o => o) = _
  cases execs G cl W b σ h <;> rfl
@[simp] theorem execs_nil : execs G cl W [] σ h = .nx σ h := rfl
/-- what follows a statement -/
def andThen (k : St' → AH → Out) : Out → Out
  | .nx σ h => k σ h
  | o => o
@[simp] theorem andThen_nx (k : St' → AH → Out) : andThen k (.nx σ h) = k σ h := rfl
@[simp] theorem andThen_rt (k : St' → AH → Out) (d : D) (f : Bool) : andThen k (.rt d f h) = .rt d f h := rfl
@[simp] theorem andThen_ex (k : St' → AH → Out) (e : Exc) : andThen k (.ex e σ h) = .ex e σ h := rfl
@[simp] theorem andThen_if (k : St' → AH → Out) (p : Prop) [Decidable p] (a b : Out) : andThen k (if p then a else b) = if p then andThen k a else andThen k b := by split <;> rfl
@[simp] theorem execs_cons (s : S) (ss : List S) : execs G cl W (s :: ss) σ h = andThen (execs G cl W ss) (exec G cl W s σ h) := by
  show (match exec G cl W s σ h with
    | .nx σ1 h1 => execs G cl W ss σ1 h1
    | o => o) = _
  cases exec G cl W s σ h <;> rfl
@[simp] theorem close_if (b : Nat) (fr : Bool) (p : Prop) [Decidable p] (x y : Out) : close b fr (if p then x else y) = if p then close b fr x else close b fr y := by split <;> rfl
@[simp] theorem close_ex (b : Nat) (fr : Bool) (e : Exc) : close b fr (.ex e σ h) = .ex e (h.take b) := rfl
theorem close_rt (d : D) (f : Bool) (hd : d.isRef = false) : close h.length false (.rt d f h) = .ok d h := by
  cases d <;> first | (simp [close]; done) | cases hd
@[simp] theorem close_bl (b f : Bool) : close h.length false (.rt (.bl b) f h) = .ok (.bl b) h := close_rt _ _ rfl
@[simp] theorem close_int (i : Int) (f : Bool) : close h.length false (.rt (.int i) f h) = .ok (.int i) h := close_rt _ _ rfl
@[simp] theorem close_tup (ds : List D) (f : Bool) : close h.length false (.rt (.tup ds) f h) = .ok (.tup ds) h := close_rt _ _ rfl
@[simp] theorem close_lst (ds : List D) (f : Bool) : close h.length false (.rt (.lst ds) f h) = .ok (.lst ds) h := close_rt _ _ rfl
@[simp] theorem close_non (f : Bool) : close h.length false (.rt .non f h) = .ok .non h := close_rt _ _ rfl
@[simp] theorem close_str (z : PySem.Str) (f : Bool) : close h.length false (.rt (.str z) f h) = .ok (.str z) h := close_rt _ _ rfl
@[simp] theorem bind_if {α β : Type} (p : Prop) [Decidable p] (x y : Res α) (f : α → AH → Res β) : (if p then x else y).bind f = if p then x.bind f else y.bind f := by split <;> rfl
@[simp] theorem out_if {α : Type} (p : Prop) [Decidable p] (x y : Res α) (f : α → AH → Out) : (if p then x else y).out σ f = if p then x.out σ f else y.out σ f := by split <;> rfl
end
end Rf
/-! Rf27 -/
set_option maxHeartbeats 1000000
namespace Rf
open PySem
theorem prg_codes {t : Text} {codes : List Def} (h : t.ds.map (Dn.df t.gl) = codes) (W : Nat) : t.prg W = prgOf codes t.cs W := by
  subst h
  unfold Text.prg prgOf
  have e1 : (fun f : Nat => ((t.ds[f]?).map (Dn.fresh)).getD false) = fun f : Nat => (((t.ds.map (Dn.df t.gl))[f]?).map (Def.fresh)).getD false := by
    funext f
    rw [List.getElem?_map, Option.map_map]
    rfl
  have e2 : (fun f : Nat => (t.ds[f]?).map (Dn.df t.gl)) = fun f : Nat => (t.ds.map (Dn.df t.gl))[f]? := by
    funext f
    rw [List.getElem?_map]
  rw [e1, e2]
end Rf
/-! K01d -/
set_option maxHeartbeats 0
namespace K01
open PySem Rf
def csd : List (Str × D) := [("STEPS", .tup [.tup [.int (1), .int (0)], .tup [.int (0), .int (1)], .tup [.int (-1), .int (0)], .tup [.int (0), .int (-1)]])]
/-- is_number -/
def c0 : Def := ⟨1, 1, [.ret (.and (.blt .isInt [(.var 0)]) (.not (.blt .isBool [(.var 0)])))], false⟩
/-- is_from -/
def c1 : Def := ⟨2, 2, [.ret (.and (.call 0 [(.var 0)]) (.cmp .ge (.var 0) (.var 1)))], false⟩
/-- is_long -/
def c2 : Def := ⟨2, 2, [.ret (.and (.blt .isTuple [(.var 0)]) (.cmp .eq (.blt .len [(.var 0)]) (.var 1)))], false⟩
/-- tupled -/
def c3 : Def := ⟨1, 2, [.ret (.ite (.blt .isListTuple [(.var 0)]) (.blt .tuple [(.cmpr (.call 3 [(.var 1)]) (.nm 1) .it [(.var 0)] [] [1])]) (.var 0))], false⟩
/-- are_numbers -/
def c4 : Def := ⟨1, 2, [.ret (.and (.blt .isTuple [(.var 0)]) (.blt .all [(.cmpr (.call 0 [(.var 1)]) (.nm 1) .it [(.var 0)] [] [1])]))], false⟩
/-- is_pair -/
def c5 : Def := ⟨1, 1, [.ret (.and (.call 2 [(.var 0), (.con (.int 2))]) (.call 4 [(.var 0)]))], false⟩
/-- is_floor -/
def c6 : Def := ⟨1, 1, [.ret (.and (.call 2 [(.var 0), (.con (.int 2))]) (.and (.call 1 [(.ix (.var 0) (.con (.int 0))), (.con (.int 1))]) (.call 1 [(.ix (.var 0) (.con (.int 1))), (.con (.int 1))])))], false⟩
/-- sure_floor -/
def c7 : Def := ⟨1, 2, [.asg (.nm 1) (.call 3 [(.var 0)]), .ite (.not (.call 6 [(.var 1)])) [.raise 8 []] [], .ret (.var 1)], false⟩
/-- is_cell_in -/
def c8 : Def := ⟨2, 2, [.ret (.and (.call 5 [(.var 1)]) (.and (.chn .le .lt (.con (.int 0)) (.ix (.var 1) (.con (.int 0))) (.bin .mul (.con (.int 4)) (.ix (.var 0) (.con (.int 0))))) (.chn .le .lt (.con (.int 0)) (.ix (.var 1) (.con (.int 1))) (.bin .mul (.con (.int 4)) (.ix (.var 0) (.con (.int 1)))))))], false⟩
/-- is_block_in -/
def c9 : Def := ⟨2, 2, [.ret (.and (.call 5 [(.var 1)]) (.and (.chn .le .lt (.con (.int 0)) (.ix (.var 1) (.con (.int 0))) (.bin .mul (.con (.int 2)) (.ix (.var 0) (.con (.int 0))))) (.chn .le .lt (.con (.int 0)) (.ix (.var 1) (.con (.int 1))) (.bin .mul (.con (.int 2)) (.ix (.var 0) (.con (.int 1)))))))], false⟩
/-- sure_block -/
def c10 : Def := ⟨2, 3, [.asg (.nm 2) (.call 3 [(.var 1)]), .ite (.not (.call 5 [(.var 2)])) [.raise 8 []] [], .ite (.not (.call 9 [(.var 0), (.var 2)])) [.raise 0 [(.var 2)]] [], .ret (.var 2)], false⟩
/-- is_piece -/
def c11 : Def := ⟨1, 1, [.ret (.and (.call 2 [(.var 0), (.con (.int 3))]) (.and (.call 4 [(.var 0)]) (.chn .le .le (.con (.int 0)) (.ix (.var 0) (.con (.int 2))) (.con (.int 3)))))], false⟩
/-- sure_piece -/
def c12 : Def := ⟨1, 2, [.asg (.nm 1) (.call 3 [(.var 0)]), .ite (.not (.call 11 [(.var 1)])) [.raise 8 []] [], .ret (.var 1)], false⟩
/-- beside -/
def c13 : Def := ⟨2, 4, [.asg (.tp [(.nm 2), (.nm 3)]) (.ix (.glb 0) (.bin .mod (.var 1) (.con (.int 4)))), .ret (.tup [(.bin .add (.ix (.var 0) (.con (.int 0))) (.var 2)), (.bin .add (.ix (.var 0) (.con (.int 1))) (.var 3))])], false⟩
/-- cells_in -/
def c14 : Def := ⟨1, 3, [.par [1, 2] [false, false] [(.sl (.var 0) none (some (.con (.int 2)))), (.ix (.var 0) (.con (.int 2)))], .ret (.blt .tuple [(.blt .sorted [(.lst [(.var 1), (.call 13 [(.var 1), (.var 2)]), (.call 13 [(.var 1), (.bin .add (.var 2) (.con (.int 1)))]), (.call 13 [(.var 1), (.bin .sub (.var 2) (.con (.int 1)))])])])])], false⟩
/-- middle_by -/
def c15 : Def := ⟨2, 4, [.par [2, 3] [false, false] [(.bin .sub (.bin .mul (.con (.int 2)) (.bin .mod (.ix (.var 0) (.con (.int 0))) (.con (.int 2)))) (.con (.int 1))), (.bin .sub (.bin .mul (.con (.int 2)) (.bin .mod (.ix (.var 0) (.con (.int 1))) (.con (.int 2)))) (.con (.int 1)))], .ret (.tup [(.bin .add (.bin .mul (.con (.int 2)) (.ix (.var 0) (.con (.int 0)))) (.blt .int [(.cmp .eq (.bin .mul (.var 3) (.var 1)) (.neg (.con (.int 1))))])), (.bin .add (.bin .mul (.con (.int 2)) (.ix (.var 0) (.con (.int 1)))) (.blt .int [(.cmp .eq (.bin .mul (.var 2) (.var 1)) (.con (.int 1)))]))])], false⟩
/-- own_block_in -/
def c16 : Def := ⟨1, 1, [.ret (.tup [(.bin .fdiv (.ix (.var 0) (.con (.int 0))) (.con (.int 2))), (.bin .fdiv (.ix (.var 0) (.con (.int 1))) (.con (.int 2)))])], false⟩
/-- sign_in -/
def c17 : Def := ⟨1, 3, [.asg (.nm 1) (.call 16 [(.var 0)]), .for_ (.nm 2) .it [(.tup [(.con (.int 1)), (.neg (.con (.int 1)))])] [.ite (.cmp .eq (.call 15 [(.var 1), (.var 2)]) (.sl (.var 0) none (some (.con (.int 2))))) [.ret (.var 2)] []], .ret (.con (.int 0))], false⟩
/-- outward -/
def c18 : Def := ⟨1, 1, [.ret (.bin .sub (.bin .mul (.con (.int 2)) (.bin .mod (.var 0) (.con (.int 2)))) (.con (.int 1)))], false⟩
/-- goes_in -/
def c19 : Def := ⟨1, 3, [.asg (.tp [(.nm 1), (.nm 2)]) (.call 16 [(.var 0)]), .ite (.cmp .eq (.bin .mod (.ix (.var 0) (.con (.int 2))) (.con (.int 2))) (.con (.int 1))) [.ret (.tup [(.bin .add (.var 1) (.call 18 [(.ix (.var 0) (.con (.int 0)))])), (.var 2)])] [], .ret (.tup [(.var 1), (.bin .add (.var 2) (.call 18 [(.ix (.var 0) (.con (.int 1)))]))])], false⟩
/-- stem_by -/
def c20 : Def := ⟨2, 2, [.ite (.var 1) [.ret (.ite (.cmp .eq (.bin .mod (.ix (.var 0) (.con (.int 1))) (.con (.int 2))) (.con (.int 0))) (.con (.int 1)) (.con (.int 3)))] [], .ret (.ite (.cmp .eq (.bin .mod (.ix (.var 0) (.con (.int 0))) (.con (.int 2))) (.con (.int 0))) (.con (.int 0)) (.con (.int 2)))], false⟩
/-- is_of_block -/
def c21 : Def := ⟨2, 3, [.ite (.or (.not (.call 11 [(.var 1)])) (.or (.cmp .eq (.call 17 [(.var 1)]) (.con (.int 0))) (.cmp .ne (.ix (.var 1) (.con (.int 2))) (.call 20 [(.sl (.var 1) none (some (.con (.int 2)))), (.cmp .eq (.bin .mod (.ix (.var 1) (.con (.int 2))) (.con (.int 2))) (.con (.int 1)))])))) [.ret (.con (.bl false))] [], .ret (.blt .all [(.cmpr (.call 8 [(.var 0), (.var 2)]) (.nm 2) .it [(.call 14 [(.var 1)])] [] [2])])], false⟩
/-- piece_out -/
def c22 : Def := ⟨3, 4, [.asg (.nm 3) (.call 15 [(.var 0), (.var 1)]), .ret (.tup [(.ix (.var 3) (.con (.int 0))), (.ix (.var 3) (.con (.int 1))), (.call 20 [(.var 3), (.var 2)])])], false⟩
/-- four_in -/
def c23 : Def := ⟨2, 5, [.asg (.nm 2) (.bin .add (.cmpr (.call 22 [(.var 1), (.var 3), (.con (.bl true))]) (.nm 3) .it [(.tup [(.con (.int 1)), (.neg (.con (.int 1)))])] [] [3]) (.cmpr (.call 22 [(.var 1), (.var 3), (.con (.bl false))]) (.nm 3) .it [(.tup [(.con (.int 1)), (.neg (.con (.int 1)))])] [] [3])), .ret (.blt .sorted [(.cmpr (.var 4) (.nm 4) .it [(.var 2)] [(.call 9 [(.var 0), (.call 19 [(.var 4)])])] [4])])], false⟩
/-- tie_in -/
def c24 : Def := ⟨2, 7, [.par [2, 3] [false, false] [(.call 16 [(.var 1)]), (.call 19 [(.var 1)])], .par [4, 5, 6] [false, false, false] [(.tup [(.bin .fdiv (.ix (.var 2) (.con (.int 0))) (.con (.int 2))), (.bin .fdiv (.ix (.var 2) (.con (.int 1))) (.con (.int 2)))]), (.tup [(.bin .fdiv (.ix (.var 3) (.con (.int 0))) (.con (.int 2))), (.bin .fdiv (.ix (.var 3) (.con (.int 1))) (.con (.int 2)))]), (.con (.str "tied"))], .ite (.cmp .eq (.var 4) (.var 5)) [.asg (.nm 6) (.con (.str "cut")), .asg (.nm 5) (.ite (.cmp .eq (.bin .mod (.ix (.var 1) (.con (.int 2))) (.con (.int 2))) (.con (.int 1))) (.tup [(.ix (.var 4) (.con (.int 0))), (.bin .add (.ix (.var 4) (.con (.int 1))) (.call 18 [(.ix (.var 1) (.con (.int 1)))]))]) (.tup [(.bin .add (.ix (.var 4) (.con (.int 0))) (.call 18 [(.ix (.var 1) (.con (.int 0)))])), (.ix (.var 4) (.con (.int 1)))]))] [], .ite (.or (.not (.chn .le .lt (.con (.int 0)) (.ix (.var 5) (.con (.int 0))) (.ix (.var 0) (.con (.int 0))))) (.not (.chn .le .lt (.con (.int 0)) (.ix (.var 5) (.con (.int 1))) (.ix (.var 0) (.con (.int 1)))))) [.ret (.con .non)] [], .ret (.tup [(.tup [(.blt .min [(.var 4), (.var 5)]), (.blt .max [(.var 4), (.var 5)])]), (.var 6)])], false⟩
/-- sure_lying -/
def c25 : Def := ⟨2, 4, [.par [2, 3] [false, false] [(.call 7 [(.var 0)]), (.call 12 [(.var 1)])], .ite (.not (.call 21 [(.var 2), (.var 3)])) [.raise 6 []] [], .ret (.tup [(.var 2), (.var 3)])], false⟩
/-- cells_of -/
def c26 : Def := ⟨1, 1, [.ret (.call 14 [(.call 12 [(.var 0)])])], false⟩
/-- on_floor -/
def c27 : Def := ⟨2, 4, [.asg (.nm 2) (.call 7 [(.var 0)]), .ret (.blt .all [(.cmpr (.call 8 [(.var 2), (.var 3)]) (.nm 3) .it [(.call 14 [(.call 12 [(.var 1)])])] [] [3])])], false⟩
/-- four_of -/
def c28 : Def := ⟨2, 3, [.asg (.nm 2) (.call 7 [(.var 0)]), .ret (.blt .tuple [(.call 23 [(.var 2), (.call 10 [(.var 2), (.var 1)])])])], false⟩
/-- can_lie -/
def c29 : Def := ⟨2, 3, [.asg (.nm 2) (.call 7 [(.var 0)]), .ret (.call 21 [(.var 2), (.call 12 [(.var 1)])])], false⟩
/-- own_block -/
def c30 : Def := ⟨2, 2, [.ret (.call 16 [(.ix (.call 25 [(.var 0), (.var 1)]) (.con (.int 1)))])], false⟩
/-- left_out -/
def c31 : Def := ⟨2, 3, [.asg (.nm 2) (.ix (.call 25 [(.var 0), (.var 1)]) (.con (.int 1))), .ret (.call 15 [(.call 16 [(.var 2)]), (.neg (.call 17 [(.var 2)]))])], false⟩
/-- goes_to -/
def c32 : Def := ⟨2, 2, [.ret (.call 19 [(.ix (.call 25 [(.var 0), (.var 1)]) (.con (.int 1)))])], false⟩
/-- sign_of -/
def c33 : Def := ⟨2, 2, [.ret (.call 17 [(.ix (.call 25 [(.var 0), (.var 1)]) (.con (.int 1)))])], false⟩
/-- tie_told -/
def c34 : Def := ⟨2, 4, [.asg (.tp [(.nm 2), (.nm 3)]) (.call 25 [(.var 0), (.var 1)]), .ret (.call 24 [(.var 2), (.var 3)])], false⟩
/-- piece_to -/
def c35 : Def := ⟨3, 8, [.asg (.nm 3) (.call 7 [(.var 0)]), .ite (.not (.blt .all [(.cmpr (.and (.call 2 [(.var 7), (.con (.int 2))]) (.call 4 [(.var 7)])) (.nm 7) .it [(.tup [(.call 3 [(.var 1)]), (.call 3 [(.var 2)])])] [] [7])])) [.raise 8 []] [], .par [5, 6] [false, false] [(.call 10 [(.var 3), (.var 1)]), (.call 10 [(.var 3), (.var 2)])], .for_ (.nm 4) .it [(.call 23 [(.var 3), (.var 5)])] [.ite (.cmp .eq (.call 19 [(.var 4)]) (.var 6)) [.ret (.var 4)] []], .raise 6 []], false⟩
/-- _law_box -/
def c36 : Def := ⟨2, 3, [.asg (.nm 2) (.ite (.cmp .lt (.var 1) (.blt .len [(.var 0)])) (.ix (.var 0) (.var 1)) (.con (.int 0))), .ret (.lst [(.bin .mul (.blt .abs [(.var 2)]) (.blt .int [(.cmp .ge (.blt .abs [(.var 2)]) (.bin .pow (.con (.int 10)) (.con (.int 18))))])), (.bin .add (.bin .add (.bin .mod (.blt .int [(.var 2)]) (.con (.int 2305843009213693951))) (.bin .mul (.con (.int 39373)) (.var 1))) (.con (.int 3193501))), (.con (.int 0))])], true⟩
/-- _law_take -/
def c37 : Def := ⟨2, 6, [.ite (.cmp .gt (.ix (.var 0) (.con (.int 0))) (.con (.int 0))) [.asg (.nm 5) (.bin .mod (.blt .int [(.ix (.var 0) (.con (.int 0)))]) (.var 1)), .setix (.var 0) (.con (.int 0)) (.bin .fdiv (.ix (.var 0) (.con (.int 0))) (.var 1)), .ret (.var 5)] [], .setix (.var 0) (.con (.int 2)) (.bin .add (.ix (.var 0) (.con (.int 2))) (.con (.int 1))), .asg (.nm 2) (.bin .mod (.blt .int [(.bin .mul (.bin .add (.ix (.var 0) (.con (.int 1))) (.bin .mul (.con (.int 48271)) (.ix (.var 0) (.con (.int 2))))) (.bin .add (.con (.int 39373)) (.ix (.var 0) (.con (.int 2)))))]) (.con (.int 2147483647))), .asg (.nm 3) (.bin .add (.bin .mod (.blt .int [(.var 2)]) (.con (.int 40009))) (.con (.int 7))), .asg (.nm 4) (.bin .mod (.blt .int [(.bin .mul (.bin .add (.bin .add (.var 2) (.ix (.var 0) (.con (.int 2)))) (.bin .fdiv (.ix (.var 0) (.con (.int 1))) (.con (.int 1000003)))) (.var 3))]) (.con (.int 2147483629))), .ret (.bin .mod (.blt .int [(.bin .fdiv (.bin .mod (.blt .int [(.bin .add (.bin .mul (.var 4) (.con (.int 48271))) (.var 2))]) (.con (.int 2147483587))) (.con (.int 64)))]) (.var 1))], false⟩
/-- _law_cells -/
def c38 : Def := ⟨2, 6, [.thaw 2 (.or (.blt .list [(.sl (.var 0) none (some (.var 1)))]) (.lst [(.con (.int 0))])), .for_ (.tp [(.nm 3), (.nm 4)]) .enm [(.sl (.var 0) (some (.var 1)) (some (.con (.int 63))))] [.asg (.nm 5) (.bin .mod (.blt .int [(.var 3)]) (.var 1)), .setix (.var 2) (.var 5) (.bin .add (.ix (.var 2) (.var 5)) (.bin .mul (.var 4) (.bin .add (.var 3) (.con (.int 2)))))], .ret (.var 2)], false⟩
/-- _law_of -/
def c39 : Def := ⟨2, 2, [.ret (.ix (.var 1) (.call 37 [(.var 0), (.blt .len [(.var 1)])]))], false⟩
/-- _law_pick -/
def c40 : Def := ⟨3, 6, [.par [4, 5] [true, true] [(.blt .list [(.var 1)]), (.lst [])], .for_ (.nm 3) .rng1 [(.blt .min [(.blt .int [(.var 2)]), (.blt .len [(.var 4)])])] [.expr (.mth .append (.var 5) [(.mth .popAt (.var 4) [(.call 37 [(.var 0), (.blt .len [(.var 4)])])])])], .ret (.var 5)], false⟩
/-- _law_lists -/
def c41 : Def := ⟨1, 2, [.ret (.ite (.blt .isListTuple [(.var 0)]) (.cmpr (.call 41 [(.var 1)]) (.nm 1) .it [(.var 0)] [] [1]) (.var 0))], false⟩
/-- _law_same -/
def c42 : Def := ⟨2, 4, [.ite (.blt .isListTuple [(.var 1)]) [.ite (.or (.cmp .ne (.blt .isList [(.var 0)]) (.blt .isList [(.var 1)])) (.cmp .ne (.blt .isTuple [(.var 0)]) (.blt .isTuple [(.var 1)]))) [.ret (.con (.bl false))] [], .ret (.and (.cmp .eq (.blt .len [(.var 0)]) (.blt .len [(.var 1)])) (.blt .all [(.cmpr (.call 42 [(.var 2), (.var 3)]) (.tp [(.nm 2), (.nm 3)]) .zip [(.var 0), (.var 1)] [] [2, 3])]))] [], .ite (.cmp .is (.var 1) (.con .non)) [.ret (.cmp .is (.var 0) (.con .non))] [], .ite (.blt .isBoolStr [(.var 1)]) [.ret (.and (.cmp .eq (.blt .isBool [(.var 0)]) (.blt .isBool [(.var 1)])) (.and (.cmp .eq (.blt .isStr [(.var 0)]) (.blt .isStr [(.var 1)])) (.cmp .eq (.var 0) (.var 1))))] [], .ret (.and (.blt .isInt [(.var 0)]) (.and (.not (.blt .isBool [(.var 0)])) (.cmp .eq (.var 0) (.var 1))))], false⟩
/-- _law_off -/
def c43 : Def := ⟨1, 1, [.ret (.ix (.lst [(.tup [(.con (.int 1)), (.con (.int 0))]), (.tup [(.con (.int 0)), (.con (.int 1))]), (.tup [(.neg (.con (.int 1))), (.con (.int 0))]), (.tup [(.con (.int 0)), (.neg (.con (.int 1)))])]) (.bin .mod (.blt .int [(.var 0)]) (.con (.int 4))))], false⟩
/-- _law_cells_of -/
def c44 : Def := ⟨1, 7, [.asg (.tp [(.nm 3), (.nm 4), (.nm 5)]) (.var 0), .thaw 1 (.lst [(.tup [(.var 3), (.var 4)])]), .for_ (.nm 2) .it [(.tup [(.con (.int 0)), (.con (.int 1)), (.con (.int 3))])] [.asg (.nm 6) (.call 43 [(.bin .add (.var 5) (.var 2))]), .expr (.mth .append (.var 1) [(.tup [(.bin .add (.var 3) (.ix (.var 6) (.con (.int 0)))), (.bin .add (.var 4) (.ix (.var 6) (.con (.int 1))))])])], .ret (.var 1)], false⟩
/-- _law_plots -/
def c45 : Def := ⟨1, 4, [.asg (.nm 1) (.lst []), .for_ (.nm 2) .rng1 [(.bin .mul (.con (.int 2)) (.ix (.var 0) (.con (.int 0))))] [.asg (.nm 1) (.bin .add (.var 1) (.cmpr (.tup [(.var 2), (.var 3)]) (.nm 3) .rng1 [(.bin .mul (.con (.int 2)) (.ix (.var 0) (.con (.int 1))))] [] [3]))], .ret (.var 1)], false⟩
/-- _law_call -/
def c46 : Def := ⟨2, 3, [.asg (.nm 2) (.blt .len [(.var 1)]), .ite (.cmp .eq (.var 2) (.con (.int 1))) [.ret (.cal 0 [(.ix (.var 1) (.con (.int 0)))])] [], .ite (.cmp .eq (.var 2) (.con (.int 2))) [.ret (.cal 0 [(.ix (.var 1) (.con (.int 0))), (.ix (.var 1) (.con (.int 1)))])] [], .ite (.cmp .eq (.var 2) (.con (.int 3))) [.ret (.cal 0 [(.ix (.var 1) (.con (.int 0))), (.ix (.var 1) (.con (.int 1))), (.ix (.var 1) (.con (.int 2)))])] [], .ite (.cmp .eq (.var 2) (.con (.int 4))) [.ret (.cal 0 [(.ix (.var 1) (.con (.int 0))), (.ix (.var 1) (.con (.int 1))), (.ix (.var 1) (.con (.int 2))), (.ix (.var 1) (.con (.int 3)))])] [], .ret (.cal 0 [(.ix (.var 1) (.con (.int 0))), (.ix (.var 1) (.con (.int 1))), (.ix (.var 1) (.con (.int 2))), (.ix (.var 1) (.con (.int 3))), (.ix (.var 1) (.con (.int 4)))])], false⟩
/-- _law_told -/
def c47 : Def := ⟨2, 4, [.try_ [.asg (.nm 2) (.call 46 [(.var 0), (.var 1)])] [⟨8, none, 2, .l [some (.str "unfit"), some (.bl true)]⟩, ⟨6, none, 2, .l [some (.str "can not"), some (.bl true)]⟩, ⟨7, none, 2, .l [some (.str "many"), some (.bl true)]⟩, ⟨4, (some 3), 2, .l [some (.str "bad"), none]⟩, ⟨5, (some 3), 2, .l [some (.str "broken"), none]⟩, ⟨0, (some 3), 2, .l [some (.str "no block"), none]⟩, ⟨1, (some 3), 2, .l [some (.str "no cell"), none]⟩, ⟨2, (some 3), 2, .l [some (.str "no face"), none]⟩, ⟨3, (some 3), 2, .l [some (.str "no tie"), none]⟩], .ret (.var 2)], false⟩
/-- _law_deck -/
def c48 : Def := ⟨2, 4, [.asg (.nm 2) (.bin .add (.con (.int 1)) (.call 37 [(.var 0), (.blt .min [(.lst [(.con (.int 8)), (.var 1)])])])), .asg (.nm 3) (.bin .add (.con (.int 1)) (.call 37 [(.var 0), (.blt .min [(.lst [(.con (.int 8)), (.bin .fdiv (.var 1) (.var 2))])])])), .ret (.call 39 [(.var 0), (.lst [(.tup [(.var 2), (.var 3)]), (.tup [(.var 3), (.var 2)])])])], false⟩
/-- _law_set -/
def c49 : Def := ⟨1, 1, [.ret (.blt .tuple [(.blt .setsort [(.var 0)])])], false⟩
/-- _law_look -/
def c50 : Def := ⟨1, 15, [.asg (.nm 1) (.call 44 [(.var 0)]), .asg (.nm 2) (.cmpr (.tup [(.bin .fdiv (.ix (.var 13) (.con (.int 0))) (.con (.int 2))), (.bin .fdiv (.ix (.var 13) (.con (.int 1))) (.con (.int 2)))]) (.nm 13) .it [(.var 1)] [] [13]), .asg (.nm 3) (.ix (.var 2) (.con (.int 0))), .ite (.cmp .ne (.mth .count (.var 2) [(.var 3)]) (.con (.int 3))) [.ret (.con .non)] [], .asg (.tp [(.nm 7), (.nm 8)]) (.var 3), .par [9, 10] [false, false] [(.cmp .eq (.bin .mod (.ix (.var 0) (.con (.int 0))) (.con (.int 2))) (.con (.int 1))), (.cmp .eq (.bin .mod (.ix (.var 0) (.con (.int 1))) (.con (.int 2))) (.con (.int 1)))], .par [11, 12] [false, false] [(.bin .sub (.bin .mul (.con (.int 2)) (.bin .mod (.var 7) (.con (.int 2)))) (.con (.int 1))), (.bin .sub (.bin .mul (.con (.int 2)) (.bin .mod (.var 8) (.con (.int 2)))) (.con (.int 1)))], .asg (.nm 4) (.ite (.var 9) (.neg (.var 12)) (.var 12)), .ite (.cmp .ne (.cmp .eq (.bin .mul (.var 11) (.var 4)) (.con (.int 1))) (.var 10)) [.ret (.con .non)] [], .asg (.nm 5) (.ix (.cmpr (.var 13) (.nm 13) .it [(.var 2)] [(.cmp .ne (.var 13) (.var 3))] [13]) (.con (.int 0))), .asg (.nm 6) (.cmpr (.tup [(.bin .add (.bin .mul (.con (.int 2)) (.var 7)) (.bin .mod (.var 14) (.con (.int 2)))), (.bin .add (.bin .mul (.con (.int 2)) (.var 8)) (.bin .fdiv (.var 14) (.con (.int 2))))]) (.nm 14) .rng1 [(.con (.int 4))] [] [14]), .ret (.tup [(.var 3), (.var 4), (.var 5), (.ix (.cmpr (.var 13) (.nm 13) .it [(.var 6)] [(.cmp .notin (.var 13) (.var 1))] [13]) (.con (.int 0)))])], false⟩
/-- _law_tie_of -/
def c51 : Def := ⟨2, 15, [.asg (.tp [(.nm 3), (.nm 4), (.nm 5), (.nm 6)]) (.call 50 [(.var 1)]), .par [7, 8] [false, false] [(.tup [(.bin .fdiv (.ix (.var 3) (.con (.int 0))) (.con (.int 2))), (.bin .fdiv (.ix (.var 3) (.con (.int 1))) (.con (.int 2)))]), (.tup [(.bin .fdiv (.ix (.var 5) (.con (.int 0))) (.con (.int 2))), (.bin .fdiv (.ix (.var 5) (.con (.int 1))) (.con (.int 2)))])], .ite (.cmp .ne (.var 8) (.var 7)) [.ret (.tup [(.tup [(.blt .min [(.var 7), (.var 8)]), (.blt .max [(.var 7), (.var 8)])]), (.con (.str "tied"))])] [], .asg (.tp [(.nm 9), (.nm 10), (.nm 11)]) (.var 1), .for_ (.nm 2) .rng1 [(.con (.int 4))] [.asg (.nm 12) (.call 43 [(.var 2)]), .asg (.nm 13) (.tup [(.bin .fdiv (.bin .add (.var 9) (.ix (.var 12) (.con (.int 0)))) (.con (.int 2))), (.bin .fdiv (.bin .add (.var 10) (.ix (.var 12) (.con (.int 1)))) (.con (.int 2)))]), .ite (.and (.cmp .ne (.var 13) (.var 3)) (.cmp .ne (.var 13) (.var 5))) [.asg (.nm 8) (.tup [(.bin .fdiv (.ix (.var 13) (.con (.int 0))) (.con (.int 2))), (.bin .fdiv (.ix (.var 13) (.con (.int 1))) (.con (.int 2)))]), .asg (.nm 14) (.and (.chn .le .lt (.con (.int 0)) (.ix (.var 8) (.con (.int 0))) (.ix (.var 0) (.con (.int 0)))) (.chn .le .lt (.con (.int 0)) (.ix (.var 8) (.con (.int 1))) (.ix (.var 0) (.con (.int 1))))), .ret (.ite (.var 14) (.tup [(.tup [(.blt .min [(.var 7), (.var 8)]), (.blt .max [(.var 7), (.var 8)])]), (.con (.str "cut"))]) (.con .non))] []], .ret (.con .non)], false⟩
/-- _law_lies -/
def c52 : Def := ⟨2, 4, [.asg (.nm 2) (.cmp .eq (.cmpr (.var 3) (.nm 3) .it [(.call 44 [(.var 1)])] [(.not (.and (.chn .le .lt (.con (.int 0)) (.ix (.var 3) (.con (.int 0))) (.bin .mul (.con (.int 4)) (.ix (.var 0) (.con (.int 0))))) (.chn .le .lt (.con (.int 0)) (.ix (.var 3) (.con (.int 1))) (.bin .mul (.con (.int 4)) (.ix (.var 0) (.con (.int 1)))))))] [3]) (.lst [])), .ret (.tup [(.var 2), (.and (.var 2) (.cmp .isnot (.call 50 [(.var 1)]) (.con .non)))])], false⟩
/-- _law_right -/
def c53 : Def := ⟨1, 22, [.asg (.nm 1) (.call 48 [(.var 0), (.con (.int 64))]), .asg (.tp [(.nm 5), (.nm 6)]) (.var 1), .asg (.nm 2) (.cmpr (.tup [(.bin .sub (.call 37 [(.var 0), (.bin .add (.bin .mul (.con (.int 4)) (.var 5)) (.con (.int 2)))]) (.con (.int 1))), (.bin .sub (.call 37 [(.var 0), (.bin .add (.bin .mul (.con (.int 4)) (.var 6)) (.con (.int 2)))]) (.con (.int 1))), (.call 37 [(.var 0), (.con (.int 4))])]) (.nm 13) .rng1 [(.con (.int 7))] [] [13]), .asg (.nm 2) (.bin .add (.bin .add (.var 2) (.cmpr (.tup [(.bin .add (.bin .mul (.call 37 [(.var 0), (.bin .mul (.con (.int 2)) (.var 5))]) (.con (.int 2))) (.call 37 [(.var 0), (.con (.int 2))])), (.bin .add (.bin .mul (.call 37 [(.var 0), (.bin .mul (.con (.int 2)) (.var 6))]) (.con (.int 2))) (.call 37 [(.var 0), (.con (.int 2))])), (.call 37 [(.var 0), (.con (.int 4))])]) (.nm 13) .rng1 [(.con (.int 5))] [] [13])) (.lst [(.tup [(.con (.int 999999)), (.neg (.con (.int 7))), (.con (.int 3))])])), .for_ (.nm 3) .it [(.var 2)] [.asg (.tp [(.nm 14), (.nm 15)]) (.call 52 [(.var 1), (.var 3)]), .ite (.not (.call 42 [(.lst [(.call 11 [(.var 3)]), (.call 26 [(.blt .list [(.var 3)])]), (.call 27 [(.var 1), (.var 3)]), (.call 29 [(.var 1), (.var 3)])]), (.lst [(.con (.bl true)), (.call 49 [(.call 44 [(.var 3)])]), (.var 14), (.var 15)])])) [.ret (.con (.bl false))] [], .asg (.nm 7) (.cmpr (.call 47 [(.var 17), (.tup [(.var 1), (.var 3)])]) (.nm 17) .it [(.tup [(.fnm 30), (.fnm 31), (.fnm 32), (.fnm 33), (.fnm 34)])] [] [17]), .ite (.var 15) [.asg (.tp [(.nm 4), (.nm 18), (.nm 19), (.nm 20)]) (.call 50 [(.var 3)]), .asg (.nm 16) (.lst [(.var 4), (.var 20), (.var 19), (.var 18), (.call 51 [(.var 1), (.var 3)])])] [.asg (.nm 16) (.bin .mul (.lst [(.lst [(.con (.str "can not")), (.con (.bl true))])]) (.con (.int 5)))], .ite (.not (.call 42 [(.var 7), (.var 16)])) [.ret (.con (.bl false))] []], .for_ (.nm 4) .it [(.bin .add (.call 40 [(.var 0), (.call 45 [(.var 1)]), (.con (.int 3))]) (.lst [(.tup [(.con (.int 0)), (.con (.int 0))]), (.tup [(.bin .sub (.bin .mul (.con (.int 2)) (.var 5)) (.con (.int 1))), (.con (.int 0))])]))] [.asg (.nm 8) (.cmpr (.tup [(.bin .add (.bin .mul (.con (.int 2)) (.ix (.var 4) (.con (.int 0)))) (.bin .fdiv (.var 13) (.con (.int 8)))), (.bin .add (.bin .mul (.con (.int 2)) (.ix (.var 4) (.con (.int 1)))) (.bin .mod (.bin .fdiv (.var 13) (.con (.int 4))) (.con (.int 2)))), (.bin .mod (.var 13) (.con (.int 4)))]) (.nm 13) .rng1 [(.con (.int 16))] [] [13]), .asg (.nm 8) (.blt .tuple [(.cmpr (.var 11) (.nm 11) .it [(.var 8)] [(.and (.ix (.call 52 [(.var 1), (.var 11)]) (.con (.int 1))) (.cmp .eq (.ix (.call 50 [(.var 11)]) (.con (.int 0))) (.var 4)))] [11])]), .ite (.not (.call 42 [(.call 28 [(.var 1), (.call 41 [(.var 4)])]), (.blt .tuple [(.blt .sorted [(.var 8)])])])) [.ret (.con (.bl false))] [], .asg (.nm 9) (.cmpr (.tup [(.bin .add (.ix (.var 4) (.con (.int 0))) (.ix (.var 11) (.con (.int 0)))), (.bin .add (.ix (.var 4) (.con (.int 1))) (.ix (.var 11) (.con (.int 1))))]) (.nm 11) .it [(.cmpr (.call 43 [(.var 13)]) (.nm 13) .rng1 [(.con (.int 4))] [] [13])] [] [11]), .asg (.nm 10) (.cmpr (.var 11) (.nm 11) .it [(.var 9)] [(.and (.chn .le .lt (.con (.int 0)) (.ix (.var 11) (.con (.int 0))) (.bin .mul (.con (.int 2)) (.var 5))) (.chn .le .lt (.con (.int 0)) (.ix (.var 11) (.con (.int 1))) (.bin .mul (.con (.int 2)) (.var 6))))] [11]), .ite (.cmp .ne (.blt .len [(.var 10)]) (.blt .len [(.var 8)])) [.ret (.con (.bl false))] [], .for_ (.nm 11) .it [(.var 10)] [.ite (.not (.call 42 [(.lst [(.call 35 [(.var 1), (.var 4), (.var 11)])]), (.cmpr (.var 21) (.nm 21) .it [(.var 8)] [(.cmp .eq (.ix (.call 50 [(.var 21)]) (.con (.int 2))) (.var 11))] [21])])) [.ret (.con (.bl false))] []], .asg (.nm 12) (.call 39 [(.var 0), (.call 45 [(.var 1)])]), .ite (.and (.cmp .notin (.var 12) (.var 10)) (.not (.call 42 [(.call 47 [(.fnm 35), (.tup [(.var 1), (.var 4), (.var 12)])]), (.lst [(.con (.str "can not")), (.con (.bl true))])]))) [.ret (.con (.bl false))] [], .ite (.not (.call 42 [(.cmpr (.call 47 [(.fnm 35), (.tup [(.var 1), (.var 4), (.var 11)])]) (.nm 11) .it [(.var 9)] [(.cmp .notin (.var 11) (.var 10))] [11]), (.cmpr (.lst [(.con (.str "no block")), (.var 11)]) (.nm 11) .it [(.var 9)] [(.cmp .notin (.var 11) (.var 10))] [11])])) [.ret (.con (.bl false))] []], .ret (.con (.bl true))], false⟩
/-- law -/
def c54 : Def := ⟨1, 7, [.thaw 1 (.call 36 [(.call 38 [(.var 0), (.con (.int 1))]), (.con (.int 0))]), .ite (.not (.blt .all [(.cmpr (.call 53 [(.var 1)]) (.nm 5) .rng1 [(.con (.int 3))] [] [5])])) [.ret (.con (.bl false))] [], .asg (.nm 2) (.call 48 [(.var 1), (.con (.int 6))]), .asg (.nm 3) (.con (.int 0)), .for_ (.nm 4) .rng1 [(.bin .mul (.con (.int 4)) (.ix (.var 2) (.con (.int 0))))] [.asg (.nm 3) (.bin .add (.var 3) (.blt .len [(.cmpr (.con (.int 1)) (.nm 6) .rng1 [(.bin .mul (.con (.int 16)) (.ix (.var 2) (.con (.int 1))))] [(.call 29 [(.var 2), (.tup [(.var 4), (.bin .fdiv (.var 6) (.con (.int 4))), (.bin .mod (.var 6) (.con (.int 4)))])])] [6])]))], .ret (.cmp .eq (.var 3) (.bin .sub (.bin .sub (.bin .mul (.bin .mul (.con (.int 16)) (.ix (.var 2) (.con (.int 0)))) (.ix (.var 2) (.con (.int 1)))) (.bin .mul (.con (.int 4)) (.ix (.var 2) (.con (.int 0))))) (.bin .mul (.con (.int 4)) (.ix (.var 2) (.con (.int 1))))))], false⟩
def codes : List Def := [c0, c1, c2, c3, c4, c5, c6, c7, c8, c9, c10, c11, c12, c13, c14, c15, c16, c17, c18, c19, c20, c21, c22, c23, c24, c25, c26, c27, c28, c29, c30, c31, c32, c33, c34, c35, c36, c37, c38, c39, c40, c41, c42, c43, c44, c45, c46, c47, c48, c49, c50, c51, c52, c53, c54]
end K01
/-! K01c -/
set_option maxHeartbeats 0
namespace K01
open PySem PySem.Spec PyProof.Rows L2 Rf
theorem code_eq : txt.ds.map (Dn.df txt.gl) = codes := by kernel_rfl
end K01
/-! Rf26 -/
set_option maxHeartbeats 1000000
/-! Rf26: built-in functions and operators at values of known shape. -/
namespace Rf
section
variable {h : AH} {σ : St'}
@[simp] theorem truth_non : truth h .non = some false := rfl
@[simp] theorem truth_bl (b : Bool) : truth h (.bl b) = some b := rfl
@[simp] theorem truth_int (i : Int) : truth h (.int i) = some (i != 0) := rfl
@[simp] theorem truth_tup (ds : List D) : truth h (.tup ds) = some !ds.isEmpty := rfl
@[simp] theorem truth_lst (ds : List D) : truth h (.lst ds) = some !ds.isEmpty := rfl
@[simp] theorem listOf_lst (ds : List D) : listOf h (.lst ds) = some ds := rfl
@[simp] theorem listOf_tup (ds : List D) : listOf h (.tup ds) = none := rfl
@[simp] theorem listOf_int (i : Int) : listOf h (.int i) = none := rfl
@[simp] theorem seqOf_lst (ds : List D) : seqOf h (.lst ds) = some ds := rfl
@[simp] theorem seqOf_tup (ds : List D) : seqOf h (.tup ds) = some ds := rfl
@[simp] theorem look_non : look h .non = .non := rfl
@[simp] theorem look_bl (b : Bool) : look h (.bl b) = .bl b := rfl
@[simp] theorem look_int (i : Int) : look h (.int i) = .int i := rfl
@[simp] theorem look_str (i : PySem.Str) : look h (.str i) = .str i := rfl
@[simp] theorem look_tup (ds : List D) : look h (.tup ds) = .tup ds := rfl
@[simp] theorem look_lst (ds : List D) : look h (.lst ds) = .lst ds := rfl
@[simp] theorem guard_true (d : D) : guard' true d = some d := rfl
@[simp] theorem add_int (a b : Int) : op2 h .add (.int a) (.int b) = some (.int (a + b)) := rfl
@[simp] theorem add_tup (a b : List D) : op2 h .add (.tup a) (.tup b) = guard' (decide (a.length + b.length ≤ lim)) (.tup (a ++ b)) := rfl
@[simp] theorem add_lst (a b : List D) : op2 h .add (.lst a) (.lst b) = guard' (decide (a.length + b.length ≤ lim)) (.lst (a ++ b)) := rfl
@[simp] theorem sub_int (a b : Int) : op2 h .sub (.int a) (.int b) = some (.int (a - b)) := rfl
theorem mul_int0 (a b : Int) : op2 h .mul (.int a) (.int b) = guard' (small a || small b) (.int (a * b)) := rfl
@[simp] theorem mul_int (a b : Int) : op2 h .mul (.int a) (.int b) = guard' (small a || small b) (.int (a * b)) := Eq.mp rfl (mul_int0 (h := h) a b)
@[simp] theorem mul_lst (a : List D) (k : Int) : op2 h .mul (.lst a) (.int k) = guard' (decide (-(2 ^ 63) ≤ k) && decide (k < 2 ^ 63) && decide (a.length * k.toNat ≤ lim)) (.lst (rep k a)) := rfl
@[simp] theorem fdiv_int (a b : Int) : op2 h .fdiv (.int a) (.int b) = guard' (b != 0 && decide (b.natAbs < 1073741824)) (.int (a.fdiv b)) := rfl
@[simp] theorem mod_int (a b : Int) : op2 h .mod (.int a) (.int b) = guard' (b != 0) (.int (a.fmod b)) := rfl
@[simp] theorem cmp_eq (a b : D) : cmpD h .eq a b = eqD h a b := rfl
@[simp] theorem cmp_ne (a b : D) : cmpD h .ne a b = (eqD h a b).map (!·) := rfl
@[simp] theorem cmp_lt' (a b : D) : cmpD h .lt a b = ltD a b := rfl
@[simp] theorem cmp_in (a b : D) : cmpD h .isin a b = inD h a b := rfl
@[simp] theorem cmp_notin (a b : D) : cmpD h .notin a b = (inD h a b).map (!·) := rfl
@[simp] theorem cmp_le (a b : Int) : cmpD h .le (.int a) (.int b) = some (decide (a ≤ b)) := rfl
@[simp] theorem cmp_gt' (a b : Int) : cmpD h .gt (.int a) (.int b) = some (decide (b < a)) := rfl
@[simp] theorem cmp_ge (a b : Int) : cmpD h .ge (.int a) (.int b) = some (decide (b ≤ a)) := rfl
@[simp] theorem lt_int (a b : Int) : ltD (.int a) (.int b) = some (decide (a < b)) := rfl
@[simp] theorem eq_int (a b : Int) : eqD h (.int a) (.int b) = some (decide (a = b)) := by
  show (if _ then some (D.eqv (.int a) (.int b)) else none) = _
  rw [if_pos (by rfl)]
  show some (a == b) = _
  congr 1
theorem eq_dat {a b : D} (ha : a.isRef = false) (hb : b.isRef = false) (oa : a.ok 30 = true) (ob : b.ok 30 = true) : eqD h a b = some (D.eqv a b) := by
  have la : look h a = a := by cases a <;> first | rfl | cases ha
  have lb : look h b = b := by cases b <;> first | rfl | cases hb
  unfold eqD
  rw [la, lb, oa, ob]
  rfl
theorem beq_dec (a b : Int) : (a == b) = decide (a = b) := rfl
@[simp] theorem eq_tup2 (a b c d : Int) : eqD h (.tup [.int a, .int b]) (.tup [.int c, .int d]) = some (decide (a = c ∧ b = d)) := by
  rw [eq_dat rfl rfl rfl rfl]
  show some ((a == c) && ((b == d) && true)) = _
  by_cases e : a = c <;> by_cases f : b = d <;> simp [e, f]
@[simp] theorem eq_tup3 (a b c d e f : Int) : eqD h (.tup [.int a, .int b, .int c]) (.tup [.int d, .int e, .int f]) = some (decide (a = d ∧ b = e ∧ c = f)) := by
  rw [eq_dat rfl rfl rfl rfl]
  show some ((a == d) && ((b == e) && ((c == f) && true))) = _
  by_cases x : a = d <;> by_cases y : b = e <;> by_cases z : c = f <;> simp [x, y, z]
@[simp] theorem is_non (a : D) : cmpD h .is a .non = isD a .non := rfl
@[simp] theorem isnot_non (a : D) : cmpD h .isnot a .non = (isD a .non).map (!·) := rfl
@[simp] theorem isD_non : isD .non .non = some true := rfl
@[simp] theorem isD_int (i : Int) : isD (.int i) .non = some false := rfl
@[simp] theorem isD_bl (i : Bool) : isD (.bl i) .non = some false := rfl
@[simp] theorem isD_str (i : PySem.Str) : isD (.str i) .non = some false := rfl
@[simp] theorem isD_tup (i : List D) : isD (.tup i) .non = some false := rfl
@[simp] theorem isD_lst (i : List D) : isD (.lst i) .non = some false := rfl
@[simp] theorem len_tup (ds : List D) : blt h .len [.tup ds] = some (.int ds.length) := rfl
@[simp] theorem len_lst (ds : List D) : blt h .len [.lst ds] = some (.int ds.length) := rfl
@[simp] theorem int_int (i : Int) : blt h .int [.int i] = some (.int i) := rfl
@[simp] theorem int_bl (b : Bool) : blt h .int [.bl b] = some (.int (if b then 1 else 0)) := rfl
@[simp] theorem abs_int (i : Int) : blt h .abs [.int i] = some (.int i.natAbs) := rfl
@[simp] theorem min_two (a b : D) : blt h .min [a, b] = minL [a, b] := rfl
@[simp] theorem max_two (a b : D) : blt h .max [a, b] = maxL [a, b] := rfl
@[simp] theorem min_lst (ds : List D) : blt h .min [.lst ds] = minL ds := rfl
@[simp] theorem max_lst (ds : List D) : blt h .max [.lst ds] = maxL ds := rfl
@[simp] theorem sorted_lst (ds : List D) : blt h .sorted [.lst ds] = sortL ds := rfl
@[simp] theorem sorted_tupv (ds : List D) : blt h .sorted [.tup ds] = sortL ds := rfl
@[simp] theorem setsort_lst (ds : List D) : blt h .setsort [.lst ds] = setL ds := rfl
@[simp] theorem list_tup (ds : List D) : blt h .list [.tup ds] = some (.lst ds) := rfl
@[simp] theorem list_lst (ds : List D) : blt h .list [.lst ds] = some (.lst ds) := rfl
@[simp] theorem tuple_tup (ds : List D) : blt h .tuple [.tup ds] = some (.tup ds) := rfl
@[simp] theorem tuple_lst (ds : List D) : blt h .tuple [.lst ds] = some (.tup ds) := rfl
@[simp] theorem all_lst (ds : List D) : blt h .all [.lst ds] = (boolsOf ds).map fun bs => .bl (bs.all id) := rfl
@[simp] theorem any_lst (ds : List D) : blt h .any [.lst ds] = (boolsOf ds).map fun bs => .bl (bs.any id) := rfl
@[simp] theorem sum_lst (ds : List D) : blt h .sum [.lst ds] = (intsOf ds).map fun bs => .int bs.sum := rfl
@[simp] theorem bools_nil : boolsOf [] = some [] := rfl
@[simp] theorem bools_cons (b : Bool) (ds : List D) : boolsOf (.bl b :: ds) = (boolsOf ds).map (b :: ·) := rfl
def shape : D → Kd
  | .bl _ => .bl
  | .int _ => .int
  | .str _ => .str
  | .tup _ => .tup
  | .lst _ => .lst
  | _ => .non
@[simp] theorem kd_non : kindOf h .non = some .non := rfl
@[simp] theorem kd_bl (b : Bool) : kindOf h (.bl b) = some .bl := rfl
@[simp] theorem kd_int (b : Int) : kindOf h (.int b) = some .int := rfl
@[simp] theorem kd_str (b : PySem.Str) : kindOf h (.str b) = some .str := rfl
@[simp] theorem kd_tup (b : List D) : kindOf h (.tup b) = some .tup := rfl
@[simp] theorem kd_lst (b : List D) : kindOf h (.lst b) = some .lst := rfl
@[simp] theorem isInt_one (d : D) : blt h .isInt [d] = (kindOf h d).map fun k => .bl (isKd .isInt k) := rfl
@[simp] theorem isBool_one (d : D) : blt h .isBool [d] = (kindOf h d).map fun k => .bl (isKd .isBool k) := rfl
@[simp] theorem isStr_one (d : D) : blt h .isStr [d] = (kindOf h d).map fun k => .bl (isKd .isStr k) := rfl
@[simp] theorem isTuple_one (d : D) : blt h .isTuple [d] = (kindOf h d).map fun k => .bl (isKd .isTuple k) := rfl
@[simp] theorem isList_one (d : D) : blt h .isList [d] = (kindOf h d).map fun k => .bl (isKd .isList k) := rfl
@[simp] theorem isListTuple_one (d : D) : blt h .isListTuple [d] = (kindOf h d).map fun k => .bl (isKd .isListTuple k) := rfl
@[simp] theorem isBoolStr_one (d : D) : blt h .isBoolStr [d] = (kindOf h d).map fun k => .bl (isKd .isBoolStr k) := rfl
@[simp] theorem index_tup (ds : List D) (i : Int) : index h (.tup ds) (.int i) = (D.place ds.length i).bind fun k => ds[k]? := rfl
@[simp] theorem index_lst (ds : List D) (i : Int) : index h (.lst ds) (.int i) = (D.place ds.length i).bind fun k => ds[k]? := rfl
@[simp] theorem part_int (i : Int) : part (.int i) = some (some i) := rfl
@[simp] theorem slice_lst (ds : List D) (lo hi : Option Int) : slice h (.lst ds) lo hi = some (.lst (D.cut ds lo hi)) := rfl
theorem slice_tup (ds : List D) (lo hi : Option Int) : slice h (.tup ds) lo hi = if lo = none ∧ hi = none then none else some (.tup (D.cut ds lo hi)) := rfl
@[simp] theorem slice_tup1 (ds : List D) (i : Int) (hi : Option Int) : slice h (.tup ds) (some i) hi = some (.tup (D.cut ds (some i) hi)) := by rw [slice_tup]; exact if_neg (by simp)
@[simp] theorem slice_tup2 (ds : List D) (i : Int) (lo : Option Int) : slice h (.tup ds) lo (some i) = some (.tup (D.cut ds lo (some i))) := by rw [slice_tup]; exact if_neg (by simp)
@[simp] theorem items_tup (ds : List D) : items .it [.tup ds] = some ds := rfl
@[simp] theorem items_lst (ds : List D) : items .it [.lst ds] = some ds := rfl
@[simp] theorem items_rng1 (j : Int) : items .rng1 [.int j] = if rok j then some (rngs 0 j.toNat) else none := rfl
@[simp] theorem items_rng2 (i j : Int) : items .rng2 [.int i, .int j] = if rok i && rok j then some (rngs i (j - i).toNat) else none := rfl
@[simp] theorem items_enm (ds : List D) : items .enm [.lst ds] = some (enums 0 ds) := rfl
@[simp] theorem items_zipL (a b : List D) : items .zip [.lst a, .lst b] = some (zips a b) := rfl
@[simp] theorem items_zipT (a b : List D) : items .zip [.tup a, .tup b] = some (zips a b) := rfl
@[simp] theorem assign_nm (i : Nat) (d : D) : assign (.nm i) d σ = some (σ.set i (some d)) := rfl
@[simp] theorem assign_tp (ts : List T) (ds : List D) : assign (.tp ts) (.tup ds) σ = assigns ts ds σ := rfl
@[simp] theorem assigns_nil : assigns [] [] σ = some σ := rfl
def assignK (o : Option St') (f : St' → Option St') : Option St' := match o with
  | some σ' => f σ'
  | none => none
@[simp] theorem assignK_some (f : St' → Option St') : assignK (some σ) f = f σ := rfl
@[simp] theorem assigns_cons (t : T) (ts : List T) (d : D) (ds : List D) : assigns (t :: ts) (d :: ds) σ = assignK (assign t d σ) fun σ' => assigns ts ds σ' := by
  show (match assign t d σ with
    | some σ' => assigns ts ds σ'
    | none => none) = _
  cases assign t d σ <;> rfl
@[simp] theorem wiped_nil : wiped σ [] = σ := rfl
@[simp] theorem wiped_cons (v : Nat) (vs : List Nat) : wiped σ (v :: vs) = (wiped σ vs).set v none := rfl
@[simp] theorem isRef_non : D.non.isRef = false := rfl
@[simp] theorem isRef_bl (b : Bool) : (D.bl b).isRef = false := rfl
@[simp] theorem isRef_int (b : Int) : (D.int b).isRef = false := rfl
@[simp] theorem isRef_str (b : PySem.Str) : (D.str b).isRef = false := rfl
@[simp] theorem isRef_tup (b : List D) : (D.tup b).isRef = false := rfl
@[simp] theorem isRef_lst (b : List D) : (D.lst b).isRef = false := rfl
@[simp] theorem isRef_fn (b : Nat) : (D.fn b).isRef = false := rfl
@[simp] theorem isRef_ref (b : Nat) : (D.ref b).isRef = true := rfl
@[simp] theorem sets_nil (ds : List D) : sets [] ds σ = σ := by cases ds <;> rfl
@[simp] theorem sets_cons (i : Nat) (is : List Nat) (d : D) (ds : List D) : sets (i :: is) (d :: ds) σ = sets is ds (σ.set i (some d)) := rfl
/-! comprehensions, turn by turn -/
@[simp] theorem turns_nil (f : D → AH → Res (Option D)) : turns f [] h = .ok [] h := rfl
def turnsK (o : Option D) : Res (List D) → Res (List D)
  | .ok r h => .ok (match o with
    | some x => x :: r
    | none => r) h
  | _ => .no
@[simp] theorem turnsK_some (x : D) (r : List D) : turnsK (some x) (.ok r h) = .ok (x :: r) h := rfl
@[simp] theorem turnsK_none (r : List D) : turnsK none (.ok r h) = .ok r h := rfl
def turnsN (k : Option D → AH → Res (List D)) : Res (Option D) → Res (List D)
  | .ok o h => k o h
  | _ => .no
@[simp] theorem turnsN_ok (k : Option D → AH → Res (List D)) (o : Option D) : turnsN k (.ok o h) = k o h := rfl
@[simp] theorem turns_cons (f : D → AH → Res (Option D)) (d : D) (ds : List D) : turns f (d :: ds) h = turnsN (fun o h1 => turnsK o (turns f ds h1)) (f d h) := by
  rw [turns]
  cases f d h with
  | ok o h1 =>
    dsimp only [turnsN]
    cases turns f ds h1 <;> rfl
  | ex _ _ => rfl
  | no => rfl
def turnE (x : Res D) : Res (Option D) := match x with
  | .ok x h3 => if x.isRef then .no else .ok (some x) h3
  | _ => .no
@[simp] theorem turnE_ok (x : D) : turnE (.ok x h) = if x.isRef then .no else .ok (some x) h := rfl
def turnI (e : AH → Res D) : Res Bool → Res (Option D)
  | .ok true h2 => turnE (e h2)
  | .ok false h2 => .ok none h2
  | _ => .no
@[simp] theorem turnI_true (e : AH → Res D) : turnI e (.ok true h) = turnE (e h) := rfl
@[simp] theorem turnI_false (e : AH → Res D) : turnI e (.ok false h) = .ok none h := rfl
theorem turnI_bl (e : AH → Res D) (b : Bool) : turnI e (.ok b h) = if b = true then turnE (e h) else .ok none h := by cases b <;> rfl
def turnA (f : St' → Res (Option D)) : Option St' → Res (Option D)
  | some σ => f σ
  | none => .no
@[simp] theorem turnA_some (f : St' → Res (Option D)) : turnA f (some σ) = f σ := rfl
@[simp] theorem turn_eq (G : Glb) (cl : CallF) (elt : E) (t : T) (ifs : List E) (own : List Nat) (d : D) : turn G cl elt t ifs own σ d h = turnA (fun σ' => turnI (ev G cl elt σ') (evi G cl ifs σ' h)) (assign t d (wiped σ own)) := by
  unfold turn
  cases assign t d (wiped σ own) with
  | none => rfl
  | some σ' =>
    show _ = turnI (ev G cl elt σ') (evi G cl ifs σ' h)
    dsimp only
    cases evi G cl ifs σ' h with
    | ok b h2 =>
      cases b with
      | false => rfl
      | true =>
        dsimp only [turnI]
        cases ev G cl elt σ' h2 <;> rfl
    | ex _ _ => rfl
    | no => rfl
@[simp] theorem listOut_ok (ds : List D) : listOut (.ok ds h) = if ds.length ≤ lim then .ok (.lst ds) h else .no := rfl
/-! loops, round by round -/
@[simp] theorem loop_nil (f : D → St' → AH → Out) : loop f [] σ h = .nx σ h := rfl
def again (k : St' → AH → Out) : Out → Out
  | .nx σ h => k σ h
  | .ct σ h => k σ h
  | .bk σ h => .nx σ h
  | o => o
@[simp] theorem again_nx (k : St' → AH → Out) : again k (.nx σ h) = k σ h := rfl
@[simp] theorem again_rt (k : St' → AH → Out) (d : D) (f : Bool) : again k (.rt d f h) = .rt d f h := rfl
@[simp] theorem again_ex (k : St' → AH → Out) (e : Exc) : again k (.ex e σ h) = .ex e σ h := rfl
@[simp] theorem again_if (k : St' → AH → Out) (p : Prop) [Decidable p] (x y : Out) : again k (if p then x else y) = if p then again k x else again k y := by split <;> rfl
@[simp] theorem loop_cons (f : D → St' → AH → Out) (d : D) (ds : List D) : loop f (d :: ds) σ h = again (loop f ds) (f d σ h) := by
  show (match f d σ h with
    | .nx σ1 h1 => loop f ds σ1 h1
    | .ct σ1 h1 => loop f ds σ1 h1
    | .bk σ1 h1 => .nx σ1 h1
    | o => o) = _
  cases f d σ h <;> rfl
def roundO (f : St' → Out) : Option St' → Out
  | some σ => f σ
  | none => .no
@[simp] theorem roundO_some (f : St' → Out) : roundO f (some σ) = f σ := rfl
@[simp] theorem round_eq (G : Glb) (cl : CallF) (W : Nat) (t : T) (body : List S) (d : D) : round G cl W t body d σ h = roundO (fun σ2 => execs G cl W body σ2 h) (assign t d σ) := by
  unfold round
  cases assign t d σ <;> rfl
/-! comprehensions whose turns keep the heap -/
theorem turns_filter {f : D → AH → Res (Option D)} {p : D → Bool} {g : D → D} : ∀ (L : List D), (∀ d ∈ L, f d h = .ok (if p d then some (g d) else none) h) → turns f L h = .ok ((L.filter p).map g) h
  | [], _ => rfl
  | d :: L, hf => by
    rw [turns_cons, hf d List.mem_cons_self, turnsN_ok, turns_filter L fun e he => hf e (List.mem_cons_of_mem _ he)]
    cases e : p d <;> simp [e]
theorem turns_map {f : D → AH → Res (Option D)} {g : D → D} (L : List D) (hf : ∀ d ∈ L, f d h = .ok (some (g d)) h) : turns f L h = .ok (L.map g) h := by
  rw [turns_filter (p := fun _ => true) L fun d hd => by rw [hf d hd]; rfl, List.filter_eq_self.mpr fun _ _ => rfl]
theorem bools_map {α : Type} (p : α → Bool) : ∀ L : List α, boolsOf (L.map fun a => .bl (p a)) = some (L.map p)
  | [] => rfl
  | a :: L => by
    show (boolsOf (L.map fun a => .bl (p a))).map (p a :: ·) = _
    rw [bools_map p L]
    rfl
theorem all_isort (p : D → Bool) (L : List D) : (D.isort L).all p = L.all p := by
  rw [Bool.eq_iff_iff, List.all_eq_true, List.all_eq_true]
  constructor
  · exact fun a x hx => a x ((isort_perm L).mem_iff.mpr hx)
  · exact fun a x hx => a x ((isort_perm L).mem_iff.mp hx)
end
end Rf
/-! K01m -/
set_option maxHeartbeats 1000000
namespace K01
open Rf
abbrev P : Prg := prgOf codes csd 100000
theorem con0 : P.G.con 0 = some (.tup [.tup [.int 1, .int 0], .tup [.int 0, .int 1], .tup [.int (-1), .int 0], .tup [.int 0, .int (-1)]]) := rfl
def dx (w : Int) : Int := if w % 4 = 0 then 1 else if w % 4 = 2 then -1 else 0
def dy (w : Int) : Int := if w % 4 = 1 then 1 else if w % 4 = 3 then -1 else 0
theorem mod4 (w : Int) : w % 4 = 0 ∨ w % 4 = 1 ∨ w % 4 = 2 ∨ w % 4 = 3 := by omega
theorem e0 : P.defs 0 = some c0 := rfl
theorem e1 : P.defs 1 = some c1 := rfl
theorem e2 : P.defs 2 = some c2 := rfl
theorem e3 : P.defs 3 = some c3 := rfl
theorem e4 : P.defs 4 = some c4 := rfl
theorem e5 : P.defs 5 = some c5 := rfl
theorem e6 : P.defs 6 = some c6 := rfl
theorem e7 : P.defs 7 = some c7 := rfl
theorem e8 : P.defs 8 = some c8 := rfl
theorem e9 : P.defs 9 = some c9 := rfl
theorem e10 : P.defs 10 = some c10 := rfl
theorem e11 : P.defs 11 = some c11 := rfl
theorem e12 : P.defs 12 = some c12 := rfl
theorem e13 : P.defs 13 = some c13 := rfl
theorem e14 : P.defs 14 = some c14 := rfl
theorem e15 : P.defs 15 = some c15 := rfl
theorem e16 : P.defs 16 = some c16 := rfl
theorem e17 : P.defs 17 = some c17 := rfl
theorem e18 : P.defs 18 = some c18 := rfl
theorem e19 : P.defs 19 = some c19 := rfl
theorem e20 : P.defs 20 = some c20 := rfl
theorem e21 : P.defs 21 = some c21 := rfl
theorem e22 : P.defs 22 = some c22 := rfl
theorem e23 : P.defs 23 = some c23 := rfl
theorem e24 : P.defs 24 = some c24 := rfl
theorem e25 : P.defs 25 = some c25 := rfl
theorem e26 : P.defs 26 = some c26 := rfl
theorem e27 : P.defs 27 = some c27 := rfl
theorem e28 : P.defs 28 = some c28 := rfl
theorem e29 : P.defs 29 = some c29 := rfl
theorem e30 : P.defs 30 = some c30 := rfl
theorem e31 : P.defs 31 = some c31 := rfl
theorem e32 : P.defs 32 = some c32 := rfl
theorem e33 : P.defs 33 = some c33 := rfl
theorem e34 : P.defs 34 = some c34 := rfl
theorem e35 : P.defs 35 = some c35 := rfl
theorem e36 : P.defs 36 = some c36 := rfl
theorem e37 : P.defs 37 = some c37 := rfl
theorem e38 : P.defs 38 = some c38 := rfl
theorem e39 : P.defs 39 = some c39 := rfl
theorem e40 : P.defs 40 = some c40 := rfl
theorem e41 : P.defs 41 = some c41 := rfl
theorem e42 : P.defs 42 = some c42 := rfl
theorem e43 : P.defs 43 = some c43 := rfl
theorem e44 : P.defs 44 = some c44 := rfl
theorem e45 : P.defs 45 = some c45 := rfl
theorem e46 : P.defs 46 = some c46 := rfl
theorem e47 : P.defs 47 = some c47 := rfl
theorem e48 : P.defs 48 = some c48 := rfl
theorem e49 : P.defs 49 = some c49 := rfl
theorem e50 : P.defs 50 = some c50 := rfl
theorem e51 : P.defs 51 = some c51 := rfl
theorem e52 : P.defs 52 = some c52 := rfl
theorem e53 : P.defs 53 = some c53 := rfl
theorem e54 : P.defs 54 = some c54 := rfl
theorem is_number (k : Nat) (i : Int) (h : AH) : call P (k+1) 0 [.int i] h = .ok (.bl true) h := by
  rw [call_at e0 rfl]
  simp [c0, isKd, D.ok, D.eqv, D.eqvs, lim, small, D.place, E.fresh, rok, rngs, D.cut, D.sIx, guard', eq_dat, Int.fmod_eq_emod_of_nonneg, Int.fdiv_eq_ediv_of_nonneg]
theorem is_from (k : Nat) (i l : Int) (h : AH) : call P (k+2) 1 [.int i, .int l] h = .ok (.bl (decide (l ≤ i))) h := by
  rw [call_at e1 rfl]
  simp [c1, isKd, D.ok, D.eqv, D.eqvs, lim, small, D.place, E.fresh, rok, rngs, D.cut, D.sIx, guard', eq_dat, Int.fmod_eq_emod_of_nonneg, Int.fdiv_eq_ediv_of_nonneg, is_number]
theorem is_long (k : Nat) (ds : List D) (n : Int) (h : AH) : call P (k+1) 2 [.tup ds, .int n] h = .ok (.bl (decide ((ds.length : Int) = n))) h := by
  rw [call_at e2 rfl]
  simp [c2, isKd, D.ok, D.eqv, D.eqvs, lim, small, D.place, E.fresh, rok, rngs, D.cut, D.sIx, guard', eq_dat, Int.fmod_eq_emod_of_nonneg, Int.fdiv_eq_ediv_of_nonneg]
theorem tupled_int (k : Nat) (i : Int) (h : AH) : call P (k+1) 3 [.int i] h = .ok (.int i) h := by
  rw [call_at e3 rfl]
  simp [c3, isKd, D.ok, D.eqv, D.eqvs, lim, small, D.place, E.fresh, rok, rngs, D.cut, D.sIx, guard', eq_dat, Int.fmod_eq_emod_of_nonneg, Int.fdiv_eq_ediv_of_nonneg]
theorem tupled2 (k : Nat) (i j : Int) (h : AH) : call P (k+2) 3 [.tup [.int i, .int j]] h = .ok (.tup [.int i, .int j]) h := by
  rw [call_at e3 rfl]
  simp [c3, isKd, D.ok, D.eqv, D.eqvs, lim, small, D.place, E.fresh, rok, rngs, D.cut, D.sIx, guard', eq_dat, Int.fmod_eq_emod_of_nonneg, Int.fdiv_eq_ediv_of_nonneg, tupled_int]
theorem tupled2l (k : Nat) (i j : Int) (h : AH) : call P (k+2) 3 [.lst [.int i, .int j]] h = .ok (.tup [.int i, .int j]) h := by
  rw [call_at e3 rfl]
  simp [c3, isKd, D.ok, D.eqv, D.eqvs, lim, small, D.place, E.fresh, rok, rngs, D.cut, D.sIx, guard', eq_dat, Int.fmod_eq_emod_of_nonneg, Int.fdiv_eq_ediv_of_nonneg, tupled_int]
theorem tupled3 (k : Nat) (i j w : Int) (h : AH) : call P (k+2) 3 [.tup [.int i, .int j, .int w]] h = .ok (.tup [.int i, .int j, .int w]) h := by
  rw [call_at e3 rfl]
  simp [c3, isKd, D.ok, D.eqv, D.eqvs, lim, small, D.place, E.fresh, rok, rngs, D.cut, D.sIx, guard', eq_dat, Int.fmod_eq_emod_of_nonneg, Int.fdiv_eq_ediv_of_nonneg, tupled_int]
theorem tupled3l (k : Nat) (i j w : Int) (h : AH) : call P (k+2) 3 [.lst [.int i, .int j, .int w]] h = .ok (.tup [.int i, .int j, .int w]) h := by
  rw [call_at e3 rfl]
  simp [c3, isKd, D.ok, D.eqv, D.eqvs, lim, small, D.place, E.fresh, rok, rngs, D.cut, D.sIx, guard', eq_dat, Int.fmod_eq_emod_of_nonneg, Int.fdiv_eq_ediv_of_nonneg, tupled_int]
theorem are_numbers2 (k : Nat) (i j : Int) (h : AH) : call P (k+2) 4 [.tup [.int i, .int j]] h = .ok (.bl true) h := by
  rw [call_at e4 rfl]
  simp [c4, isKd, D.ok, D.eqv, D.eqvs, lim, small, D.place, E.fresh, rok, rngs, D.cut, D.sIx, guard', eq_dat, Int.fmod_eq_emod_of_nonneg, Int.fdiv_eq_ediv_of_nonneg, is_number]
theorem are_numbers3 (k : Nat) (i j w : Int) (h : AH) : call P (k+2) 4 [.tup [.int i, .int j, .int w]] h = .ok (.bl true) h := by
  rw [call_at e4 rfl]
  simp [c4, isKd, D.ok, D.eqv, D.eqvs, lim, small, D.place, E.fresh, rok, rngs, D.cut, D.sIx, guard', eq_dat, Int.fmod_eq_emod_of_nonneg, Int.fdiv_eq_ediv_of_nonneg, is_number]
theorem is_pair (k : Nat) (i j : Int) (h : AH) : call P (k+3) 5 [.tup [.int i, .int j]] h = .ok (.bl true) h := by
  rw [call_at e5 rfl]
  simp [c5, isKd, D.ok, D.eqv, D.eqvs, lim, small, D.place, E.fresh, rok, rngs, D.cut, D.sIx, guard', eq_dat, Int.fmod_eq_emod_of_nonneg, Int.fdiv_eq_ediv_of_nonneg, is_long, are_numbers2]
theorem is_floor (k : Nat) (i j : Int) (h : AH) (hi : 1 ≤ i) (hj : 1 ≤ j) : call P (k+3) 6 [.tup [.int i, .int j]] h = .ok (.bl true) h := by
  rw [call_at e6 rfl]
  simp [c6, isKd, D.ok, D.eqv, D.eqvs, lim, small, D.place, E.fresh, rok, rngs, D.cut, D.sIx, guard', eq_dat, Int.fmod_eq_emod_of_nonneg, Int.fdiv_eq_ediv_of_nonneg, is_long, is_from, hi, hj]
theorem sure_floor (k : Nat) (i j : Int) (h : AH) (hi : 1 ≤ i) (hj : 1 ≤ j) : call P (k+4) 7 [.tup [.int i, .int j]] h = .ok (.tup [.int i, .int j]) h := by
  rw [call_at e7 rfl]
  simp [c7, isKd, D.ok, D.eqv, D.eqvs, lim, small, D.place, E.fresh, rok, rngs, D.cut, D.sIx, guard', eq_dat, Int.fmod_eq_emod_of_nonneg, Int.fdiv_eq_ediv_of_nonneg, tupled2, is_floor, hi, hj]
theorem is_cell_in (k : Nat) (m n i j : Int) (h : AH) : call P (k+4) 8 [.tup [.int m, .int n], .tup [.int i, .int j]] h = .ok (.bl (decide (0 ≤ i ∧ i < 4 * m ∧ 0 ≤ j ∧ j < 4 * n))) h := by
  rw [call_at e8 rfl]
  by_cases q0 : 0 ≤ i <;>   by_cases q1 : i < 4 * m <;>   by_cases q2 : 0 ≤ j <;>   by_cases q3 : j < 4 * n <;> simp [c8, isKd, D.ok, D.eqv, D.eqvs, lim, small, D.place, E.fresh, rok, rngs, D.cut, D.sIx, guard', eq_dat, Int.fmod_eq_emod_of_nonneg, Int.fdiv_eq_ediv_of_nonneg, is_pair, q0, q1, q2, q3]
theorem is_block_in (k : Nat) (m n i j : Int) (h : AH) : call P (k+4) 9 [.tup [.int m, .int n], .tup [.int i, .int j]] h = .ok (.bl (decide (0 ≤ i ∧ i < 2 * m ∧ 0 ≤ j ∧ j < 2 * n))) h := by
  rw [call_at e9 rfl]
  by_cases q0 : 0 ≤ i <;>   by_cases q1 : i < 2 * m <;>   by_cases q2 : 0 ≤ j <;>   by_cases q3 : j < 2 * n <;> simp [c9, isKd, D.ok, D.eqv, D.eqvs, lim, small, D.place, E.fresh, rok, rngs, D.cut, D.sIx, guard', eq_dat, Int.fmod_eq_emod_of_nonneg, Int.fdiv_eq_ediv_of_nonneg, is_pair, q0, q1, q2, q3]
theorem sure_block (k : Nat) (m n i j : Int) (h : AH) (q : 0 ≤ i ∧ i < 2 * m ∧ 0 ≤ j ∧ j < 2 * n) : call P (k+5) 10 [.tup [.int m, .int n], .tup [.int i, .int j]] h = .ok (.tup [.int i, .int j]) h := by
  rw [call_at e10 rfl]
  simp [c10, isKd, D.ok, D.eqv, D.eqvs, lim, small, D.place, E.fresh, rok, rngs, D.cut, D.sIx, guard', eq_dat, Int.fmod_eq_emod_of_nonneg, Int.fdiv_eq_ediv_of_nonneg, tupled2, is_pair, is_block_in, q]
theorem sure_blockl (k : Nat) (m n i j : Int) (h : AH) (q : 0 ≤ i ∧ i < 2 * m ∧ 0 ≤ j ∧ j < 2 * n) : call P (k+5) 10 [.tup [.int m, .int n], .lst [.int i, .int j]] h = .ok (.tup [.int i, .int j]) h := by
  rw [call_at e10 rfl]
  simp [c10, isKd, D.ok, D.eqv, D.eqvs, lim, small, D.place, E.fresh, rok, rngs, D.cut, D.sIx, guard', eq_dat, Int.fmod_eq_emod_of_nonneg, Int.fdiv_eq_ediv_of_nonneg, tupled2l, is_pair, is_block_in, q]
theorem sure_block_no (k : Nat) (m n i j : Int) (h : AH) (q : ¬ (0 ≤ i ∧ i < 2 * m ∧ 0 ≤ j ∧ j < 2 * n)) : call P (k+5) 10 [.tup [.int m, .int n], .tup [.int i, .int j]] h = .ex ⟨0, some (.tup [.int i, .int j])⟩ h := by
  rw [call_at e10 rfl]
  simp [c10, isKd, D.ok, D.eqv, D.eqvs, lim, small, D.place, E.fresh, rok, rngs, D.cut, D.sIx, guard', eq_dat, Int.fmod_eq_emod_of_nonneg, Int.fdiv_eq_ediv_of_nonneg, tupled2, is_pair, is_block_in, q]
theorem is_piece (k : Nat) (i j w : Int) (h : AH) : call P (k+3) 11 [.tup [.int i, .int j, .int w]] h = .ok (.bl (decide (0 ≤ w ∧ w ≤ 3))) h := by
  rw [call_at e11 rfl]
  by_cases q0 : 0 ≤ w <;>   by_cases q1 : w ≤ 3 <;> simp [c11, isKd, D.ok, D.eqv, D.eqvs, lim, small, D.place, E.fresh, rok, rngs, D.cut, D.sIx, guard', eq_dat, Int.fmod_eq_emod_of_nonneg, Int.fdiv_eq_ediv_of_nonneg, is_long, are_numbers3, q0, q1]
theorem sure_piece (k : Nat) (i j w : Int) (h : AH) (q : 0 ≤ w ∧ w ≤ 3) : call P (k+4) 12 [.tup [.int i, .int j, .int w]] h = .ok (.tup [.int i, .int j, .int w]) h := by
  rw [call_at e12 rfl]
  simp [c12, isKd, D.ok, D.eqv, D.eqvs, lim, small, D.place, E.fresh, rok, rngs, D.cut, D.sIx, guard', eq_dat, Int.fmod_eq_emod_of_nonneg, Int.fdiv_eq_ediv_of_nonneg, tupled3, is_piece, q]
theorem sure_piecel (k : Nat) (i j w : Int) (h : AH) (q : 0 ≤ w ∧ w ≤ 3) : call P (k+4) 12 [.lst [.int i, .int j, .int w]] h = .ok (.tup [.int i, .int j, .int w]) h := by
  rw [call_at e12 rfl]
  simp [c12, isKd, D.ok, D.eqv, D.eqvs, lim, small, D.place, E.fresh, rok, rngs, D.cut, D.sIx, guard', eq_dat, Int.fmod_eq_emod_of_nonneg, Int.fdiv_eq_ediv_of_nonneg, tupled3l, is_piece, q]
theorem beside (k : Nat) (x y w : Int) (h : AH) : call P (k+1) 13 [.tup [.int x, .int y], .int w] h = .ok (.tup [.int (x + dx w), .int (y + dy w)]) h := by
  rw [call_at e13 rfl]
  rcases mod4 w with q | q | q | q
  all_goals simp [c13, isKd, D.ok, D.eqv, D.eqvs, lim, small, D.place, E.fresh, rok, rngs, D.cut, D.sIx, guard', eq_dat, Int.fmod_eq_emod_of_nonneg, Int.fdiv_eq_ediv_of_nonneg, con0, dx, dy, q]
theorem middle_by (k : Nat) (i j s : Int) (h : AH) (hs : s = 1 ∨ s = -1) : call P (k+1) 15 [.tup [.int i, .int j], .int s] h = .ok (.tup [.int (2 * i + if (2 * (j % 2) - 1) * s = -1 then 1 else 0), .int (2 * j + if (2 * (i % 2) - 1) * s = 1 then 1 else 0)]) h := by
  rw [call_at e15 rfl]
  rcases hs with rfl | rfl
  all_goals simp [c15, isKd, D.ok, D.eqv, D.eqvs, lim, small, D.place, E.fresh, rok, rngs, D.cut, D.sIx, guard', eq_dat, Int.fmod_eq_emod_of_nonneg, Int.fdiv_eq_ediv_of_nonneg]
theorem own_block_in (k : Nat) (x y w : Int) (h : AH) : call P (k+1) 16 [.tup [.int x, .int y, .int w]] h = .ok (.tup [.int (x / 2), .int (y / 2)]) h := by
  rw [call_at e16 rfl]
  simp [c16, isKd, D.ok, D.eqv, D.eqvs, lim, small, D.place, E.fresh, rok, rngs, D.cut, D.sIx, guard', eq_dat, Int.fmod_eq_emod_of_nonneg, Int.fdiv_eq_ediv_of_nonneg]
theorem outward (k : Nat) (x : Int) (h : AH) : call P (k+1) 18 [.int x] h = .ok (.int (2 * (x % 2) - 1)) h := by
  rw [call_at e18 rfl]
  simp [c18, isKd, D.ok, D.eqv, D.eqvs, lim, small, D.place, E.fresh, rok, rngs, D.cut, D.sIx, guard', eq_dat, Int.fmod_eq_emod_of_nonneg, Int.fdiv_eq_ediv_of_nonneg]
abbrev pr (x y : Int) : D := .tup [.int x, .int y]
theorem sort4 (a b c d e f g i : Int) : sortL [pr a b, pr c d, pr e f, pr g i] = some (.lst (D.isort [pr a b, pr c d, pr e f, pr g i])) := rfl
def cells (x y w : Int) : List D := [pr x y, pr (x + dx w) (y + dy w), pr (x + dx (w + 1)) (y + dy (w + 1)), pr (x + dx (w - 1)) (y + dy (w - 1))]
def mx (i j s : Int) : Int := 2 * i + if (2 * (j % 2) - 1) * s = -1 then 1 else 0
def my (i j s : Int) : Int := 2 * j + if (2 * (i % 2) - 1) * s = 1 then 1 else 0
def sg (x y : Int) : Int := if mx (x / 2) (y / 2) 1 = x ∧ my (x / 2) (y / 2) 1 = y then 1 else if mx (x / 2) (y / 2) (-1) = x ∧ my (x / 2) (y / 2) (-1) = y then -1 else 0
def ow (x : Int) : Int := 2 * (x % 2) - 1
def gx (x w : Int) : Int := x / 2 + if w % 2 = 1 then ow x else 0
def gy (y w : Int) : Int := y / 2 + if w % 2 = 1 then 0 else ow y
def stm (x y : Int) (l : Bool) : Int := if l then (if y % 2 = 0 then 1 else 3) else (if x % 2 = 0 then 0 else 2)
theorem cells_in (k : Nat) (x y w : Int) (h : AH) : call P (k+2) 14 [.tup [.int x, .int y, .int w]] h = .ok (.tup (D.isort (cells x y w))) h := by
  rw [call_at e14 rfl]
  simp [c14, isKd, D.ok, D.eqv, D.eqvs, lim, small, D.place, E.fresh, rok, rngs, D.cut, D.sIx, guard', eq_dat, Int.fmod_eq_emod_of_nonneg, Int.fdiv_eq_ediv_of_nonneg, beside, sort4, cells]
theorem middle (k : Nat) (i j s : Int) (h : AH) (hs : s = 1 ∨ s = -1) : call P (k+1) 15 [.tup [.int i, .int j], .int s] h = .ok (pr (mx i j s) (my i j s)) h := by
  rw [call_at e15 rfl]
  rcases hs with rfl | rfl
  all_goals simp [c15, isKd, D.ok, D.eqv, D.eqvs, lim, small, D.place, E.fresh, rok, rngs, D.cut, D.sIx, guard', eq_dat, Int.fmod_eq_emod_of_nonneg, Int.fdiv_eq_ediv_of_nonneg, mx, my]
theorem sign_in (k : Nat) (x y w : Int) (h : AH) : call P (k+2) 17 [.tup [.int x, .int y, .int w]] h = .ok (.int (sg x y)) h := by
  rw [call_at e17 rfl]
  by_cases q0 : mx (x / 2) (y / 2) 1 = x <;>   by_cases q1 : my (x / 2) (y / 2) 1 = y <;>   by_cases q2 : mx (x / 2) (y / 2) (-1) = x <;>   by_cases q3 : my (x / 2) (y / 2) (-1) = y <;> simp [c17, isKd, D.ok, D.eqv, D.eqvs, lim, small, D.place, E.fresh, rok, rngs, D.cut, D.sIx, guard', eq_dat, Int.fmod_eq_emod_of_nonneg, Int.fdiv_eq_ediv_of_nonneg, own_block_in, middle, sg, q0, q1, q2, q3]
theorem goes_in (k : Nat) (x y w : Int) (h : AH) : call P (k+2) 19 [.tup [.int x, .int y, .int w]] h = .ok (pr (gx x w) (gy y w)) h := by
  rw [call_at e19 rfl]
  by_cases q0 : w % 2 = 1 <;> simp [c19, isKd, D.ok, D.eqv, D.eqvs, lim, small, D.place, E.fresh, rok, rngs, D.cut, D.sIx, guard', eq_dat, Int.fmod_eq_emod_of_nonneg, Int.fdiv_eq_ediv_of_nonneg, own_block_in, outward, gx, gy, ow, q0]
theorem stem_by (k : Nat) (x y : Int) (l : Bool) (h : AH) : call P (k+1) 20 [.tup [.int x, .int y], .bl l] h = .ok (.int (stm x y l)) h := by
  rw [call_at e20 rfl]
  by_cases q0 : y % 2 = 0 <;>   by_cases q1 : x % 2 = 0 <;> cases l <;> simp [c20, isKd, D.ok, D.eqv, D.eqvs, lim, small, D.place, E.fresh, rok, rngs, D.cut, D.sIx, guard', eq_dat, Int.fmod_eq_emod_of_nonneg, Int.fdiv_eq_ediv_of_nonneg, stm, q0, q1]
def inB (m n : Int) : D → Bool
  | .tup [.int i, .int j] => decide (0 ≤ i ∧ i < 4 * m ∧ 0 ≤ j ∧ j < 4 * n)
  | _ => false
theorem cells_mem {x y w : Int} {d : D} (h : d ∈ D.isort (cells x y w)) : ∃ i j, d = pr i j := by
  have h := (isort_perm _).mem_iff.mp h
  simp only [cells, List.mem_cons, List.mem_nil_iff, or_false] at h
  rcases h with rfl | rfl | rfl | rfl <;> exact ⟨_, _, rfl⟩
theorem cells_len (x y w : Int) : (D.isort (cells x y w)).length = 4 := (isort_perm _).length_eq
/-- can the piece lie -/
def lyB (m n x y w : Int) : Bool := decide (sg x y ≠ 0) && decide (w = stm x y (decide (w % 2 = 1))) && (cells x y w).all (inB m n)
theorem is_of_block (k : Nat) (m n x y w : Int) (h : AH) (q : 0 ≤ w ∧ w ≤ 3) : call P (k+5) 21 [.tup [.int m, .int n], .tup [.int x, .int y, .int w]] h = .ok (.bl (lyB m n x y w)) h := by
  rw [call_at e21 rfl]
  have ht : turns (turn P.G (call P (k + 4)) (.call 8 [.var 0, .var 2]) (.nm 2) [] [2] [some (.tup [.int m, .int n]), some (.tup [.int x, .int y, .int w]), none]) (D.isort (cells x y w)) h = .ok ((D.isort (cells x y w)).map fun d => .bl (inB m n d)) h := by
    refine turns_map _ fun d hd => ?_
    obtain ⟨i, j, rfl⟩ := cells_mem hd
    simp [is_cell_in, inB]
  unfold lyB
  generalize es : stm x y (decide (w % 2 = 1)) = st
  by_cases q0 : sg x y = 0
  · simp [c21, is_piece, sign_in, q, q0, isKd, D.ok, D.eqv, D.eqvs, lim, small, D.place, E.fresh, rok, rngs, D.cut, D.sIx, guard', eq_dat, Int.fmod_eq_emod_of_nonneg, Int.fdiv_eq_ediv_of_nonneg]
  · by_cases q1 : st = w
    · simp [c21, is_piece, sign_in, stem_by, cells_in, q, q0, es, q1, ht, bools_map, all_isort, cells_len, isKd, D.ok, D.eqv, D.eqvs, lim, small, D.place, E.fresh, rok, rngs, D.cut, D.sIx, guard', eq_dat, Int.fmod_eq_emod_of_nonneg, Int.fdiv_eq_ediv_of_nonneg]
    · have q2 : ¬ w = st := fun z => q1 z.symm
      simp [c21, is_piece, sign_in, stem_by, cells_in, q, q0, es, q1, q2, isKd, D.ok, D.eqv, D.eqvs, lim, small, D.place, E.fresh, rok, rngs, D.cut, D.sIx, guard', eq_dat, Int.fmod_eq_emod_of_nonneg, Int.fdiv_eq_ediv_of_nonneg]
abbrev sl (i j s : Int) (l : Bool) : D := .tup [.int (mx i j s), .int (my i j s), .int (stm (mx i j s) (my i j s) l)]
theorem piece_out (k : Nat) (i j s : Int) (l : Bool) (h : AH) (hs : s = 1 ∨ s = -1) : call P (k+2) 22 [.tup [.int i, .int j], .int s, .bl l] h = .ok (sl i j s l) h := by
  rw [call_at e22 rfl]
  simp [c22, isKd, D.ok, D.eqv, D.eqvs, lim, small, D.place, E.fresh, rok, rngs, D.cut, D.sIx, guard', eq_dat, Int.fmod_eq_emod_of_nonneg, Int.fdiv_eq_ediv_of_nonneg, middle, stem_by, hs]
theorem sure_lying (k : Nat) (m n x y w : Int) (h : AH) (hm : 1 ≤ m) (hn : 1 ≤ n) (q : 0 ≤ w ∧ w ≤ 3) (z : lyB m n x y w = true) : call P (k+6) 25 [.tup [.int m, .int n], .tup [.int x, .int y, .int w]] h = .ok (.tup [.tup [.int m, .int n], .tup [.int x, .int y, .int w]]) h := by
  rw [call_at e25 rfl]
  simp [c25, isKd, D.ok, D.eqv, D.eqvs, lim, small, D.place, E.fresh, rok, rngs, D.cut, D.sIx, guard', eq_dat, Int.fmod_eq_emod_of_nonneg, Int.fdiv_eq_ediv_of_nonneg, sure_floor, sure_piece, is_of_block, hm, hn, q, z]
theorem sure_lying_no (k : Nat) (m n x y w : Int) (h : AH) (hm : 1 ≤ m) (hn : 1 ≤ n) (q : 0 ≤ w ∧ w ≤ 3) (z : lyB m n x y w = false) : call P (k+6) 25 [.tup [.int m, .int n], .tup [.int x, .int y, .int w]] h = .ex ⟨6, none⟩ h := by
  rw [call_at e25 rfl]
  simp [c25, isKd, D.ok, D.eqv, D.eqvs, lim, small, D.place, E.fresh, rok, rngs, D.cut, D.sIx, guard', eq_dat, Int.fmod_eq_emod_of_nonneg, Int.fdiv_eq_ediv_of_nonneg, sure_floor, sure_piece, is_of_block, hm, hn, q, z]
theorem cells_of (k : Nat) (x y w : Int) (h : AH) (q : 0 ≤ w ∧ w ≤ 3) : call P (k+5) 26 [.lst [.int x, .int y, .int w]] h = .ok (.tup (D.isort (cells x y w))) h := by
  rw [call_at e26 rfl]
  simp [c26, isKd, D.ok, D.eqv, D.eqvs, lim, small, D.place, E.fresh, rok, rngs, D.cut, D.sIx, guard', eq_dat, Int.fmod_eq_emod_of_nonneg, Int.fdiv_eq_ediv_of_nonneg, sure_piecel, cells_in, q]
theorem can_lie (k : Nat) (m n x y w : Int) (h : AH) (hm : 1 ≤ m) (hn : 1 ≤ n) (q : 0 ≤ w ∧ w ≤ 3) : call P (k+6) 29 [.tup [.int m, .int n], .tup [.int x, .int y, .int w]] h = .ok (.bl (lyB m n x y w)) h := by
  rw [call_at e29 rfl]
  simp [c29, isKd, D.ok, D.eqv, D.eqvs, lim, small, D.place, E.fresh, rok, rngs, D.cut, D.sIx, guard', eq_dat, Int.fmod_eq_emod_of_nonneg, Int.fdiv_eq_ediv_of_nonneg, sure_floor, sure_piece, is_of_block, hm, hn, q]
theorem own_block (k : Nat) (m n x y w : Int) (h : AH) (hm : 1 ≤ m) (hn : 1 ≤ n) (q : 0 ≤ w ∧ w ≤ 3) (z : lyB m n x y w = true) : call P (k+7) 30 [.tup [.int m, .int n], .tup [.int x, .int y, .int w]] h = .ok (pr (x / 2) (y / 2)) h := by
  rw [call_at e30 rfl]
  simp [c30, isKd, D.ok, D.eqv, D.eqvs, lim, small, D.place, E.fresh, rok, rngs, D.cut, D.sIx, guard', eq_dat, Int.fmod_eq_emod_of_nonneg, Int.fdiv_eq_ediv_of_nonneg, sure_lying, own_block_in, hm, hn, q, z]
theorem own_block_no (k : Nat) (m n x y w : Int) (h : AH) (hm : 1 ≤ m) (hn : 1 ≤ n) (q : 0 ≤ w ∧ w ≤ 3) (z : lyB m n x y w = false) : call P (k+7) 30 [.tup [.int m, .int n], .tup [.int x, .int y, .int w]] h = .ex ⟨6, none⟩ h := by
  rw [call_at e30 rfl]
  simp [c30, isKd, D.ok, D.eqv, D.eqvs, lim, small, D.place, E.fresh, rok, rngs, D.cut, D.sIx, guard', eq_dat, Int.fmod_eq_emod_of_nonneg, Int.fdiv_eq_ediv_of_nonneg, sure_lying_no, hm, hn, q, z]
theorem left_out (k : Nat) (m n x y w : Int) (h : AH) (hm : 1 ≤ m) (hn : 1 ≤ n) (q : 0 ≤ w ∧ w ≤ 3) (z : lyB m n x y w = true) (hs : -sg x y = 1 ∨ -sg x y = -1) : call P (k+7) 31 [.tup [.int m, .int n], .tup [.int x, .int y, .int w]] h = .ok (pr (mx (x / 2) (y / 2) (-sg x y)) (my (x / 2) (y / 2) (-sg x y))) h := by
  rw [call_at e31 rfl]
  simp [c31, isKd, D.ok, D.eqv, D.eqvs, lim, small, D.place, E.fresh, rok, rngs, D.cut, D.sIx, guard', eq_dat, Int.fmod_eq_emod_of_nonneg, Int.fdiv_eq_ediv_of_nonneg, sure_lying, own_block_in, sign_in, (middle (k + 5) (x / 2) (y / 2) (-sg x y) h hs : call P (k + 6) 15 [.tup [.int (x / 2), .int (y / 2)], .int (-sg x y)] h = _), hm, hn, q, z]
theorem left_out_no (k : Nat) (m n x y w : Int) (h : AH) (hm : 1 ≤ m) (hn : 1 ≤ n) (q : 0 ≤ w ∧ w ≤ 3) (z : lyB m n x y w = false) : call P (k+7) 31 [.tup [.int m, .int n], .tup [.int x, .int y, .int w]] h = .ex ⟨6, none⟩ h := by
  rw [call_at e31 rfl]
  simp [c31, isKd, D.ok, D.eqv, D.eqvs, lim, small, D.place, E.fresh, rok, rngs, D.cut, D.sIx, guard', eq_dat, Int.fmod_eq_emod_of_nonneg, Int.fdiv_eq_ediv_of_nonneg, sure_lying_no, hm, hn, q, z]
theorem goes_to (k : Nat) (m n x y w : Int) (h : AH) (hm : 1 ≤ m) (hn : 1 ≤ n) (q : 0 ≤ w ∧ w ≤ 3) (z : lyB m n x y w = true) : call P (k+7) 32 [.tup [.int m, .int n], .tup [.int x, .int y, .int w]] h = .ok (pr (gx x w) (gy y w)) h := by
  rw [call_at e32 rfl]
  simp [c32, isKd, D.ok, D.eqv, D.eqvs, lim, small, D.place, E.fresh, rok, rngs, D.cut, D.sIx, guard', eq_dat, Int.fmod_eq_emod_of_nonneg, Int.fdiv_eq_ediv_of_nonneg, sure_lying, goes_in, hm, hn, q, z]
theorem goes_to_no (k : Nat) (m n x y w : Int) (h : AH) (hm : 1 ≤ m) (hn : 1 ≤ n) (q : 0 ≤ w ∧ w ≤ 3) (z : lyB m n x y w = false) : call P (k+7) 32 [.tup [.int m, .int n], .tup [.int x, .int y, .int w]] h = .ex ⟨6, none⟩ h := by
  rw [call_at e32 rfl]
  simp [c32, isKd, D.ok, D.eqv, D.eqvs, lim, small, D.place, E.fresh, rok, rngs, D.cut, D.sIx, guard', eq_dat, Int.fmod_eq_emod_of_nonneg, Int.fdiv_eq_ediv_of_nonneg, sure_lying_no, hm, hn, q, z]
theorem sign_of (k : Nat) (m n x y w : Int) (h : AH) (hm : 1 ≤ m) (hn : 1 ≤ n) (q : 0 ≤ w ∧ w ≤ 3) (z : lyB m n x y w = true) : call P (k+7) 33 [.tup [.int m, .int n], .tup [.int x, .int y, .int w]] h = .ok (.int (sg x y)) h := by
  rw [call_at e33 rfl]
  simp [c33, isKd, D.ok, D.eqv, D.eqvs, lim, small, D.place, E.fresh, rok, rngs, D.cut, D.sIx, guard', eq_dat, Int.fmod_eq_emod_of_nonneg, Int.fdiv_eq_ediv_of_nonneg, sure_lying, sign_in, hm, hn, q, z]
theorem sign_of_no (k : Nat) (m n x y w : Int) (h : AH) (hm : 1 ≤ m) (hn : 1 ≤ n) (q : 0 ≤ w ∧ w ≤ 3) (z : lyB m n x y w = false) : call P (k+7) 33 [.tup [.int m, .int n], .tup [.int x, .int y, .int w]] h = .ex ⟨6, none⟩ h := by
  rw [call_at e33 rfl]
  simp [c33, isKd, D.ok, D.eqv, D.eqvs, lim, small, D.place, E.fresh, rok, rngs, D.cut, D.sIx, guard', eq_dat, Int.fmod_eq_emod_of_nonneg, Int.fdiv_eq_ediv_of_nonneg, sure_lying_no, hm, hn, q, z]
theorem tie_told_no (k : Nat) (m n x y w : Int) (h : AH) (hm : 1 ≤ m) (hn : 1 ≤ n) (q : 0 ≤ w ∧ w ≤ 3) (z : lyB m n x y w = false) : call P (k+7) 34 [.tup [.int m, .int n], .tup [.int x, .int y, .int w]] h = .ex ⟨6, none⟩ h := by
  rw [call_at e34 rfl]
  simp [c34, isKd, D.ok, D.eqv, D.eqvs, lim, small, D.place, E.fresh, rok, rngs, D.cut, D.sIx, guard', eq_dat, Int.fmod_eq_emod_of_nonneg, Int.fdiv_eq_ediv_of_nonneg, sure_lying_no, hm, hn, q, z]
theorem on_floor (k : Nat) (m n x y w : Int) (h : AH) (hm : 1 ≤ m) (hn : 1 ≤ n) (q : 0 ≤ w ∧ w ≤ 3) : call P (k+6) 27 [.tup [.int m, .int n], .tup [.int x, .int y, .int w]] h = .ok (.bl ((cells x y w).all (inB m n))) h := by
  rw [call_at e27 rfl]
  have ht : turns (turn P.G (call P (k + 5)) (.call 8 [.var 2, .var 3]) (.nm 3) [] [3] [some (.tup [.int m, .int n]), some (.tup [.int x, .int y, .int w]), some (.tup [.int m, .int n]), none]) (D.isort (cells x y w)) h = .ok ((D.isort (cells x y w)).map fun d => .bl (inB m n d)) h := by
    refine turns_map _ fun d hd => ?_
    obtain ⟨i, j, rfl⟩ := cells_mem hd
    simp [is_cell_in, inB]
  simp [c27, sure_floor, sure_piece, cells_in, hm, hn, q, ht, bools_map, all_isort, cells_len, isKd, D.ok, D.eqv, D.eqvs, lim, small, D.place, E.fresh, rok, rngs, D.cut, D.sIx, guard', eq_dat, Int.fmod_eq_emod_of_nonneg, Int.fdiv_eq_ediv_of_nonneg]
def sm (x y w : Int) : Bool := decide (x / 2 / 2 = gx x w / 2 ∧ y / 2 / 2 = gy y w / 2)
def ox (x y w : Int) : Int := if sm x y w then (if w % 2 = 1 then x / 2 / 2 else x / 2 / 2 + ow x) else gx x w / 2
def oy (x y w : Int) : Int := if sm x y w then (if w % 2 = 1 then y / 2 / 2 + ow y else y / 2 / 2) else gy y w / 2
def tieD (a b c d : Int) (z : PySem.Str) : D := .tup [.tup [D.leastOf (pr a b) [pr c d], D.greatestOf (pr a b) [pr c d]], .str z]
def tieP (m n x y w : Int) : D := if 0 ≤ ox x y w ∧ ox x y w < m ∧ 0 ≤ oy x y w ∧ oy x y w < n then tieD (x / 2 / 2) (y / 2 / 2) (ox x y w) (oy x y w) (if sm x y w then "cut" else "tied") else .non
theorem min2 (a b c d : Int) : minL [pr a b, pr c d] = some (D.leastOf (pr a b) [pr c d]) := rfl
theorem max2 (a b c d : Int) : maxL [pr a b, pr c d] = some (D.greatestOf (pr a b) [pr c d]) := rfl
theorem least_ref (a b c d : Int) : (D.leastOf (pr a b) [pr c d]).isRef = false := by
  show (if D.ltb (pr c d) (pr a b) then pr c d else pr a b).isRef = false
  split <;> rfl
theorem great_ref (a b c d : Int) : (D.greatestOf (pr a b) [pr c d]).isRef = false := by
  show (if D.ltb (pr a b) (pr c d) then pr c d else pr a b).isRef = false
  split <;> rfl
theorem tie_in (k : Nat) (m n x y w : Int) (h : AH) : call P (k+3) 24 [.tup [.int m, .int n], .tup [.int x, .int y, .int w]] h = .ok (tieP m n x y w) h := by
  rw [call_at e24 rfl]
  unfold tieP ox oy
  have outw : ∀ (k : Nat) (x : Int) (h : AH), call P (k+1) 18 [.int x] h = .ok (.int (ow x)) h := outward
  by_cases q0 : sm x y w = true
  · have q1 : (x / 2 / 2 = gx x w / 2 ∧ y / 2 / 2 = gy y w / 2) := of_decide_eq_true q0
    by_cases q2 : w % 2 = 1
    · by_cases a1 : 0 ≤ x / 2 / 2 <;> by_cases a2 : x / 2 / 2 < m <;> by_cases a3 : 0 ≤ y / 2 / 2 + ow y <;> by_cases a4 : y / 2 / 2 + ow y < n <;> simp [c24, tieD, own_block_in, goes_in, outw, q0, q1.1.symm, q1.2.symm, q2, a1, a2, a3, a4, min2, max2, least_ref, great_ref, isKd, D.ok, D.eqv, D.eqvs, lim, small, D.place, E.fresh, rok, rngs, D.cut, D.sIx, guard', eq_dat, Int.fmod_eq_emod_of_nonneg, Int.fdiv_eq_ediv_of_nonneg]
    · by_cases a1 : 0 ≤ x / 2 / 2 + ow x <;> by_cases a2 : x / 2 / 2 + ow x < m <;> by_cases a3 : 0 ≤ y / 2 / 2 <;> by_cases a4 : y / 2 / 2 < n <;> simp [c24, tieD, own_block_in, goes_in, outw, q0, q1.1.symm, q1.2.symm, q2, a1, a2, a3, a4, min2, max2, least_ref, great_ref, isKd, D.ok, D.eqv, D.eqvs, lim, small, D.place, E.fresh, rok, rngs, D.cut, D.sIx, guard', eq_dat, Int.fmod_eq_emod_of_nonneg, Int.fdiv_eq_ediv_of_nonneg]
  · have q1 : ¬ (x / 2 / 2 = gx x w / 2 ∧ y / 2 / 2 = gy y w / 2) := fun z => q0 (decide_eq_true z)
    by_cases a1 : 0 ≤ gx x w / 2 <;> by_cases a2 : gx x w / 2 < m <;> by_cases a3 : 0 ≤ gy y w / 2 <;> by_cases a4 : gy y w / 2 < n <;> simp [c24, tieD, own_block_in, goes_in, outw, q0, q1, a1, a2, a3, a4, min2, max2, least_ref, great_ref, isKd, D.ok, D.eqv, D.eqvs, lim, small, D.place, E.fresh, rok, rngs, D.cut, D.sIx, guard', eq_dat, Int.fmod_eq_emod_of_nonneg, Int.fdiv_eq_ediv_of_nonneg]
theorem tieP_ref (m n x y w : Int) : (tieP m n x y w).isRef = false := by
  unfold tieP
  split <;> rfl
theorem tie_told (k : Nat) (m n x y w : Int) (h : AH) (hm : 1 ≤ m) (hn : 1 ≤ n) (q : 0 ≤ w ∧ w ≤ 3) (z : lyB m n x y w = true) : call P (k+7) 34 [.tup [.int m, .int n], .tup [.int x, .int y, .int w]] h = .ok (tieP m n x y w) h := by
  rw [call_at e34 rfl]
  simp [c34, isKd, D.ok, D.eqv, D.eqvs, lim, small, D.place, E.fresh, rok, rngs, D.cut, D.sIx, guard', eq_dat, Int.fmod_eq_emod_of_nonneg, Int.fdiv_eq_ediv_of_nonneg, close_rt (h := h) _ _ (tieP_ref m n x y w), sure_lying, tie_in, hm, hn, q, z]
abbrev tr (x y w : Int) : D := .tup [.int x, .int y, .int w]
theorem trips {L : List D} (h : ∀ d ∈ L, ∃ a b c, d = tr a b c) : sortL L = some (.lst (D.isort L)) := by
  have k1 : D.sortable L = true := by
    unfold D.sortable
    rw [Bool.and_eq_true, List.all_eq_true, List.all_eq_true]
    refine ⟨fun d hd => ?_, fun d hd => List.all_eq_true.mpr fun e he => ?_⟩
    · obtain ⟨a, b, c, rfl⟩ := h d hd
      rfl
    · obtain ⟨a, b, c, rfl⟩ := h d hd
      obtain ⟨a', b', c', rfl⟩ := h e he
      rfl
  have k2 : L.all isTup1 = true := List.all_eq_true.mpr fun d hd => by
    obtain ⟨a, b, c, rfl⟩ := h d hd
    rfl
  unfold sortL
  rw [k1, k2]
  rfl
def four (i j : Int) : List D := [sl i j 1 true, sl i j (-1) true, sl i j 1 false, sl i j (-1) false]
def goB (m n : Int) : D → Bool
  | .tup [.int x, .int y, .int w] => decide (0 ≤ gx x w ∧ gx x w < 2 * m ∧ 0 ≤ gy y w ∧ gy y w < 2 * n)
  | _ => false
theorem four_mem {i j : Int} {d : D} (h : d ∈ four i j) : ∃ a b c, d = tr a b c := by
  simp only [four, List.mem_cons, List.mem_nil_iff, or_false] at h
  rcases h with rfl | rfl | rfl | rfl <;> exact ⟨_, _, _, rfl⟩
theorem four_in (k : Nat) (m n i j : Int) (h : AH) : call P (k+5) 23 [.tup [.int m, .int n], .tup [.int i, .int j]] h = .ok (.lst (D.isort ((four i j).filter (goB m n)))) h := by
  rw [call_at e23 rfl]
  have po : ∀ (s : Int) (l : Bool) (h : AH), (s = 1 ∨ s = -1) → call P (k + 4) 22 [.tup [.int i, .int j], .int s, .bl l] h = .ok (sl i j s l) h := fun s l h hs => piece_out (k + 2) i j s l h hs
  have ht : ∀ σ : St', σ[0]? = some (some (.tup [.int m, .int n])) → 4 < σ.length → turns (turn P.G (call P (k + 4)) (.var 4) (.nm 4) [.call 9 [.var 0, .call 19 [.var 4]]] [4] σ) (four i j) h = .ok ((four i j).filter (goB m n)) h := by
    intro σ h0 hl
    have := turns_filter (h := h) (f := turn P.G (call P (k + 4)) (.var 4) (.nm 4) [.call 9 [.var 0, .call 19 [.var 4]]] [4] σ) (p := goB m n) (g := id) (four i j) fun d hd => by
      obtain ⟨a, b, c, rfl⟩ := four_mem hd
      have z0 : (σ.set 4 (some (tr a b c)))[0]? = some (some (.tup [.int m, .int n])) := by rw [List.getElem?_set_ne (by decide)]; exact h0
      have z4 : (σ.set 4 (some (tr a b c)))[4]? = some (some (tr a b c)) := List.getElem?_set_self hl
      simp [z0, z4, goes_in, is_block_in, goB, turnI_bl]
      split <;> rfl
    simpa using this
  have hs := trips (L := (four i j).filter (goB m n)) fun d hd => four_mem (List.mem_filter.mp hd).1
  have hlen : ((four i j).filter (goB m n)).length ≤ 4 := List.length_filter_le _ _
  have h1 : ev P.G (call P (k + 4)) (.bin .add (.cmpr (.call 22 [(.var 1), (.var 3), (.con (.bl true))]) (.nm 3) .it [(.tup [(.con (.int 1)), (.neg (.con (.int 1)))])] [] [3]) (.cmpr (.call 22 [(.var 1), (.var 3), (.con (.bl false))]) (.nm 3) .it [(.tup [(.con (.int 1)), (.neg (.con (.int 1)))])] [] [3])) [some (.tup [.int m, .int n]), some (.tup [.int i, .int j]), none, none, none] h = .ok (.lst (four i j)) h := by
    simp [po, four, isKd, D.ok, D.eqv, D.eqvs, lim, small, D.place, E.fresh, rok, rngs, D.cut, D.sIx, guard', eq_dat, Int.fmod_eq_emod_of_nonneg, Int.fdiv_eq_ediv_of_nonneg]
  show close h.length false (execs P.G (call P (k + 4)) P.W [.asg (.nm 2) _, .ret _] [some (.tup [.int m, .int n]), some (.tup [.int i, .int j]), none, none, none] h) = _
  rw [execs_cons, exec_asg]
  rw [h1]
  simp only [Res.out_ok, assign_nm, stored_some, andThen_nx, List.set]
  have hx : (D.isort ((four i j).filter (goB m n))).length ≤ 4 := by rw [(isort_perm _).length_eq]; exact hlen
  have hl2 : ((four i j).filter (goB m n)).length ≤ 16777216 := by omega
  simp [ht, hs, hl2, lim]
theorem four_of (k : Nat) (m n i j : Int) (h : AH) (hm : 1 ≤ m) (hn : 1 ≤ n) (q : 0 ≤ i ∧ i < 2 * m ∧ 0 ≤ j ∧ j < 2 * n) : call P (k+7) 28 [.tup [.int m, .int n], .lst [.int i, .int j]] h = .ok (.tup (D.isort ((four i j).filter (goB m n)))) h := by
  rw [call_at e28 rfl]
  simp [c28, isKd, D.ok, D.eqv, D.eqvs, lim, small, D.place, E.fresh, rok, rngs, D.cut, D.sIx, guard', eq_dat, Int.fmod_eq_emod_of_nonneg, Int.fdiv_eq_ediv_of_nonneg, sure_floor, sure_blockl, four_in, hm, hn, q]
def toB (i j : Int) : D → Bool
  | .tup [.int x, .int y, .int w] => decide (gx x w = i ∧ gy y w = j)
  | _ => false
/-- the first that goes there, or the end -/
def ptO (i j : Int) (L : List D) (h : AH) : Res D := match L.find? (toB i j) with
  | some d => .ok d h
  | none => .ex ⟨6, none⟩ h
theorem pt_loop (k : Nat) (i j : Int) (h : AH) (b : St' → AH → Out) (hb : ∀ σ h, b σ h = .ex ⟨6, none⟩ σ h) : ∀ (L : List D) (σ : St'), (∀ d ∈ L, ∃ a b c, d = tr a b c) → 4 < σ.length → σ[6]? = some (some (.tup [.int i, .int j])) →
    close h.length false (andThen b (loop (round P.G (call P (k + 5)) P.W (.nm 4) [.ite (.cmp .eq (.call 19 [(.var 4)]) (.var 6)) [.ret (.var 4)] []]) L σ h)) = ptO i j L h := by
  intro L
  induction L with
  | nil => intro σ _ _ _; simp [hb, ptO]
  | cons d L ih =>
    intro σ hL hl h6
    obtain ⟨x, y, w, rfl⟩ := hL d List.mem_cons_self
    have z4 : (σ.set 4 (some (tr x y w)))[4]? = some (some (tr x y w)) := List.getElem?_set_self hl
    have z6 : (σ.set 4 (some (tr x y w)))[6]? = some (some (.tup [.int i, .int j])) := by rw [List.getElem?_set_ne (by decide)]; exact h6
    have ih := ih (σ.set 4 (some (tr x y w))) (fun e he => hL e (List.mem_cons_of_mem _ he)) (by rw [List.length_set]; exact hl) z6
    by_cases q : gx x w = i ∧ gy y w = j
    · simp [z4, z6, goes_in, q, ptO, toB]
    · have q' : toB i j (tr x y w) = false := decide_eq_false q
      have e : ptO i j (tr x y w :: L) h = ptO i j L h := by unfold ptO; rw [List.find?_cons, q']
      rw [e, ← ih]
      simp [z4, z6, goes_in, q]
theorem piece_to (k : Nat) (m n i j a b : Int) (h : AH) (hm : 1 ≤ m) (hn : 1 ≤ n) (q : 0 ≤ i ∧ i < 2 * m ∧ 0 ≤ j ∧ j < 2 * n) (q2 : 0 ≤ a ∧ a < 2 * m ∧ 0 ≤ b ∧ b < 2 * n) :
    call P (k+6) 35 [.tup [.int m, .int n], .tup [.int i, .int j], .tup [.int a, .int b]] h = ptO a b (D.isort ((four i j).filter (goB m n))) h := by
  rw [call_at e35 rfl]
  have lp := pt_loop k a b h (execs P.G (call P (k + 5)) P.W [.raise 6 []]) (fun σ h => by simp) (D.isort ((four i j).filter (goB m n))) [some (.tup [.int m, .int n]), some (.tup [.int i, .int j]), some (.tup [.int a, .int b]), some (.tup [.int m, .int n]), none, some (.tup [.int i, .int j]), some (.tup [.int a, .int b]), none]
    (fun d hd => four_mem (List.mem_filter.mp ((isort_perm _).mem_iff.mp hd)).1) (by simp) rfl
  simp [c35, tupled2, is_long, are_numbers2, sure_floor, sure_block, four_in, hm, hn, q, q2, lp, isKd, D.ok, D.eqv, D.eqvs, lim, small, D.place, E.fresh, rok, rngs, D.cut, D.sIx, guard', eq_dat, Int.fmod_eq_emod_of_nonneg, Int.fdiv_eq_ediv_of_nonneg]
theorem piece_to_no (k : Nat) (m n i j a b : Int) (h : AH) (hm : 1 ≤ m) (hn : 1 ≤ n) (q : 0 ≤ i ∧ i < 2 * m ∧ 0 ≤ j ∧ j < 2 * n) (q2 : ¬ (0 ≤ a ∧ a < 2 * m ∧ 0 ≤ b ∧ b < 2 * n)) :
    call P (k+6) 35 [.tup [.int m, .int n], .tup [.int i, .int j], .tup [.int a, .int b]] h = .ex ⟨0, some (.tup [.int a, .int b])⟩ h := by
  rw [call_at e35 rfl]
  simp [c35, tupled2, is_long, are_numbers2, sure_floor, sure_block, sure_block_no, hm, hn, q, q2, isKd, D.ok, D.eqv, D.eqvs, lim, small, D.place, E.fresh, rok, rngs, D.cut, D.sIx, guard', eq_dat, Int.fmod_eq_emod_of_nonneg, Int.fdiv_eq_ediv_of_nonneg]
end K01
/-! Rh1 -/
set_option maxHeartbeats 1000000
/-! Rh1: lists that change, seen by the evaluator; the laws' own helpers that draw. -/
namespace Rf
open PySem
section
variable {h : AH} {σ : St'}
def ixO (i : Int) : Option AObj → Option D
  | some (.lst ds) => (D.place ds.length i).bind fun k => ds[k]?
  | _ => none
@[simp] theorem ixO_some (i : Int) (ds : List D) : ixO i (some (.lst ds)) = (D.place ds.length i).bind fun k => ds[k]? := rfl
@[simp] theorem index_ref (n : Nat) (i : Int) : index h (.ref n) (.int i) = ixO i h[n]? := by
  show (match seqOf h (.ref n) with
      | some ds => (D.place ds.length i).bind fun k => ds[k]?
      | none => none) = _
  show (match (match h[n]? with
    | some (.lst ds) => some ds
    | _ => none) with
      | some ds => (D.place ds.length i).bind fun k => ds[k]?
      | none => none) = _
  cases h[n]? with
  | none => rfl
  | some o => cases o <;> rfl
def sxO (h : AH) (n : Nat) (i : Int) (v : D) : Option AObj → Option AH
  | some (.lst ds) => if v.isRef then none else (D.place ds.length i).map fun k => h.set n (.lst (ds.set k v))
  | _ => none
@[simp] theorem sxO_some (n : Nat) (i : Int) (v : D) (ds : List D) : sxO h n i v (some (.lst ds)) = if v.isRef then none else (D.place ds.length i).map fun k => h.set n (.lst (ds.set k v)) := rfl
@[simp] theorem setIx_ref (n : Nat) (i : Int) (v : D) : setIx h (.ref n) (.int i) v = sxO h n i v h[n]? := by
  show (match h[n]? with
    | some (.lst ds) => if v.isRef then none else (D.place ds.length i).map fun k => h.set n (.lst (ds.set k v))
    | _ => none) = _
  cases h[n]? with
  | none => rfl
  | some o => cases o <;> rfl
def loO : Option AObj → Option (List D)
  | some (.lst ds) => some ds
  | _ => none
@[simp] theorem loO_some (ds : List D) : loO (some (.lst ds)) = some ds := rfl
@[simp] theorem listOf_ref (n : Nat) : listOf h (.ref n) = loO h[n]? := by
  show (match h[n]? with
    | some (.lst ds) => some ds
    | _ => none) = _
  cases h[n]? with
  | none => rfl
  | some o => cases o <;> rfl
@[simp] theorem seqOf_ref (n : Nat) : seqOf h (.ref n) = loO h[n]? := listOf_ref n
def apO (h : AH) (n : Nat) (d : D) : Option AObj → Res D
  | some (.lst ds) => if !d.isRef && decide (ds.length < lim) then .ok .non (h.set n (.lst (ds ++ [d]))) else .no
  | _ => .no
@[simp] theorem apO_some (n : Nat) (d : D) (ds : List D) : apO h n d (some (.lst ds)) = if !d.isRef && decide (ds.length < lim) then .ok .non (h.set n (.lst (ds ++ [d]))) else .no := rfl
@[simp] theorem mth_append (n : Nat) (d : D) : mth h .append (.ref n) [d] = apO h n d h[n]? := by
  show (match h[n]? with
    | some (.lst ds) => if !d.isRef && decide (ds.length < lim) then Res.ok D.non (h.set n (.lst (ds ++ [d]))) else .no
    | _ => .no) = _
  cases h[n]? with
  | none => rfl
  | some o => cases o <;> rfl
def poD (h : AH) (n : Nat) (ds : List D) : Option Nat → Res D
  | some k => (match ds[k]? with
        | some d => .ok d (h.set n (.lst (ds.eraseIdx k)))
        | none => .no)
  | none => .no
def poO (h : AH) (n : Nat) (i : Int) : Option AObj → Res D
  | some (.lst ds) => poD h n ds (D.place ds.length i)
  | _ => .no
@[simp] theorem poO_some (n : Nat) (i : Int) (ds : List D) : poO h n i (some (.lst ds)) = poD h n ds (D.place ds.length i) := rfl
@[simp] theorem mth_popAt (n : Nat) (i : Int) : mth h .popAt (.ref n) [.int i] = poO h n i h[n]? := by
  show (match h[n]? with
    | some (.lst ds) => (match D.place ds.length i with
      | some k => (match ds[k]? with
        | some d => Res.ok d (h.set n (.lst (ds.eraseIdx k)))
        | none => .no)
      | none => .no)
    | _ => .no) = _
  cases h[n]? with
  | none => rfl
  | some o => cases o <;> first
    | rfl
    | (rename_i ds
       show (match D.place ds.length i with
          | some k => _
          | none => _) = poD h n ds (D.place ds.length i)
       cases D.place ds.length i <;> rfl)
@[simp] theorem mth_count (ds : List D) (x : D) : mth h .count (.lst ds) [x] = if x.ok 30 && ds.all (D.ok 30) then .ok (.int (ds.filter fun z => D.eqv z x).length) h else .no := rfl
@[simp] theorem len_ref (n : Nat) : blt h .len [.ref n] = (loO h[n]?).map fun ds => .int ds.length := by
  show (seqOf h (.ref n)).map _ = _
  rw [seqOf_ref]
theorem close_own (fr : Bool) (ds : List D) (r : AH) : close h.length fr (.rt (.ref h.length) fr (h ++ AObj.lst ds :: r)) = .ok (.lst ds) h := by
  show (if h.length < h.length then _ else _) = _
  rw [if_neg (Nat.lt_irrefl _), List.getElem?_append_right (Nat.le_refl _), Nat.sub_self]
  show Res.ok (D.lst ds) ((h ++ AObj.lst ds :: r).take h.length) = _
  rw [List.take_left']
  rfl
@[simp] theorem close_own1 (f : Bool) (ds : List D) : close h.length false (.rt (.ref h.length) f (h ++ [AObj.lst ds])) = .ok (.lst ds) h := by
  have := close_own (h := h) false ds []
  cases f
  · exact this
  · exact this
@[simp] theorem at_end (x : AObj) (r : AH) : (h ++ x :: r)[h.length]? = some x := by
  rw [List.getElem?_append_right (Nat.le_refl _), Nat.sub_self]; rfl
@[simp] theorem set_end (x y : AObj) (r : AH) : (h ++ x :: r).set h.length y = h ++ y :: r := by
  rw [List.set_append_right _ _ (Nat.le_refl _), Nat.sub_self]; rfl
end

/-! ### drawing -/
/-- the state of the draws: at most B were made -/
def TI (B : Nat) (t : AObj) : Prop := ∃ a b c : Int, t = .lst [.int a, .int b, .int c] ∧ 0 ≤ a ∧ 0 ≤ b ∧ b < 4611686018427387904 ∧ 0 ≤ c ∧ c ≤ B
theorem TI.mono {B C : Nat} {t : AObj} (h : TI B t) (l : B ≤ C) : TI C t := by
  obtain ⟨a, b, c, e, h1, h2, h3, h4, h5⟩ := h
  exact ⟨a, b, c, e, h1, h2, h3, h4, by omega⟩
def takeC : Def := ⟨2, 6, [.ite (.cmp .gt (.ix (.var 0) (.con (.int 0))) (.con (.int 0))) [.asg (.nm 5) (.bin .mod (.blt .int [(.ix (.var 0) (.con (.int 0)))]) (.var 1)), .setix (.var 0) (.con (.int 0)) (.bin .fdiv (.ix (.var 0) (.con (.int 0))) (.var 1)), .ret (.var 5)] [], .setix (.var 0) (.con (.int 2)) (.bin .add (.ix (.var 0) (.con (.int 2))) (.con (.int 1))), .asg (.nm 2) (.bin .mod (.blt .int [(.bin .mul (.bin .add (.ix (.var 0) (.con (.int 1))) (.bin .mul (.con (.int 48271)) (.ix (.var 0) (.con (.int 2))))) (.bin .add (.con (.int 39373)) (.ix (.var 0) (.con (.int 2)))))]) (.con (.int 2147483647))), .asg (.nm 3) (.bin .add (.bin .mod (.blt .int [(.var 2)]) (.con (.int 40009))) (.con (.int 7))), .asg (.nm 4) (.bin .mod (.blt .int [(.bin .mul (.bin .add (.bin .add (.var 2) (.ix (.var 0) (.con (.int 2)))) (.bin .fdiv (.ix (.var 0) (.con (.int 1))) (.con (.int 1000003)))) (.var 3))]) (.con (.int 2147483629))), .ret (.bin .mod (.blt .int [(.bin .fdiv (.bin .mod (.blt .int [(.bin .add (.bin .mul (.var 4) (.con (.int 48271))) (.var 2))]) (.con (.int 2147483587))) (.con (.int 64)))]) (.var 1))], false⟩
theorem small_of {i : Int} (h1 : -(18446744073709551616) < i) (h2 : i < 18446744073709551616) : small i = true := by
  unfold small
  rw [Bool.and_eq_true, decide_eq_true_eq, decide_eq_true_eq]
  exact ⟨by omega, by omega⟩
theorem take_ok {P : Prg} {f : Nat} (e : P.defs f = some takeC) (k : Nat) {B : Nat} {t : AObj} (r : AH) {below : Int} (ht : TI B t) (hB : B ≤ 1152921504606846976) (h1 : 1 ≤ below) (h2 : below < 1073741824) :
    ∃ v t', call P (k + 1) f [.ref 0, .int below] (t :: r) = .ok (.int v) (t' :: r) ∧ 0 ≤ v ∧ v < below ∧ TI (B + 1) t' := by
  obtain ⟨a, b, c, rfl, ha, hb, hb2, hc, hc2⟩ := ht
  have g0 : below ≠ 0 := by omega
  have g1 : below.natAbs < 1073741824 := by omega
  have g2 : 0 ≤ below := by omega
  have g3 : (below != 0) = true := by simpa using g0
  rw [call_at e rfl]
  by_cases q : 0 < a
  · refine ⟨a % below, .lst [.int (a / below), .int b, .int c], ?_, Int.emod_nonneg _ g0, Int.emod_lt_of_pos _ (by omega), _, _, _, rfl, Int.ediv_nonneg ha g2, hb, hb2, hc, by omega⟩
    simp [takeC, q, D.place, guard', g1, g0, Int.fmod_eq_emod_of_nonneg, Int.fdiv_eq_ediv_of_nonneg, g2, close]
  · have s1 : small (39373 + (c + 1)) = true := small_of (by omega) (by omega)
    have s2 : small 48271 = true := rfl
    have s3 : ∀ x : Int, small (x % 40009 + 7) = true := fun x => small_of (by omega) (by omega)
    obtain ⟨w, hw⟩ : ∃ w : Int, close (AObj.lst [D.int a, D.int b, D.int c] :: r).length takeC.fresh (execs P.G (call P k) P.W takeC.body (List.map some [D.ref 0, D.int below] ++ List.replicate (takeC.m - takeC.n) none) (AObj.lst [D.int a, D.int b, D.int c] :: r)) = .ok (.int (w % below)) (.lst [.int a, .int b, .int (c + 1)] :: r) :=
      ⟨_, by
        simp [takeC, q, D.place, guard', g1, g0, Int.fmod_eq_emod_of_nonneg, Int.fdiv_eq_ediv_of_nonneg, g2, s1, s2, s3, close]
        rfl⟩
    exact ⟨w % below, _, hw, Int.emod_nonneg _ g0, Int.emod_lt_of_pos _ (by omega), _, _, _, rfl, ha, hb, hb2, by omega, by omega⟩

/-- turns that draw: at most c each -/
theorem turns_draw {f : D → AH → Res (Option D)} {Q : D → D → Prop} {c M : Nat} {r : AH} : ∀ (L : List D) (B : Nat) (t : AObj), (∀ d ∈ L, ∀ B t, TI B t → B ≤ M → ∃ x t', f d (t :: r) = .ok (some x) (t' :: r) ∧ Q d x ∧ TI (B + c) t') → TI B t → B + L.length * c ≤ M →
    ∃ xs t', turns f L (t :: r) = .ok xs (t' :: r) ∧ xs.length = L.length ∧ (∀ x ∈ xs, ∃ d ∈ L, Q d x) ∧ TI (B + L.length * c) t'
  | [], B, t, _, ht, _ => ⟨[], t, rfl, rfl, (fun x hx => by cases hx), (by simpa using ht)⟩
  | d :: L, B, t, hf, ht, hM => by
    have e : (d :: L).length * c = c + L.length * c := by rw [List.length_cons, Nat.succ_mul, Nat.add_comm]
    rw [e] at hM
    obtain ⟨x, t1, e1, q1, ht1⟩ := hf d List.mem_cons_self B t ht (by omega)
    obtain ⟨xs, t2, e2, l2, q2, ht2⟩ := turns_draw (Q := Q) (M := M) L (B + c) t1 (fun d hd => hf d (List.mem_cons_of_mem _ hd)) ht1 (by omega)
    refine ⟨x :: xs, t2, ?_, by rw [List.length_cons, List.length_cons, l2], fun y hy => ?_, by rw [e, ← Nat.add_assoc]; exact ht2⟩
    · rw [turns_cons, e1, turnsN_ok, e2, turnsK_some]
    · rcases List.mem_cons.mp hy with rfl | hy
      · exact ⟨d, List.mem_cons_self, q1⟩
      · obtain ⟨d', h1, h2⟩ := q2 y hy
        exact ⟨d', List.mem_cons_of_mem _ h1, h2⟩
theorem close_dat {d : D} {f : Bool} {n : Nat} {h : AH} (hd : d.isRef = false) (hn : h.length ≤ n) : close n false (.rt d f h) = .ok d h := by
  have e : h.take n = h := List.take_of_length_le hn
  cases d <;> first
    | (cases hd; done)
    | (show Res.ok _ (h.take n) = _
       rw [e])
def ofC (ft : Nat) : Def := ⟨2, 2, [.ret (.ix (.var 1) (.call ft [(.var 0), (.blt .len [(.var 1)])]))], false⟩
theorem place_of {n : Nat} {i : Int} (h1 : 0 ≤ i) (h2 : i < n) : D.place n i = some i.toNat := by
  unfold D.place
  rw [if_pos h1, if_pos h2]
theorem of_ok {P : Prg} {f ft : Nat} (e : P.defs f = some (ofC ft)) (et : P.defs ft = some takeC) (k : Nat) {B : Nat} {t : AObj} (r : AH) {ds : List D} (ht : TI B t) (hB : B ≤ 1152921504606846976) (h1 : 1 ≤ ds.length) (h2 : ds.length < 1073741824) (hr : ∀ d ∈ ds, d.isRef = false) :
    ∃ d ∈ ds, ∃ t', call P (k + 2) f [.ref 0, .lst ds] (t :: r) = .ok d (t' :: r) ∧ TI (B + 1) t' := by
  obtain ⟨v, t', e1, v0, v1, ht'⟩ := take_ok et k r (below := ds.length) ht hB (by omega) (by omega)
  have hv : v.toNat < ds.length := by omega
  refine ⟨ds[v.toNat], List.getElem_mem hv, t', ?_, ht'⟩
  rw [call_at e rfl]
  simp [ofC, e1, place_of v0 v1, List.getElem?_eq_getElem hv]
  exact close_dat (hr _ (List.getElem_mem hv)) (by simp)
/-! pieces of a loop -/
/-- rounds that keep an invariant and the heap's first place's -/
theorem loop_inv {f : D → St' → AH → Out} {I : St' → Prop} {T : AH → Prop} : ∀ (L : List D) (σ : St') (h : AH), (∀ d ∈ L, ∀ σ h, I σ → T h → ∃ σ' h', f d σ h = .nx σ' h' ∧ I σ' ∧ T h') → I σ → T h → ∃ σ' h', loop f L σ h = .nx σ' h' ∧ I σ' ∧ T h'
  | [], σ, h, _, i, t => ⟨σ, h, rfl, i, t⟩
  | d :: L, σ, h, hf, i, t => by
    obtain ⟨σ1, h1, e1, i1, t1⟩ := hf d List.mem_cons_self σ h i t
    obtain ⟨σ2, h2, e2, i2, t2⟩ := loop_inv L σ1 h1 (fun d hd => hf d (List.mem_cons_of_mem _ hd)) i1 t1
    exact ⟨σ2, h2, by rw [loop_cons, e1, again_nx, e2], i2, t2⟩
/-- the same with a number that grows -/
theorem loop_num {f : D → St' → AH → Out} {I : Nat → St' → AH → Prop} : ∀ (L : List D) (n : Nat) (σ : St') (h : AH), (∀ i (hi : i < L.length), ∀ σ h, I (n + i) σ h → ∃ σ' h', f L[i] σ h = .nx σ' h' ∧ I (n + i + 1) σ' h') → I n σ h → ∃ σ' h', loop f L σ h = .nx σ' h' ∧ I (n + L.length) σ' h'
  | [], n, σ, h, _, i => ⟨σ, h, rfl, i⟩
  | d :: L, n, σ, h, hf, i => by
    obtain ⟨σ1, h1, e1, i1⟩ := hf 0 (Nat.zero_lt_succ _) σ h i
    obtain ⟨σ2, h2, e2, i2⟩ := loop_num (I := I) L (n + 1) σ1 h1 (fun j hj σ h a => by
      have := hf (j + 1) (Nat.succ_lt_succ hj) σ h (by rw [show n + (j + 1) = n + 1 + j by omega]; exact a)
      rw [show n + (j + 1) + 1 = n + 1 + j + 1 by omega] at this
      exact this) i1
    exact ⟨σ2, h2, by rw [loop_cons, show f d σ h = _ from e1, again_nx, e2], by rw [List.length_cons, show n + (L.length + 1) = n + 1 + L.length by omega]; exact i2⟩
def pickC (ft : Nat) : Def := ⟨3, 6, [.par [4, 5] [true, true] [(.blt .list [(.var 1)]), (.lst [])], .for_ (.nm 3) .rng1 [(.blt .min [(.blt .int [(.var 2)]), (.blt .len [(.var 4)])])] [.expr (.mth .append (.var 5) [(.mth .popAt (.var 4) [(.call ft [(.var 0), (.blt .len [(.var 4)])])])])], .ret (.var 5)], false⟩
theorem min2i (a b : Int) : minL [.int a, .int b] = some (.int (if b < a then b else a)) := by
  show some (if D.ltb (.int b) (.int a) then D.int b else D.int a) = _
  show some (if decide (b < a) then D.int b else D.int a) = _
  by_cases q : b < a <;> simp [q]

theorem at2 (x y : AObj) : ∀ (r : AH) (t : AObj), (t :: (r ++ [x, y]))[r.length + 2]? = some y
  | [], _ => rfl
  | u :: r, t => by
    show ((u :: (r ++ [x, y])))[r.length + 2]? = some y
    exact at2 x y r u
theorem pool_step {P : Prg} {ft : Nat} (et : P.defs ft = some takeC) (k : Nat) {ps fs : List D} {B : Nat} {t : AObj} {r : AH} {o : Option D} {x1 x2 : Option D} {d : D} (ht : TI B t) (hB : B ≤ 1152921504606846976) (h1 : 1 ≤ ps.length) (h2 : ps.length < 1073741824) (hf : fs.length < 1073741) (hr : ∀ d ∈ ps, d.isRef = false) :
    ∃ p ∈ ps, ∃ ps' t', ps'.length + 1 = ps.length ∧ (∀ q ∈ ps', q ∈ ps) ∧ TI (B + 1) t' ∧
    round P.G (call P (k + 1)) P.W (.nm 3) [.expr (.mth .append (.var 5) [(.mth .popAt (.var 4) [(.call ft [(.var 0), (.blt .len [(.var 4)])])])])] d [some (.ref 0), x1, x2, o, some (.ref (r.length + 1)), some (.ref (r.length + 2))] (t :: r ++ [.lst ps, .lst fs])
    = .nx [some (.ref 0), x1, x2, some d, some (.ref (r.length + 1)), some (.ref (r.length + 2))] (t' :: r ++ [.lst ps', .lst (fs ++ [p])]) := by
  obtain ⟨v, t', e1, v0, v1, ht'⟩ := take_ok et k (r ++ [.lst ps, .lst fs]) (below := ps.length) ht hB (by omega) (by omega)
  have hv : v.toNat < ps.length := by omega
  have e1 : call P (k + 1) ft [.ref 0, .int ps.length] (t :: (r ++ [.lst ps, .lst fs])) = .ok (.int v) (t' :: (r ++ [.lst ps, .lst fs])) := e1
  refine ⟨ps[v.toNat], List.getElem_mem hv, ps.eraseIdx v.toNat, t', ?_, fun q hq => List.mem_of_mem_eraseIdx hq, ht', ?_⟩
  · rw [List.length_eraseIdx, if_pos hv]; omega
  · have i1 : (t :: (r ++ [AObj.lst ps, .lst fs]))[r.length + 1]? = some (.lst ps) := by
      rw [List.getElem?_cons_succ, List.getElem?_append_right (Nat.le_refl _), Nat.sub_self]; rfl
    have i2 : (t :: (r ++ [AObj.lst ps, .lst fs]))[r.length + 2]? = some (.lst fs) := by
      exact at2 _ _ _ _
    have i3 : (t' :: (r ++ [AObj.lst ps, .lst fs]))[r.length + 1]? = some (.lst ps) := by
      rw [List.getElem?_cons_succ, List.getElem?_append_right (Nat.le_refl _), Nat.sub_self]; rfl
    have i4 : (t' :: (r ++ [AObj.lst ps, .lst fs]))[r.length + 2]? = some (.lst fs) := by
      exact at2 _ _ _ _
    have hp : (ps[v.toNat]).isRef = false := hr _ (List.getElem_mem hv)
    have hl : fs.length < lim := by unfold lim; omega
    simp [e1, i1, i2, i3, i4, place_of v0 v1, poD, List.getElem?_eq_getElem hv, hp, hl]

theorem pick_ok {P : Prg} {f ft : Nat} (e : P.defs f = some (pickC ft)) (et : P.defs ft = some takeC) (k : Nat) {B : Nat} {t : AObj} (r : AH) {src : D} {ds : List D} {cnt : Int} (hs : ∀ h, blt h .list [src] = some (.lst ds)) (ht : TI B t) (hB : B + ds.length ≤ 1152921504606846976) (h2 : ds.length < 1000000) (hr : ∀ d ∈ ds, d.isRef = false) (hc : 0 ≤ cnt) (hc2 : cnt < 1000000) :
    ∃ xs t', call P (k + 2) f [.ref 0, src, .int cnt] (t :: r) = .ok (.lst xs) (t' :: r) ∧ (∀ x ∈ xs, x ∈ ds) ∧ (xs.length : Int) = min cnt ds.length ∧ TI (B + ds.length) t' := by
  rw [call_at e rfl]
  let n : Int := if (ds.length : Int) < cnt then ds.length else cnt
  have hn0 : 0 ≤ n := by show 0 ≤ (if (ds.length : Int) < cnt then (ds.length : Int) else cnt); split <;> omega
  have hn1 : n < 1000000 := by show (if (ds.length : Int) < cnt then (ds.length : Int) else cnt) < _; split <;> omega
  have hnl : n ≤ ds.length := by show (if (ds.length : Int) < cnt then (ds.length : Int) else cnt) ≤ _; split <;> omega
  have hmin : n = min cnt ds.length := by show (if (ds.length : Int) < cnt then (ds.length : Int) else cnt) = _; split <;> omega
  have rk : rok n = true := by
    unfold rok
    rw [Bool.and_eq_true, decide_eq_true_eq, decide_eq_true_eq]
    constructor <;> omega
  have st : execs P.G (call P (k + 1)) P.W [.par [4, 5] [true, true] [(.blt .list [(.var 1)]), (.lst [])]] [some (.ref 0), some src, some (.int cnt), none, none, none] (t :: r) = .nx [some (.ref 0), some src, some (.int cnt), none, some (.ref (r.length + 1)), some (.ref (r.length + 2))] (t :: r ++ [.lst ds, .lst []]) := by
    simp [hs, E.fresh, lim]
  let I : Nat → St' → AH → Prop := fun m σ h => ∃ (o : Option D) (ps fs : List D) (t : AObj), σ = [some (.ref 0), some src, some (.int cnt), o, some (.ref (r.length + 1)), some (.ref (r.length + 2))] ∧ h = t :: r ++ [.lst ps, .lst fs] ∧ ps.length + m = ds.length ∧ fs.length = m ∧ (∀ x ∈ ps, x ∈ ds) ∧ (∀ x ∈ fs, x ∈ ds) ∧ TI (B + m) t
  obtain ⟨σ', h', e2, o, ps, fs, t', rfl, rfl, l1, l2, m1, m2, ht'⟩ := loop_num (I := I) (f := round P.G (call P (k + 1)) P.W (.nm 3) [.expr (.mth .append (.var 5) [(.mth .popAt (.var 4) [(.call ft [(.var 0), (.blt .len [(.var 4)])])])])]) (rngs 0 n.toNat) 0 [some (.ref 0), some src, some (.int cnt), none, some (.ref (r.length + 1)), some (.ref (r.length + 2))] (t :: r ++ [.lst ds, .lst []])
    (fun i hi σ h ⟨o, ps, fs, t, e1, e2, l1, l2, m1, m2, ht⟩ => by
      subst e1 e2
      have hi : i < n.toNat := by simpa [rngs] using hi
      obtain ⟨p, hp, ps', t', a1, a2, a3, a4⟩ := pool_step et k (x1 := some src) (x2 := some (.int cnt)) (o := o) (d := (rngs 0 n.toNat)[i]'(by simpa [rngs] using hi)) (r := r) (fs := fs) ht (by omega) (ps := ps) (by omega) (by omega) (by omega) (fun d hd => hr d (m1 d hd))
      refine ⟨_, _, a4, _, ps', fs ++ [p], t', rfl, rfl, by omega, by rw [List.length_append, l2]; rfl, fun x hx => m1 x (a2 x hx), fun x hx => ?_, by rw [show B + (0 + i + 1) = B + (0 + i) + 1 by omega]; exact a3⟩
      rcases List.mem_append.mp hx with hx | hx
      · exact m2 x hx
      · rw [List.mem_singleton.mp hx]; exact m1 p hp)
    ⟨none, ds, [], t, rfl, rfl, rfl, rfl, fun x hx => hx, (fun x hx => by cases hx), ht⟩
  have hl : (rngs 0 n.toNat).length = n.toNat := by simp [rngs]
  refine ⟨fs, t', ?_, m2, by omega, ht'.mono (by omega)⟩
  have i1 : (t :: (r ++ [AObj.lst ds, .lst []]))[r.length + 1]? = some (.lst ds) := by
    rw [List.getElem?_cons_succ, List.getElem?_append_right (Nat.le_refl _), Nat.sub_self]; rfl
  have mn : minL [.int cnt, .int ds.length] = some (.int n) := min2i _ _
  show close (r.length + 1) false (execs P.G (call P (k + 1)) P.W ([_] ++ [_, _]) _ (t :: r)) = _
  rw [List.singleton_append, execs_cons]
  have st' : exec P.G (call P (k + 1)) P.W (.par [4, 5] [true, true] [(.blt .list [(.var 1)]), (.lst [])]) [some (.ref 0), some src, some (.int cnt), none, none, none] (t :: r) = .nx [some (.ref 0), some src, some (.int cnt), none, some (.ref (r.length + 1)), some (.ref (r.length + 2))] (t :: r ++ [.lst ds, .lst []]) := by
    simp [hs, E.fresh, lim]
  show close (r.length + 1) false (andThen _ (exec P.G (call P (k + 1)) P.W _ [some (.ref 0), some src, some (.int cnt), none, none, none] (t :: r))) = _
  rw [st', andThen_nx, execs_cons, exec_for]
  have e2' : loop (round P.G (call P (k + 1)) P.W (.nm 3) [.expr (.mth .append (.var 5) [(.mth .popAt (.var 4) [(.call ft [(.var 0), (.blt .len [(.var 4)])])])])]) (rngs 0 n.toNat) [some (.ref 0), some src, some (.int cnt), none, some (.ref (r.length + 1)), some (.ref (r.length + 2))] (t :: (r ++ [.lst ds, .lst []])) = _ := e2
  simp [i1, mn, rk, e2', lim, E.fresh]
  show (if r.length + 2 < r.length + 1 then _ else _) = _
  rw [if_neg (by omega)]
  rw [show (t' :: (r ++ [AObj.lst ps, AObj.lst fs]))[r.length + 2]? = _ from at2 _ _ _ _]
  show Res.ok (D.lst fs) _ = _
  congr 1
  simp
end Rf
/-! Rh2 -/
set_option maxHeartbeats 1000000
/-! Rh2: the laws' own helpers that compare, tell, make a FLOOR. -/
namespace Rf
open PySem
/-- plain, so deep at the most, no row too long -/
def fits : Nat → D → Bool
  | _, .non => true
  | _, .bl _ => true
  | _, .int _ => true
  | _, .str s => PyData.strOk s
  | n + 1, .tup ds => decide (ds.length ≤ lim) && ds.all (fits n)
  | n + 1, .lst ds => decide (ds.length ≤ lim) && ds.all (fits n)
  | _, _ => false
theorem fits_ref {n : Nat} {d : D} (h : fits n d = true) : d.isRef = false := by
  cases d <;> first | rfl | (cases n <;> cases h)
theorem fits_ok : ∀ (n : Nat) (d : D), fits n d = true → d.ok n = true
  | _, .non, _ => by simp [D.ok]
  | _, .bl _, _ => by simp [D.ok]
  | _, .int _, _ => by simp [D.ok]
  | _, .str s, h => by simpa [D.ok, fits] using h
  | 0, .tup _, h => by cases h
  | 0, .lst _, h => by cases h
  | n + 1, .tup ds, h => by
    have h : (decide (ds.length ≤ lim) && ds.all (fits n)) = true := h
    rw [Bool.and_eq_true] at h
    show ds.all (D.ok n) = true
    exact List.all_eq_true.mpr fun x hx => fits_ok n x (List.all_eq_true.mp h.2 x hx)
  | n + 1, .lst ds, h => by
    have h : (decide (ds.length ≤ lim) && ds.all (fits n)) = true := h
    rw [Bool.and_eq_true] at h
    show ds.all (D.ok n) = true
    exact List.all_eq_true.mpr fun x hx => fits_ok n x (List.all_eq_true.mp h.2 x hx)
  | n, .dct _ _, h => by cases n <;> cases h
  | n, .ref _, h => by cases n <;> cases h
  | n, .fn _, h => by cases n <;> cases h
theorem ok_mono : ∀ (n m : Nat) (d : D), n ≤ m → d.ok n = true → d.ok m = true
  | _, _, .non, _, _ => by simp [D.ok]
  | _, _, .bl _, _, _ => by simp [D.ok]
  | _, _, .int _, _, _ => by simp [D.ok]
  | _, _, .str s, _, h => by simpa [D.ok] using h
  | 0, _, .tup _, _, h => by cases h
  | 0, _, .lst _, _, h => by cases h
  | n + 1, 0, .tup ds, l, h => by omega
  | n + 1, 0, .lst ds, l, h => by omega
  | n + 1, m + 1, .tup ds, l, h => by
    have h : ds.all (D.ok n) = true := h
    show ds.all (D.ok m) = true
    exact List.all_eq_true.mpr fun x hx => ok_mono n m x (by omega) (List.all_eq_true.mp h x hx)
  | n + 1, m + 1, .lst ds, l, h => by
    have h : ds.all (D.ok n) = true := h
    show ds.all (D.ok m) = true
    exact List.all_eq_true.mpr fun x hx => ok_mono n m x (by omega) (List.all_eq_true.mp h x hx)
  | n, m, .dct _ _, _, h => by cases n <;> cases h
  | n, m, .ref _, _, h => by cases n <;> cases h
  | n, m, .fn _, _, h => by cases n <;> cases h
theorem eqv_refl : ∀ (n : Nat) (d : D), d.ok n = true → D.eqv d d = true
  | _, .non, _ => rfl
  | _, .bl _, _ => by simp [D.eqv]
  | _, .int _, _ => by simp [D.eqv]
  | _, .str s, _ => by simp [D.eqv]
  | 0, .tup _, h => by cases h
  | 0, .lst _, h => by cases h
  | n + 1, .tup ds, h => by
    have h : ds.all (D.ok n) = true := h
    show D.eqvs ds ds = true
    have go : ∀ L : List D, L.all (D.ok n) = true → D.eqvs L L = true := by
      intro L
      induction L with
      | nil => intro _; rfl
      | cons x L ih =>
        intro h
        rw [List.all_cons, Bool.and_eq_true] at h
        show (D.eqv x x && D.eqvs L L) = true
        rw [eqv_refl n x h.1, ih h.2]
        rfl
    exact go ds h
  | n + 1, .lst ds, h => by
    have h : ds.all (D.ok n) = true := h
    show D.eqvs ds ds = true
    have go : ∀ L : List D, L.all (D.ok n) = true → D.eqvs L L = true := by
      intro L
      induction L with
      | nil => intro _; rfl
      | cons x L ih =>
        intro h
        rw [List.all_cons, Bool.and_eq_true] at h
        show (D.eqv x x && D.eqvs L L) = true
        rw [eqv_refl n x h.1, ih h.2]
        rfl
    exact go ds h
  | n, .dct _ _, h => by cases n <;> cases h
  | n, .ref _, h => by cases n <;> cases h
  | n, .fn _, h => by cases n <;> cases h
@[simp] theorem eq_bl {h : AH} (a b : Bool) : eqD h (.bl a) (.bl b) = some (a == b) := by
  rw [eq_dat rfl rfl rfl rfl]; rfl
theorem eqD_self {h : AH} {d : D} (hr : d.isRef = false) (ho : d.ok 30 = true) : eqD h d d = some true := by
  rw [eq_dat hr hr ho ho, eqv_refl 30 d ho]
@[simp] theorem isEmpty_map' {α β : Type} (f : α → β) (L : List α) : (L.map f).isEmpty = L.isEmpty := by cases L <;> rfl
def sameC (f : Nat) : Def := ⟨2, 4, [.ite (.blt .isListTuple [(.var 1)]) [.ite (.or (.cmp .ne (.blt .isList [(.var 0)]) (.blt .isList [(.var 1)])) (.cmp .ne (.blt .isTuple [(.var 0)]) (.blt .isTuple [(.var 1)]))) [.ret (.con (.bl false))] [], .ret (.and (.cmp .eq (.blt .len [(.var 0)]) (.blt .len [(.var 1)])) (.blt .all [(.cmpr (.call f [(.var 2), (.var 3)]) (.tp [(.nm 2), (.nm 3)]) .zip [(.var 0), (.var 1)] [] [2, 3])]))] [], .ite (.cmp .is (.var 1) (.con .non)) [.ret (.cmp .is (.var 0) (.con .non))] [], .ite (.blt .isBoolStr [(.var 1)]) [.ret (.and (.cmp .eq (.blt .isBool [(.var 0)]) (.blt .isBool [(.var 1)])) (.and (.cmp .eq (.blt .isStr [(.var 0)]) (.blt .isStr [(.var 1)])) (.cmp .eq (.var 0) (.var 1))))] [], .ret (.and (.blt .isInt [(.var 0)]) (.and (.not (.blt .isBool [(.var 0)])) (.cmp .eq (.var 0) (.var 1))))], false⟩
theorem zips_mem : ∀ {L : List D} {d : D}, d ∈ zips L L → ∃ a ∈ L, d = .tup [a, a]
  | a :: L, d, h => by
    rcases List.mem_cons.mp h with rfl | h
    · exact ⟨a, List.mem_cons_self, rfl⟩
    · obtain ⟨b, hb, e⟩ := zips_mem h
      exact ⟨b, List.mem_cons_of_mem _ hb, e⟩
theorem zipL_len : ∀ L : List D, (zips L L).length = L.length
  | [] => rfl
  | a :: L => by show (zips L L).length + 1 = _; rw [zipL_len L]; rfl
theorem bools_true : ∀ L : List D, boolsOf (L.map fun _ => D.bl true) = some (L.map fun _ => true) := bools_map _
theorem all_true : ∀ L : List D, (L.map fun _ => true).all id = true := fun L => by
  rw [List.all_eq_true]; intro x hx; obtain ⟨_, _, rfl⟩ := List.mem_map.mp hx; rfl
theorem same_ok {P : Prg} {f : Nat} (e : P.defs f = some (sameC f)) : ∀ (n k : Nat) (d : D) (h : AH), fits n d = true → n ≤ 30 → call P (k + n + 1) f [d, d] h = .ok (.bl true) h := by
  intro n
  induction n with
  | zero =>
    intro k d h hf hn
    rw [call_at e rfl]
    cases d with
    | non => simp [sameC, isKd]
    | bl b => simp [sameC, isKd]
    | int i => simp [sameC, isKd]
    | str s =>
      have hs : PyData.strOk s = true := hf
      simp [sameC, isKd, eqD_self (d := .str s) rfl hs]
    | _ => cases hf
  | succ n ih =>
    intro k d h hf hn
    have tr : ∀ (ds : List D) (σ : St') , 3 < σ.length → ds.all (fits n) = true → turns (turn P.G (call P (k + (n + 1))) (.call f [(.var 2), (.var 3)]) (.tp [(.nm 2), (.nm 3)]) [] [2, 3] σ) (zips ds ds) h = .ok ((zips ds ds).map fun _ => D.bl true) h := by
      intro ds σ hσ hds
      refine turns_map _ fun z hz => ?_
      obtain ⟨a, ha, rfl⟩ := zips_mem hz
      have hi := ih k a h (List.all_eq_true.mp hds a ha) (by omega)
      have i2 : ((((σ.set 3 none).set 2 none).set 2 (some a)).set 3 (some a))[2]? = some (some a) := by
        rw [List.getElem?_set_ne (by decide)]
        exact List.getElem?_set_self (by simp; omega)
      have i3 : ((((σ.set 3 none).set 2 none).set 2 (some a)).set 3 (some a))[3]? = some (some a) := List.getElem?_set_self (by simp; omega)
      have hi' : call P (k + (n + 1)) f [a, a] h = .ok (.bl true) h := hi
      rw [List.set_set] at i2 i3
      simp [i2, i3, hi']
    rw [call_at e rfl]
    cases d with
    | non => simp [sameC, isKd]
    | bl b => simp [sameC, isKd]
    | int i => simp [sameC, isKd]
    | str s =>
      have hs : PyData.strOk s = true := hf
      simp [sameC, isKd, eqD_self (d := .str s) rfl hs]
    | tup ds =>
      have hf : (decide (ds.length ≤ lim) && ds.all (fits n)) = true := hf
      rw [Bool.and_eq_true, decide_eq_true_eq] at hf
      have t := tr ds [some (.tup ds), some (.tup ds), none, none] (by simp) hf.2
      have l1 : (zips ds ds).length ≤ lim := by rw [zipL_len]; exact hf.1
      have a1 := all_true (zips ds ds)
      simp [sameC, isKd, t, l1, bools_true, a1, eq_dat, D.ok, D.eqv]
    | lst ds =>
      have hf : (decide (ds.length ≤ lim) && ds.all (fits n)) = true := hf
      rw [Bool.and_eq_true, decide_eq_true_eq] at hf
      have t := tr ds [some (.lst ds), some (.lst ds), none, none] (by simp) hf.2
      have l1 : (zips ds ds).length ≤ lim := by rw [zipL_len]; exact hf.1
      have a1 := all_true (zips ds ds)
      simp [sameC, isKd, t, l1, bools_true, a1, eq_dat, D.ok, D.eqv]
    | _ => cases hf
end Rf
/-! Rh3 -/
set_option maxHeartbeats 1000000
/-! Rh3: a law's start; lists for tuples; what a call tells. -/
namespace Rf
open PySem
def toL : Nat → D → D
  | n + 1, .tup ds => .lst (ds.map (toL n))
  | n + 1, .lst ds => .lst (ds.map (toL n))
  | _, d => d
def listsC (f : Nat) : Def := ⟨1, 2, [.ret (.ite (.blt .isListTuple [(.var 0)]) (.cmpr (.call f [(.var 1)]) (.nm 1) .it [(.var 0)] [] [1]) (.var 0))], false⟩
theorem toL_ref {n : Nat} {d : D} (h : fits n d = true) : (toL n d).isRef = false := by
  cases n <;> cases d <;> first | rfl | cases h
theorem lists_ok {P : Prg} {f : Nat} (e : P.defs f = some (listsC f)) : ∀ (n k : Nat) (d : D) (h : AH), fits n d = true → call P (k + n + 1) f [d] h = .ok (toL n d) h := by
  intro n
  induction n with
  | zero =>
    intro k d h hf
    rw [call_at e rfl]
    cases d with
    | tup _ => cases hf
    | lst _ => cases hf
    | dct _ _ => cases hf
    | ref _ => cases hf
    | fn _ => cases hf
    | _ => simp [listsC, isKd, toL]
  | succ n ih =>
    intro k d h hf
    have tr : ∀ (ds : List D) (σ : St') , 1 < σ.length → ds.all (fits n) = true → turns (turn P.G (call P (k + (n + 1))) (.call f [(.var 1)]) (.nm 1) [] [1] σ) ds h = .ok (ds.map (toL n)) h := by
      intro ds σ hσ hds
      refine turns_map _ fun z hz => ?_
      have hz' := List.all_eq_true.mp hds z hz
      have hi : call P (k + (n + 1)) f [z] h = .ok (toL n z) h := ih k z h hz'
      have i1 : (σ.set 1 (some z))[1]? = some (some z) := List.getElem?_set_self hσ
      simp [i1, hi, toL_ref hz']
    rw [call_at e rfl]
    cases d with
    | tup ds =>
      have hf : (decide (ds.length ≤ lim) && ds.all (fits n)) = true := hf
      rw [Bool.and_eq_true, decide_eq_true_eq] at hf
      have t := tr ds [some (.tup ds), none] (by simp) hf.2
      simp [listsC, isKd, t, hf.1, toL]
    | lst ds =>
      have hf : (decide (ds.length ≤ lim) && ds.all (fits n)) = true := hf
      rw [Bool.and_eq_true, decide_eq_true_eq] at hf
      have t := tr ds [some (.lst ds), none] (by simp) hf.2
      simp [listsC, isKd, t, hf.1, toL]
    | dct _ _ => cases hf
    | ref _ => cases hf
    | fn _ => cases hf
    | _ => simp [listsC, isKd, toL]
def cellsC : Def := ⟨2, 6, [.thaw 2 (.or (.blt .list [(.sl (.var 0) none (some (.var 1)))]) (.lst [(.con (.int 0))])), .for_ (.tp [(.nm 3), (.nm 4)]) .enm [(.sl (.var 0) (some (.var 1)) (some (.con (.int 63))))] [.asg (.nm 5) (.bin .mod (.blt .int [(.var 3)]) (.var 1)), .setix (.var 2) (.var 5) (.bin .add (.ix (.var 2) (.var 5)) (.bin .mul (.var 4) (.bin .add (.var 3) (.con (.int 2)))))], .ret (.var 2)], false⟩
theorem enums_mem : ∀ (L : List D) (n : Nat) {d : D}, d ∈ enums n L → ∃ (i : Nat) (v : D), v ∈ L ∧ d = .tup [.int i, v] ∧ i < n + L.length
  | x :: L, n, d, h => by
    rcases List.mem_cons.mp h with rfl | h
    · exact ⟨n, x, List.mem_cons_self, rfl, by simp⟩
    · obtain ⟨i, v, h1, h2, h3⟩ := enums_mem L (n + 1) h
      exact ⟨i, v, List.mem_cons_of_mem _ h1, h2, by simp; omega⟩
theorem cells_ok {P : Prg} {f : Nat} (e : P.defs f = some cellsC) (k : Nat) (ns : List Int) (hl : ns.length ≤ 63) (h : AH) : ∃ s : Int, call P (k + 1) f [.lst (ns.map .int), .int 1] h = .ok (.lst [.int s]) h := by
  rw [call_at e rfl]
  obtain ⟨s0, e0⟩ : ∃ s0 : Int, exec P.G (call P k) P.W (.thaw 2 (.or (.blt .list [(.sl (.var 0) none (some (.var 1)))]) (.lst [(.con (.int 0))]))) [some (.lst (ns.map .int)), some (.int 1), none, none, none, none] h = .nx [some (.lst (ns.map .int)), some (.int 1), some (.ref h.length), none, none, none] (h ++ [.lst [.int s0]]) := by
    cases ns with
    | nil => exact ⟨0, by simp [D.cut, D.sIx, E.fresh, lim]⟩
    | cons n ns =>
      refine ⟨n, ?_⟩
      have : min 1 (ns.length + 1) = 1 := by omega
      simp [D.cut, D.sIx, E.fresh, this]
  let I : St' → Prop := fun σ => ∃ a b c, σ = [some (.lst (ns.map .int)), some (.int 1), some (.ref h.length), a, b, c]
  let T : AH → Prop := fun h' => ∃ s : Int, h' = h ++ [.lst [.int s]]
  obtain ⟨L, hL, hL2⟩ : ∃ L, D.cut (ns.map D.int) (some 1) (some 63) = L ∧ ∀ d ∈ enums 0 L, ∃ i v : Int, d = .tup [.int i, .int v] ∧ 0 ≤ i ∧ i < 100 := by
    refine ⟨_, rfl, fun d hd => ?_⟩
    obtain ⟨i, v, h1, h2, h3⟩ := enums_mem _ _ hd
    have h1' : v ∈ ns.map D.int := by
      unfold D.cut at h1
      exact List.mem_of_mem_drop (List.mem_of_mem_take h1)
    obtain ⟨w, _, rfl⟩ := List.mem_map.mp h1'
    have : (D.cut (ns.map D.int) (some 1) (some 63)).length ≤ 63 := by
      unfold D.cut
      rw [List.length_take, List.length_drop, List.length_map]; omega
    exact ⟨i, w, h2, by omega, by omega⟩
  obtain ⟨σ', h', e2, ⟨a, b, c, rfl⟩, s, rfl⟩ := loop_inv (I := I) (T := T) (f := round P.G (call P k) P.W (.tp [(.nm 3), (.nm 4)]) [.asg (.nm 5) (.bin .mod (.blt .int [(.var 3)]) (.var 1)), .setix (.var 2) (.var 5) (.bin .add (.ix (.var 2) (.var 5)) (.bin .mul (.var 4) (.bin .add (.var 3) (.con (.int 2)))))]) (enums 0 L) [some (.lst (ns.map .int)), some (.int 1), some (.ref h.length), none, none, none] (h ++ [.lst [.int s0]])
    (fun d hd σ h' ⟨a, b, c, e1⟩ ⟨s, e2⟩ => by
      subst e1 e2
      obtain ⟨i, v, rfl, h0, h1⟩ := hL2 d hd
      have sm : small (i + 2) = true := small_of (by omega) (by omega)
      have m1 : i.fmod 1 = 0 := by rw [Int.fmod_eq_emod_of_nonneg _ (by decide)]; omega
      refine ⟨_, _, ?_, ⟨some (.int i), some (.int v), some (.int 0), rfl⟩, ⟨s + v * (i + 2), rfl⟩⟩
      simp [guard', m1, D.place, sm])
    ⟨_, _, _, rfl⟩ ⟨_, rfl⟩
  refine ⟨s, ?_⟩
  show close h.length false (execs P.G (call P k) P.W [_, _, _] [some (.lst (ns.map .int)), some (.int 1), none, none, none, none] h) = _
  rw [execs_cons, e0, andThen_nx, execs_cons, exec_for]
  simp [hL, e2]
def boxK (K c : Int) : Def := ⟨2, 3, [.asg (.nm 2) (.ite (.cmp .lt (.var 1) (.blt .len [(.var 0)])) (.ix (.var 0) (.var 1)) (.con (.int 0))), .ret (.lst [(.bin .mul (.blt .abs [(.var 2)]) (.blt .int [(.cmp .ge (.blt .abs [(.var 2)]) (.bin .pow (.con (.int 10)) (.con (.int 18))))])), (.bin .add (.bin .add (.bin .mod (.blt .int [(.var 2)]) (.con (.int K))) (.bin .mul (.con (.int 39373)) (.var 1))) (.con (.int c))), (.con (.int 0))])], true⟩
@[simp] theorem pow_int {h : AH} (a b : Int) : op2 h .pow (.int a) (.int b) = guard' (decide (0 ≤ b) && decide (b ≤ 1000000) && decide (a.natAbs < 2 ^ 64)) (.int (a ^ b.toNat)) := rfl
theorem close_lstT {h : AH} (ds : List D) : close h.length true (.rt (.lst ds) true h) = .ok (.lst ds) h := by
  show Res.ok _ (h.take h.length) = _
  rw [List.take_length]
def boxC (c : Int) : Def := boxK 2305843009213693951 c
theorem box_pow (h : AH) : op2 h .pow (.int 10) (.int 18) = some (.int ((10 : Int) ^ 18)) := by
  rw [pow_int]; rfl
theorem box_mod (s : Int) : s.fmod 2305843009213693951 = s % 2305843009213693951 := Int.fmod_eq_emod_of_nonneg _ (by omega)
theorem box_c (G cl) (A M : Int) (X Y : E) (h : AH) (σ : St') (pe : ev G cl X σ h = .ok (.int M) h) (py : ev G cl Y σ h = .ok (.int A) h) : ev G cl ((.bin .mul Y (.blt .int [(.cmp .ge Y X)]))) σ h = .ok (.int (A * (if M ≤ A then 1 else 0))) h := by
  have s0 : small 0 = true := rfl
  have s1 : small 1 = true := rfl
  by_cases q : M ≤ A
  · simp [pe, py, q, s1, s0]
  · simp [pe, py, q, s1, s0]
theorem box_p (G cl) (h : AH) (σ : St') : ev G cl (.bin .pow (.con (.int 10)) (.con (.int 18))) σ h = .ok (.int ((10 : Int) ^ 18)) h := by
  rw [ev_bin, ev_con, Res.bind_ok, ev_con, Res.bind_ok, box_pow]; rfl
theorem box_b (G cl) (s c K : Int) (hK : (K != 0) = true) (mm : s.fmod K = s % K) (h : AH) (σ : St') (hs : σ = [some (.lst [.int s]), some (.int 0), some (.int s)]) : ev G cl (.bin .add (.bin .add (.bin .mod (.blt .int [(.var 2)]) (.con (.int K))) (.bin .mul (.con (.int 39373)) (.var 1))) (.con (.int c))) σ h = .ok (.int (s % K + c)) h := by
  have s0 : small 0 = true := rfl
  subst hs
  simp [mm, hK, s0]
theorem box_run {P : Prg} {f : Nat} {K c : Int} (e : P.defs f = some (boxK K c)) (k : Nat) (s : Int) (h : AH) (M : Int) (pw : ∀ σ, ev P.G (call P k) (.bin .pow (.con (.int 10)) (.con (.int 18))) σ h = .ok (.int M) h) (hK : (K != 0) = true) (mm : s.fmod K = s % K) : call P (k + 1) f [.lst [.int s], .int 0] h = .ok (.lst [.int (s.natAbs * (if M ≤ (s.natAbs : Int) then 1 else 0)), .int (s % K + c), .int 0]) h := by
  rw [call_at e rfl]
  have a : exec P.G (call P k) P.W (.asg (.nm 2) (.ite (.cmp .lt (.var 1) (.blt .len [(.var 0)])) (.ix (.var 0) (.var 1)) (.con (.int 0)))) [some (.lst [.int s]), some (.int 0), none] h = .nx [some (.lst [.int s]), some (.int 0), some (.int s)] h := by
    simp [D.place]
  show close h.length true (execs P.G (call P k) P.W [_, _] [some (.lst [.int s]), some (.int 0), none] h) = _
  rw [execs_cons, a, andThen_nx, execs_cons, exec_ret, ev_lst, evs_cons, box_c _ _ (s.natAbs : Int) _ _ _ _ _ (pw _) (by simp), Res.bind_ok, evs_cons, box_b _ _ _ _ _ hK mm _ _ rfl]
  simp [lim, E.fresh, close_lstT]
theorem box_ok {P : Prg} {f : Nat} {c : Int} (e : P.defs f = some (boxC c)) (k : Nat) (s : Int) (h : AH) (hc : 0 ≤ c) (hc2 : c < 1000000000) : ∃ ds, call P (k + 1) f [.lst [.int s], .int 0] h = .ok (.lst ds) h ∧ TI 0 (.lst ds) := by
  refine ⟨_, box_run (K := 2305843009213693951) e k s h _ (fun σ => box_p _ _ _ _) (by decide) (box_mod s), _, _, _, rfl, ?_, ?_, ?_, by omega, by omega⟩
  · generalize (10 : Int) ^ 18 = M
    split <;> omega
  · omega
  · omega

/-! ### what a call tells -/
def callC : Def := ⟨2, 3, [.asg (.nm 2) (.blt .len [(.var 1)]), .ite (.cmp .eq (.var 2) (.con (.int 1))) [.ret (.cal 0 [(.ix (.var 1) (.con (.int 0)))])] [], .ite (.cmp .eq (.var 2) (.con (.int 2))) [.ret (.cal 0 [(.ix (.var 1) (.con (.int 0))), (.ix (.var 1) (.con (.int 1)))])] [], .ite (.cmp .eq (.var 2) (.con (.int 3))) [.ret (.cal 0 [(.ix (.var 1) (.con (.int 0))), (.ix (.var 1) (.con (.int 1))), (.ix (.var 1) (.con (.int 2)))])] [], .ite (.cmp .eq (.var 2) (.con (.int 4))) [.ret (.cal 0 [(.ix (.var 1) (.con (.int 0))), (.ix (.var 1) (.con (.int 1))), (.ix (.var 1) (.con (.int 2))), (.ix (.var 1) (.con (.int 3)))])] [], .ret (.cal 0 [(.ix (.var 1) (.con (.int 0))), (.ix (.var 1) (.con (.int 1))), (.ix (.var 1) (.con (.int 2))), (.ix (.var 1) (.con (.int 3))), (.ix (.var 1) (.con (.int 4)))])], false⟩
def toldC (fc : Nat) (hs : List Hdl) : Def := ⟨2, 4, [.try_ [.asg (.nm 2) (.call fc [(.var 0), (.var 1)])] hs, .ret (.var 2)], false⟩
/-- a result without a place of its own -/
def plainR (h : AH) : Res D → Bool
  | .ok d _ => !d.isRef
  | .ex _ _ => true
  | .no => false
theorem call2_ok {P : Prg} {fc g : Nat} (e : P.defs fc = some callC) (k : Nat) {a b d : D} {h : AH} (c : call P k g [a, b] h = .ok d h) (hd : d.isRef = false) : call P (k + 1) fc [.fn g, .tup [a, b]] h = .ok d h := by
  rw [call_at e rfl]
  simp [callC, D.place, c]
  exact close_dat hd (Nat.le_refl _)
theorem call2_ex {P : Prg} {fc g : Nat} (e : P.defs fc = some callC) (k : Nat) {a b : D} {x : Exc} {h : AH} (c : call P k g [a, b] h = .ex x h) : call P (k + 1) fc [.fn g, .tup [a, b]] h = .ex x h := by
  rw [call_at e rfl]
  simp [callC, D.place, c]
theorem call3_ok {P : Prg} {fc g : Nat} (e : P.defs fc = some callC) (k : Nat) {a b c d : D} {h : AH} (q : call P k g [a, b, c] h = .ok d h) (hd : d.isRef = false) : call P (k + 1) fc [.fn g, .tup [a, b, c]] h = .ok d h := by
  rw [call_at e rfl]
  simp [callC, D.place, q]
  exact close_dat hd (Nat.le_refl _)
theorem call3_ex {P : Prg} {fc g : Nat} (e : P.defs fc = some callC) (k : Nat) {a b c : D} {x : Exc} {h : AH} (q : call P k g [a, b, c] h = .ex x h) : call P (k + 1) fc [.fn g, .tup [a, b, c]] h = .ex x h := by
  rw [call_at e rfl]
  simp [callC, D.place, q]
theorem told_ok {P : Prg} {f fc : Nat} {hs : List Hdl} (e : P.defs f = some (toldC fc hs)) (k : Nat) {g : Nat} {as : List D} {d : D} {h : AH} (c : call P k fc [.fn g, .tup as] h = .ok d h) (hd : d.isRef = false) : call P (k + 1) f [.fn g, .tup as] h = .ok d h := by
  rw [call_at e rfl]
  simp [toldC, c]
  exact close_dat hd (Nat.le_refl _)
def toldB (hs : List Hdl) : Bool := hs.all fun c => decide (c.to = 2) && (decide (c.nm = none) || decide (c.nm = some 3))
/-- what stands behind an exception -/
def toldD (x : Exc) : List Hdl → Option D
  | [] => none
  | c :: r => if c.cls = x.cls then hval x c.x else toldD x r
theorem handle_told {x : Exc} {a b : Option D} {h : AH} {d : D} : ∀ (hs : List Hdl), toldB hs = true → toldD x hs = some d → ∃ o, handle x hs [a, b, none, none] h = .nx [a, b, some d, o] h
  | [], _, q => by cases q
  | c :: r, hb, q => by
    unfold toldB at hb
    rw [List.all_cons, Bool.and_eq_true, Bool.and_eq_true, decide_eq_true_eq] at hb
    obtain ⟨⟨b1, b2⟩, b3⟩ := hb
    unfold toldD at q
    unfold handle
    split at q
    · rename_i z
      rw [if_pos z, q]
      rw [Bool.or_eq_true, decide_eq_true_eq, decide_eq_true_eq] at b2
      rcases b2 with b2 | b2 <;> rw [b2, b1] <;> exact ⟨_, rfl⟩
    · rename_i z
      rw [if_neg z]
      exact handle_told r b3 q
theorem told_ex {P : Prg} {f fc : Nat} {hs : List Hdl} (e : P.defs f = some (toldC fc hs)) (hb : toldB hs = true) (k : Nat) {g : Nat} {as : List D} {d : D} {x : Exc} {h : AH} (c : call P k fc [.fn g, .tup as] h = .ex x h) (q : toldD x hs = some d) (hd : d.isRef = false) : call P (k + 1) f [.fn g, .tup as] h = .ok d h := by
  rw [call_at e rfl]
  obtain ⟨o, ho⟩ := handle_told (a := some (.fn g)) (b := some (.tup as)) (h := h) hs hb q
  simp [toldC, c, ho]
  exact close_dat hd (Nat.le_refl _)
def deckC (ft fo : Nat) : Def := ⟨2, 4, [.asg (.nm 2) (.bin .add (.con (.int 1)) (.call ft [(.var 0), (.blt .min [(.lst [(.con (.int 8)), (.var 1)])])])), .asg (.nm 3) (.bin .add (.con (.int 1)) (.call ft [(.var 0), (.blt .min [(.lst [(.con (.int 8)), (.bin .fdiv (.var 1) (.var 2))])])])), .ret (.call fo [(.var 0), (.lst [(.tup [(.var 2), (.var 3)]), (.tup [(.var 3), (.var 2)])])])], false⟩
theorem deck_ok {P : Prg} {f ft fo : Nat} (e : P.defs f = some (deckC ft fo)) (et : P.defs ft = some takeC) (eo : P.defs fo = some (ofC ft)) (k : Nat) {B : Nat} {t : AObj} (r : AH) {M : Int} (ht : TI B t) (hB : B ≤ 1000000000000) (h1 : 1 ≤ M) (h2 : M < 1000) :
    ∃ m n t', call P (k + 3) f [.ref 0, .int M] (t :: r) = .ok (.tup [.int m, .int n]) (t' :: r) ∧ 1 ≤ m ∧ m ≤ 8 ∧ 1 ≤ n ∧ n ≤ 8 ∧ m * n ≤ M ∧ TI (B + 3) t' := by
  let b0 : Int := if M < 8 then M else 8
  have m1 : minL [.int 8, .int M] = some (.int b0) := min2i _ _
  have b01 : 1 ≤ b0 := by show 1 ≤ (if M < 8 then M else 8); split <;> omega
  have b08 : b0 ≤ 8 := by show (if M < 8 then M else 8) ≤ (8 : Int); split <;> omega
  have b0M : b0 ≤ M := by show (if M < 8 then M else 8) ≤ M; split <;> omega
  obtain ⟨i, t1, e1, i0, i1, ht1⟩ := take_ok et (k + 1) r (below := b0) ht (by omega) b01 (by omega)
  let b : Int := if M.fdiv (1 + i) < 8 then M.fdiv (1 + i) else 8
  have m2 : minL [.int 8, .int (M.fdiv (1 + i))] = some (.int b) := min2i _ _
  have fd : M.fdiv (1 + i) = M / (1 + i) := Int.fdiv_eq_ediv_of_nonneg _ (by omega)
  have q1 : 1 ≤ M / (1 + i) := by
    rw [Int.le_ediv_iff_mul_le (by omega)]; omega
  have hb1 : 1 ≤ b := by show 1 ≤ (if M.fdiv (1 + i) < 8 then M.fdiv (1 + i) else 8); rw [fd]; split <;> omega
  have hb8 : b ≤ 8 := by show (if M.fdiv (1 + i) < 8 then M.fdiv (1 + i) else 8) ≤ (8 : Int); split <;> omega
  have hbM : b ≤ M / (1 + i) := by show (if M.fdiv (1 + i) < 8 then M.fdiv (1 + i) else 8) ≤ _; rw [fd]; split <;> omega
  obtain ⟨j, t2, e2, j0, j1, ht2⟩ := take_ok et (k + 1) r (below := b) ht1 (by omega) hb1 (by omega)
  obtain ⟨d, hd, t3, e3, ht3⟩ := of_ok eo et k r (ds := [.tup [.int (1 + i), .int (1 + j)], .tup [.int (1 + j), .int (1 + i)]]) ht2 (by omega) (by simp) (by simp) (by simp)
  have hmul : (1 + j) * (1 + i) ≤ M := by
    have : 1 + j ≤ M / (1 + i) := by omega
    exact (Int.le_ediv_iff_mul_le (by omega)).mp this
  have g1 : (1 + i != 0) = true := by simp; omega
  have g2 : (1 + i).natAbs < 1073741824 := by omega
  have cl : call P (k + 3) f [.ref 0, .int M] (t :: r) = .ok d (t3 :: r) := by
    rw [call_at e rfl]
    simp [deckC, e1, m1, lim, m2, g1, g2, e2, e3]
    exact close_dat (by
      simp only [List.mem_cons, List.mem_nil_iff, or_false] at hd
      rcases hd with rfl | rfl <;> rfl) (Nat.le_refl _)
  simp only [List.mem_cons, List.mem_nil_iff, or_false] at hd
  rcases hd with rfl | rfl
  · exact ⟨_, _, t3, cl, by omega, by omega, by omega, by omega, by rw [Int.mul_comm]; exact hmul, ht3⟩
  · exact ⟨_, _, t3, cl, by omega, by omega, by omega, by omega, hmul, ht3⟩
/-! ends of statements -/
/-- it goes on, so -/
def NX (Q : St' → AH → Prop) : Out → Prop
  | .nx σ h => Q σ h
  | _ => False
@[simp] theorem NX_nx {Q : St' → AH → Prop} {σ : St'} {h : AH} : NX Q (.nx σ h) = Q σ h := rfl
theorem NX.of {Q : St' → AH → Prop} {o : Out} (n : NX Q o) : ∃ σ h, o = .nx σ h ∧ Q σ h := by
  cases o <;> first | exact ⟨_, _, rfl, n⟩ | cases n
theorem NX.mono {Q R : St' → AH → Prop} {o : Out} (n : NX Q o) (f : ∀ σ h, Q σ h → R σ h) : NX R o := by
  cases o <;> first | exact f _ _ n | cases n
/-- rounds that keep what holds -/
theorem loop_nx {f : D → St' → AH → Out} {I : St' → AH → Prop} : ∀ (L : List D) (σ : St') (h : AH), (∀ d ∈ L, ∀ σ h, I σ h → NX I (f d σ h)) → I σ h → NX I (loop f L σ h)
  | [], σ, h, _, i => i
  | d :: L, σ, h, hf, i => by
    obtain ⟨σ1, h1, e1, i1⟩ := (hf d List.mem_cons_self σ h i).of
    rw [loop_cons, e1, again_nx]
    exact loop_nx L σ1 h1 (fun d hd => hf d (List.mem_cons_of_mem _ hd)) i1
/-- the same, with a number that grows -/
theorem loop_nxn {f : D → St' → AH → Out} {I : Nat → St' → AH → Prop} : ∀ (L : List D) (n : Nat) (σ : St') (h : AH), (∀ d ∈ L, ∀ m σ h, m < n + L.length → I m σ h → NX (I (m + 1)) (f d σ h)) → I n σ h → NX (I (n + L.length)) (loop f L σ h)
  | [], n, σ, h, _, i => i
  | d :: L, n, σ, h, hf, i => by
    obtain ⟨σ1, h1, e1, i1⟩ := (hf d List.mem_cons_self n σ h (by simp) i).of
    rw [loop_cons, e1, again_nx]
    have := loop_nxn (I := I) L (n + 1) σ1 h1 (fun d hd m σ h hm a => hf d (List.mem_cons_of_mem _ hd) m σ h (by simp; omega) a) i1
    rw [List.length_cons, show n + (L.length + 1) = n + 1 + L.length by omega]
    exact this
end Rf
/-! K01n -/
set_option maxHeartbeats 4000000
namespace K01
open Rf
theorem eqv2 (a b c d : Int) : D.eqv (.tup [.int a, .int b]) (.tup [.int c, .int d]) = decide (a = c ∧ b = d) := by
  show ((a == c) && ((b == d) && true)) = _
  by_cases e : a = c <;> by_cases f : b = d <;> simp [e, f]
theorem eqv3 (a b c d e f : Int) : D.eqv (.tup [.int a, .int b, .int c]) (.tup [.int d, .int e, .int f]) = decide (a = d ∧ b = e ∧ c = f) := by
  show ((a == d) && ((b == e) && ((c == f) && true))) = _
  by_cases x : a = d <;> by_cases y : b = e <;> by_cases z : c = f <;> simp [x, y, z]
theorem ne1 (z : Int) : (z = z + 1) = False := eq_false (by omega)
theorem ne2 (z : Int) : (z + 1 = z) = False := eq_false (by omega)
theorem ne3 (z : Int) : (z = z + -1) = False := eq_false (by omega)
theorem ne4 (z : Int) : (z + -1 = z) = False := eq_false (by omega)
theorem ne5 (z : Int) : (z + 1 = z + -1) = False := eq_false (by omega)
theorem ne6 (z : Int) : (z + -1 = z + 1) = False := eq_false (by omega)
theorem off (k : Nat) (w : Int) (h : AH) : call P (k+1) 43 [.int w] h = .ok (pr (dx w) (dy w)) h := by
  rw [call_at e43 rfl]
  rcases mod4 w with q | q | q | q
  all_goals simp [c43, lim, D.place, guard', Int.fmod_eq_emod_of_nonneg, dx, dy, q]
theorem dx3 (w : Int) : dx (w + 3) = dx (w - 1) := by
  unfold dx
  rcases mod4 w with q | q | q | q
  all_goals
    have a : (w + 3) % 4 = (w - 1) % 4 := by omega
    rw [a]
theorem dy3 (w : Int) : dy (w + 3) = dy (w - 1) := by
  unfold dy
  rcases mod4 w with q | q | q | q
  all_goals
    have a : (w + 3) % 4 = (w - 1) % 4 := by omega
    rw [a]
theorem lcells (k : Nat) (x y w : Int) (h : AH) : call P (k+2) 44 [tr x y w] h = .ok (.lst (cells x y w)) h := by
  rw [call_at e44 rfl]
  simp [c44, off, lim, D.place, E.fresh, dx3, dy3, cells]
theorem lset (k : Nat) (x y w : Int) (h : AH) : call P (k+1) 49 [.lst (cells x y w)] h = .ok (.tup (D.isort (cells x y w))) h := by
  have a : setL (cells x y w) = some (.lst (D.isort (cells x y w))) := by
    unfold setL
    have e1 : D.sortable (cells x y w) = true := rfl
    have e2 : (cells x y w).all intsT = true := rfl
    have e3 : D.dedup (cells x y w) = cells x y w := by
      have w1 : (w + 1) % 4 = (w % 4 + 1) % 4 := by omega
      have w3 : (w - 1) % 4 = (w % 4 + 3) % 4 := by omega
      unfold cells dx dy
      rcases mod4 w with q | q | q | q <;> simp [D.dedup, List.filter_cons, eqv2, w1, w3, q, ne1, ne2, ne3, ne4, ne5, ne6]
    rw [e1, e2, e3]
    rfl
  rw [call_at e49 rfl]
  simp [c49, a, E.fresh]

/-- what the law sees of a slab -/
def lookS (x y w : Int) : D := if sg x y ≠ 0 ∧ w = stm x y (decide (w % 2 = 1)) then .tup [pr (x / 2) (y / 2), .int (sg x y), pr (gx x w) (gy y w), pr (mx (x / 2) (y / 2) (-sg x y)) (my (x / 2) (y / 2) (-sg x y))] else .non
theorem in4 {w : Int} (q : 0 ≤ w ∧ w ≤ 3) : w = 0 ∨ w = 1 ∨ w = 2 ∨ w = 3 := by omega
theorem by4 (x : Int) : ∃ a, x = 4 * a ∨ x = 4 * a + 1 ∨ x = 4 * a + 2 ∨ x = 4 * a + 3 := ⟨x / 4, by omega⟩
section
variable (a c : Int)
theorem ael : (a + c = a) = (c = 0) := propext (by omega)
theorem aer : (a = a + c) = (c = 0) := propext (by omega)
theorem d2 : 2 * (2 * a) = 4 * a := by omega
theorem d3 : 2 * (2 * a + c) = 4 * a + 2 * c := by omega
theorem h4 : (4 * a + c) / 2 = 2 * a + c / 2 := by omega
theorem h40 : (4 * a) / 2 = 2 * a := by omega
theorem h2 : (2 * a + c) / 2 = a + c / 2 := by omega
theorem h20 : (2 * a) / 2 = a := by omega
theorem m4 : (4 * a + c) % 2 = c % 2 := by omega
theorem m40 : (4 * a) % 2 = 0 := by omega
theorem m2 : (2 * a + c) % 2 = c % 2 := by omega
theorem m20 : (2 * a) % 2 = 0 := by omega
end
theorem s0 : small 0 = true := rfl
theorem s1 : small 1 = true := rfl
theorem s1' : small (-1) = true := rfl
theorem s2 : small 2 = true := rfl
theorem s4 : small 4 = true := rfl
theorem look_ok (k : Nat) (x y w : Int) (h : AH) (q : 0 ≤ w ∧ w ≤ 3) : call P (k+3) 50 [tr x y w] h = .ok (lookS x y w) h := by
  obtain ⟨a, ha⟩ := by4 x
  obtain ⟨b, hb⟩ := by4 y
  rw [call_at e50 rfl]
  rcases in4 q with rfl | rfl | rfl | rfl <;> rcases ha with rfl | rfl | rfl | rfl <;> rcases hb with rfl | rfl | rfl | rfl <;> simp [c50, lcells, cells, dx, dy, lookS, sg, mx, my, stm, gx, gy, ow, lim, D.place, guard', Int.fmod_eq_emod_of_nonneg, Int.fdiv_eq_ediv_of_nonneg, h4, h40, h2, h20, m4, m40, m2, m20, eqv2, D.ok, rok, rngs, Int.add_assoc, ael, aer, d2, d3, List.filter_cons, s0, s1, s1', s2, s4, inD, List.range_succ]
end K01
/-! K01o -/
set_option maxHeartbeats 4000000
namespace K01
open Rf
theorem tie_of (k : Nat) (m n x y w : Int) (q : 0 ≤ w ∧ w ≤ 3) (h : AH) (z : lyB m n x y w = true) : call P (k+4) 51 [.tup [.int m, .int n], tr x y w] h = .ok (tieP m n x y w) h := by
  obtain ⟨a, ha⟩ := by4 x
  obtain ⟨b, hb⟩ := by4 y
  rw [call_at e51 rfl]
  rcases in4 q with rfl | rfl | rfl | rfl <;> rcases ha with rfl | rfl | rfl | rfl <;> rcases hb with rfl | rfl | rfl | rfl <;> simp [lyB, sg, mx, my, stm, cells, inB, dx, dy, lim, D.place, guard', Int.fmod_eq_emod_of_nonneg, Int.fdiv_eq_ediv_of_nonneg, h4, h40, h2, h20, m4, m40, m2, m20, eqv2, D.ok, rok, rngs, Int.add_assoc, ael, aer, d2, d3, List.filter_cons, s0, s1, s1', s2, s4, inD, List.range_succ] at z
  all_goals simp [c51, look_ok, off, min2, max2, cells, dx, dy, lookS, sg, mx, my, stm, gx, gy, ow, tieP, tieD, sm, ox, oy, least_ref, great_ref, lim, D.place, guard', Int.fmod_eq_emod_of_nonneg, Int.fdiv_eq_ediv_of_nonneg, h4, h40, h2, h20, m4, m40, m2, m20, eqv2, D.ok, rok, rngs, Int.add_assoc, ael, aer, d2, d3, List.filter_cons, s0, s1, s1', s2, s4, inD, List.range_succ]
  all_goals (repeat' split)
  all_goals first | rfl | omega
end K01
/-! K01p -/
set_option maxHeartbeats 4000000
namespace K01
open Rf
def B0 : List S := [.asg (.tp [(.nm 14), (.nm 15)]) (.call 52 [(.var 1), (.var 3)]), .ite (.not (.call 42 [(.lst [(.call 11 [(.var 3)]), (.call 26 [(.blt .list [(.var 3)])]), (.call 27 [(.var 1), (.var 3)]), (.call 29 [(.var 1), (.var 3)])]), (.lst [(.con (.bl true)), (.call 49 [(.call 44 [(.var 3)])]), (.var 14), (.var 15)])])) [.ret (.con (.bl false))] [], .asg (.nm 7) (.cmpr (.call 47 [(.var 17), (.tup [(.var 1), (.var 3)])]) (.nm 17) .it [(.tup [(.fnm 30), (.fnm 31), (.fnm 32), (.fnm 33), (.fnm 34)])] [] [17]), .ite (.var 15) [.asg (.tp [(.nm 4), (.nm 18), (.nm 19), (.nm 20)]) (.call 50 [(.var 3)]), .asg (.nm 16) (.lst [(.var 4), (.var 20), (.var 19), (.var 18), (.call 51 [(.var 1), (.var 3)])])] [.asg (.nm 16) (.bin .mul (.lst [(.lst [(.con (.str "can not")), (.con (.bl true))])]) (.con (.int 5)))], .ite (.not (.call 42 [(.var 7), (.var 16)])) [.ret (.con (.bl false))] []]
def B1 : List S := [.asg (.nm 8) (.cmpr (.tup [(.bin .add (.bin .mul (.con (.int 2)) (.ix (.var 4) (.con (.int 0)))) (.bin .fdiv (.var 13) (.con (.int 8)))), (.bin .add (.bin .mul (.con (.int 2)) (.ix (.var 4) (.con (.int 1)))) (.bin .mod (.bin .fdiv (.var 13) (.con (.int 4))) (.con (.int 2)))), (.bin .mod (.var 13) (.con (.int 4)))]) (.nm 13) .rng1 [(.con (.int 16))] [] [13]), .asg (.nm 8) (.blt .tuple [(.cmpr (.var 11) (.nm 11) .it [(.var 8)] [(.and (.ix (.call 52 [(.var 1), (.var 11)]) (.con (.int 1))) (.cmp .eq (.ix (.call 50 [(.var 11)]) (.con (.int 0))) (.var 4)))] [11])]), .ite (.not (.call 42 [(.call 28 [(.var 1), (.call 41 [(.var 4)])]), (.blt .tuple [(.blt .sorted [(.var 8)])])])) [.ret (.con (.bl false))] [], .asg (.nm 9) (.cmpr (.tup [(.bin .add (.ix (.var 4) (.con (.int 0))) (.ix (.var 11) (.con (.int 0)))), (.bin .add (.ix (.var 4) (.con (.int 1))) (.ix (.var 11) (.con (.int 1))))]) (.nm 11) .it [(.cmpr (.call 43 [(.var 13)]) (.nm 13) .rng1 [(.con (.int 4))] [] [13])] [] [11]), .asg (.nm 10) (.cmpr (.var 11) (.nm 11) .it [(.var 9)] [(.and (.chn .le .lt (.con (.int 0)) (.ix (.var 11) (.con (.int 0))) (.bin .mul (.con (.int 2)) (.var 5))) (.chn .le .lt (.con (.int 0)) (.ix (.var 11) (.con (.int 1))) (.bin .mul (.con (.int 2)) (.var 6))))] [11]), .ite (.cmp .ne (.blt .len [(.var 10)]) (.blt .len [(.var 8)])) [.ret (.con (.bl false))] [], .for_ (.nm 11) .it [(.var 10)] [.ite (.not (.call 42 [(.lst [(.call 35 [(.var 1), (.var 4), (.var 11)])]), (.cmpr (.var 21) (.nm 21) .it [(.var 8)] [(.cmp .eq (.ix (.call 50 [(.var 21)]) (.con (.int 2))) (.var 11))] [21])])) [.ret (.con (.bl false))] []], .asg (.nm 12) (.call 39 [(.var 0), (.call 45 [(.var 1)])]), .ite (.and (.cmp .notin (.var 12) (.var 10)) (.not (.call 42 [(.call 47 [(.fnm 35), (.tup [(.var 1), (.var 4), (.var 12)])]), (.lst [(.con (.str "can not")), (.con (.bl true))])]))) [.ret (.con (.bl false))] [], .ite (.not (.call 42 [(.cmpr (.call 47 [(.fnm 35), (.tup [(.var 1), (.var 4), (.var 11)])]) (.nm 11) .it [(.var 9)] [(.cmp .notin (.var 11) (.var 10))] [11]), (.cmpr (.lst [(.con (.str "no block")), (.var 11)]) (.nm 11) .it [(.var 9)] [(.cmp .notin (.var 11) (.var 10))] [11])])) [.ret (.con (.bl false))] []]
theorem c53_eq : c53 = ⟨1, 22, [.asg (.nm 1) (.call 48 [(.var 0), (.con (.int 64))]), .asg (.tp [(.nm 5), (.nm 6)]) (.var 1), .asg (.nm 2) (.cmpr (.tup [(.bin .sub (.call 37 [(.var 0), (.bin .add (.bin .mul (.con (.int 4)) (.var 5)) (.con (.int 2)))]) (.con (.int 1))), (.bin .sub (.call 37 [(.var 0), (.bin .add (.bin .mul (.con (.int 4)) (.var 6)) (.con (.int 2)))]) (.con (.int 1))), (.call 37 [(.var 0), (.con (.int 4))])]) (.nm 13) .rng1 [(.con (.int 7))] [] [13]), .asg (.nm 2) (.bin .add (.bin .add (.var 2) (.cmpr (.tup [(.bin .add (.bin .mul (.call 37 [(.var 0), (.bin .mul (.con (.int 2)) (.var 5))]) (.con (.int 2))) (.call 37 [(.var 0), (.con (.int 2))])), (.bin .add (.bin .mul (.call 37 [(.var 0), (.bin .mul (.con (.int 2)) (.var 6))]) (.con (.int 2))) (.call 37 [(.var 0), (.con (.int 2))])), (.call 37 [(.var 0), (.con (.int 4))])]) (.nm 13) .rng1 [(.con (.int 5))] [] [13])) (.lst [(.tup [(.con (.int 999999)), (.neg (.con (.int 7))), (.con (.int 3))])])), .for_ (.nm 3) .it [(.var 2)] B0, .for_ (.nm 4) .it [(.bin .add (.call 40 [(.var 0), (.call 45 [(.var 1)]), (.con (.int 3))]) (.lst [(.tup [(.con (.int 0)), (.con (.int 0))]), (.tup [(.bin .sub (.bin .mul (.con (.int 2)) (.var 5)) (.con (.int 1))), (.con (.int 0))])]))] B1, .ret (.con (.bl true))], false⟩ := rfl
theorem lies (k : Nat) (m n x y w : Int) (h : AH) (q : 0 ≤ w ∧ w ≤ 3) : call P (k+4) 52 [.tup [.int m, .int n], tr x y w] h = .ok (.tup [.bl ((cells x y w).all (inB m n)), .bl (lyB m n x y w)]) h := by
  rw [call_at e52 rfl]
  have ht : ∀ σ : St', σ[0]? = some (some (.tup [.int m, .int n])) → 3 < σ.length → turns (turn P.G (call P (k + 3)) (.var 3) (.nm 3) [(.not (.and (.chn .le .lt (.con (.int 0)) (.ix (.var 3) (.con (.int 0))) (.bin .mul (.con (.int 4)) (.ix (.var 0) (.con (.int 0))))) (.chn .le .lt (.con (.int 0)) (.ix (.var 3) (.con (.int 1))) (.bin .mul (.con (.int 4)) (.ix (.var 0) (.con (.int 1)))))))] [3] σ) (cells x y w) h = .ok ((cells x y w).filter fun d => !inB m n d) h := by
    intro σ hσ h3
    have := turns_filter (h := h) (f := turn P.G (call P (k + 3)) (.var 3) (.nm 3) [(.not (.and (.chn .le .lt (.con (.int 0)) (.ix (.var 3) (.con (.int 0))) (.bin .mul (.con (.int 4)) (.ix (.var 0) (.con (.int 0))))) (.chn .le .lt (.con (.int 0)) (.ix (.var 3) (.con (.int 1))) (.bin .mul (.con (.int 4)) (.ix (.var 0) (.con (.int 1)))))))] [3] σ) (p := fun d => !inB m n d) (g := id) (cells x y w) fun d hd => by
      obtain ⟨i, j, rfl⟩ := cells_mem ((isort_perm _).mem_iff.mpr hd)
      have z0 : (σ.set 3 (some (pr i j)))[0]? = some (some (.tup [.int m, .int n])) := by rw [List.getElem?_set_ne (by decide)]; exact hσ
      have z3 : (σ.set 3 (some (pr i j)))[3]? = some (some (pr i j)) := List.getElem?_set_self h3
      by_cases q0 : 0 ≤ i <;> by_cases q1 : i < 4 * m <;> by_cases q2 : 0 ≤ j <;> by_cases q3 : j < 4 * n <;> simp [z0, z3, inB, turnI_bl, D.place, s4, q0, q1, q2, q3]
    simpa using this
  have t := ht [some (.tup [.int m, .int n]), some (tr x y w), none, none] rfl (by simp)
  have hlen : ((cells x y w).filter fun d => !inB m n d).length ≤ 16777216 := Nat.le_trans (List.length_filter_le _ _) (by simp [cells])
  have he : ∀ h, eqD h (.lst ((cells x y w).filter fun d => !inB m n d)) (.lst []) = some ((cells x y w).all (inB m n)) := by
    intro h
    rw [eq_dat rfl rfl ?_ rfl]
    · congr 1
      show D.eqvs _ [] = _
      rw [Bool.eq_iff_iff]
      constructor
      · intro e
        cases e2 : ((cells x y w).filter fun d => !inB m n d) with
        | nil =>
          rw [List.all_eq_true]
          intro d hd
          have := List.filter_eq_nil_iff.mp e2 d hd
          simpa using this
        | cons a b => rw [e2] at e; cases e
      · intro e
        have : ((cells x y w).filter fun d => !inB m n d) = [] := List.filter_eq_nil_iff.mpr fun d hd => by
          have := List.all_eq_true.mp e d hd
          simp [this]
        rw [this]; rfl
    · show List.all _ (D.ok 29) = true
      rw [List.all_eq_true]
      intro d hd
      obtain ⟨i, j, rfl⟩ := cells_mem ((isort_perm _).mem_iff.mpr (List.mem_filter.mp hd).1)
      rfl
  unfold lyB
  generalize (cells x y w).all (inB m n) = inside at he ⊢
  have hl2 : isD (lookS x y w) .non = some (!(decide (sg x y ≠ 0) && decide (w = stm x y (decide (w % 2 = 1))))) := by
    unfold lookS
    by_cases c : sg x y ≠ 0 ∧ w = stm x y (decide (w % 2 = 1))
    · rw [if_pos c, decide_eq_true c.1, decide_eq_true c.2]; rfl
    · rw [if_neg c]
      have : (decide (sg x y ≠ 0) && decide (w = stm x y (decide (w % 2 = 1)))) = false := by
        rw [Bool.eq_false_iff]
        intro t
        rw [Bool.and_eq_true, decide_eq_true_eq, decide_eq_true_eq] at t
        exact c t
      rw [this]; rfl
  cases inside
  · simp [c52, lcells, t, hlen, he, lim]
  · simp [c52, lcells, t, hlen, he, lim, look_ok, q, hl2]
theorem same (k n : Nat) (d : D) (h : AH) (hn : n ≤ 30) (hf : fits n d = true) : call P (k + n + 1) 42 [d, d] h = .ok (.bl true) h := same_ok (P := P) (f := 42) e42 n k d h hf hn
def hs : List Hdl := [⟨8, none, 2, .l [some (.str "unfit"), some (.bl true)]⟩, ⟨6, none, 2, .l [some (.str "can not"), some (.bl true)]⟩, ⟨7, none, 2, .l [some (.str "many"), some (.bl true)]⟩, ⟨4, (some 3), 2, .l [some (.str "bad"), none]⟩, ⟨5, (some 3), 2, .l [some (.str "broken"), none]⟩, ⟨0, (some 3), 2, .l [some (.str "no block"), none]⟩, ⟨1, (some 3), 2, .l [some (.str "no cell"), none]⟩, ⟨2, (some 3), 2, .l [some (.str "no face"), none]⟩, ⟨3, (some 3), 2, .l [some (.str "no tie"), none]⟩]
abbrev canNot : D := .lst [.str "can not", .bl true]
theorem told2 (k g : Nat) {a b d : D} {h : AH} (c : call P k g [a, b] h = .ok d h) (hd : d.isRef = false) : call P (k + 2) 47 [.fn g, .tup [a, b]] h = .ok d h :=
  told_ok (P := P) (fc := 46) (hs := hs) e47 (k + 1) (call2_ok (P := P) (fc := 46) e46 k c hd) hd
theorem told2_no (k g : Nat) {a b : D} {h : AH} (c : call P k g [a, b] h = .ex ⟨6, none⟩ h) : call P (k + 2) 47 [.fn g, .tup [a, b]] h = .ok canNot h :=
  told_ex (P := P) (fc := 46) (hs := hs) e47 rfl (k + 1) (call2_ex (P := P) (fc := 46) e46 k c) rfl rfl
theorem told3 (k g : Nat) {a b c d : D} {h : AH} (q : call P k g [a, b, c] h = .ok d h) (hd : d.isRef = false) : call P (k + 2) 47 [.fn g, .tup [a, b, c]] h = .ok d h :=
  told_ok (P := P) (fc := 46) (hs := hs) e47 (k + 1) (call3_ok (P := P) (fc := 46) e46 k q hd) hd
theorem told3_ex (k g : Nat) {a b c d : D} {x : Exc} {h : AH} (q : call P k g [a, b, c] h = .ex x h) (t : toldD x hs = some d) (hd : d.isRef = false) : call P (k + 2) 47 [.fn g, .tup [a, b, c]] h = .ok d h :=
  told_ex (P := P) (fc := 46) (hs := hs) e47 rfl (k + 1) (call3_ex (P := P) (fc := 46) e46 k q) t hd
theorem fits_cells (x y w : Int) : fits 2 (.tup (D.isort (cells x y w))) = true := by
  show (decide ((D.isort (cells x y w)).length ≤ lim) && (D.isort (cells x y w)).all (fits 1)) = true
  rw [cells_len, all_isort]
  rfl
theorem sCut : PySem.PyData.strOk (PySem.Str.ofString "cut") = true := by decide +kernel
theorem sTied : PySem.PyData.strOk (PySem.Str.ofString "tied") = true := by decide +kernel
theorem sNot : PySem.PyData.strOk (PySem.Str.ofString "can not") = true := by decide +kernel
theorem sNob : PySem.PyData.strOk (PySem.Str.ofString "no block") = true := by decide +kernel
theorem fits_tieP (m n x y w : Int) : fits 4 (tieP m n x y w) = true := by
  have a : ∀ a b c d : Int, fits 2 (D.leastOf (pr a b) [pr c d]) = true := fun a b c d => by
    show fits 2 (if D.ltb (pr c d) (pr a b) then pr c d else pr a b) = true
    split <;> rfl
  have b : ∀ a b c d : Int, fits 2 (D.greatestOf (pr a b) [pr c d]) = true := fun a b c d => by
    show fits 2 (if D.ltb (pr a b) (pr c d) then pr c d else pr a b) = true
    split <;> rfl
  unfold tieP tieD
  split
  · split <;> simp [fits, a, b, lim, sCut, sTied]
  · rfl
/-- the state of the slabs' loop -/
def I3 (m n : Int) (σ : St') : Prop := ∃ o2 o3 o4 o7 o8 o9 o10 o11 o12 o13 o14 o15 o16 o17 o18 o19 o20 o21, σ = [some (.ref 0), some (.tup [.int m, .int n]), o2, o3, o4, some (.int m), some (.int n), o7, o8, o9, o10, o11, o12, o13, o14, o15, o16, o17, o18, o19, o20, o21]
theorem lies_sg {m n x y w : Int} (z : lyB m n x y w = true) : (-sg x y = 1 ∨ -sg x y = -1) ∧ sg x y ≠ 0 ∧ w = stm x y (decide (w % 2 = 1)) := by
  unfold lyB at z
  rw [Bool.and_eq_true, Bool.and_eq_true, decide_eq_true_eq, decide_eq_true_eq] at z
  refine ⟨?_, z.1.1, z.1.2⟩
  have := z.1.1
  unfold sg at this ⊢
  split
  · exact .inr rfl
  · split
    · exact .inl rfl
    · rename_i a b; rw [if_neg a, if_neg b] at this; exact absurd rfl this
theorem fits_mono : ∀ (n m : Nat) (d : D), n ≤ m → fits n d = true → fits m d = true
  | _, _, .non, _, _ => by simp [fits]
  | _, _, .bl _, _, _ => by simp [fits]
  | _, _, .int _, _, _ => by simp [fits]
  | _, _, .str s, _, h => by simpa [fits] using h
  | 0, _, .tup _, _, h => by cases h
  | 0, _, .lst _, _, h => by cases h
  | n + 1, 0, .tup ds, l, h => by omega
  | n + 1, 0, .lst ds, l, h => by omega
  | n + 1, m + 1, .tup ds, l, h => by
    have h : (decide (ds.length ≤ lim) && ds.all (fits n)) = true := h
    rw [Bool.and_eq_true] at h
    show (decide (ds.length ≤ lim) && ds.all (fits m)) = true
    rw [h.1, Bool.true_and]
    exact List.all_eq_true.mpr fun x hx => fits_mono n m x (by omega) (List.all_eq_true.mp h.2 x hx)
  | n + 1, m + 1, .lst ds, l, h => by
    have h : (decide (ds.length ≤ lim) && ds.all (fits n)) = true := h
    rw [Bool.and_eq_true] at h
    show (decide (ds.length ≤ lim) && ds.all (fits m)) = true
    rw [h.1, Bool.true_and]
    exact List.all_eq_true.mpr fun x hx => fits_mono n m x (by omega) (List.all_eq_true.mp h.2 x hx)
  | n, m, .dct _ _, _, h => by cases n <;> cases h
  | n, m, .ref _, _, h => by cases n <;> cases h
  | n, m, .fn _, _, h => by cases n <;> cases h
theorem fits_lst {n : Nat} {L : List D} (hl : L.length ≤ lim) (h : ∀ d ∈ L, fits n d = true) : fits (n + 1) (.lst L) = true := by
  show (decide (L.length ≤ lim) && L.all (fits n)) = true
  rw [decide_eq_true hl, Bool.true_and]
  exact List.all_eq_true.mpr h
theorem slab_step (k : Nat) (m n x y w : Int) (h : AH) (σ : St') (hm : 1 ≤ m) (hn : 1 ≤ n) (q : 0 ≤ w ∧ w ≤ 3) (hσ : I3 m n σ) : NX (fun σ' h' => h' = h ∧ I3 m n σ') (round P.G (call P (k + 20)) P.W (.nm 3) B0 (tr x y w) σ h) := by
  obtain ⟨o2, o3, o4, o7, o8, o9, o10, o11, o12, o13, o14, o15, o16, o17, o18, o19, o20, o21, rfl⟩ := hσ
  have c42 : ∀ L : List D, fits 5 (.lst L) = true → call P (k + 20) 42 [.lst L, .lst L] h = .ok (.bl true) h := fun L hf => same (k + 14) 5 (.lst L) h (by decide) hf
  have f1 : fits 5 (.lst [.bl true, .tup (D.isort (cells x y w)), .bl ((cells x y w).all (inB m n)), .bl (lyB m n x y w)]) = true := by
    have a := fits_mono 2 4 _ (by decide) (fits_cells x y w)
    refine fits_lst (by simp [lim]) fun d hd => ?_
    simp only [List.mem_cons, List.mem_nil_iff, or_false] at hd
    rcases hd with rfl | rfl | rfl | rfl <;> first | rfl | exact a
  by_cases z : lyB m n x y w = true
  · obtain ⟨z1, z2, z3⟩ := lies_sg z
    have t0 := told2 (k + 18) 30 (own_block (k + 11) m n x y w h hm hn q z) rfl
    have t1 := told2 (k + 18) 31 (left_out (k + 11) m n x y w h hm hn q z z1) rfl
    have t2 := told2 (k + 18) 32 (goes_to (k + 11) m n x y w h hm hn q z) rfl
    have t3 := told2 (k + 18) 33 (sign_of (k + 11) m n x y w h hm hn q z) rfl
    have t4 := told2 (k + 18) 34 (tie_told (k + 11) m n x y w h hm hn q z) (tieP_ref _ _ _ _ _)
    have f2 : fits 5 (.lst [pr (x / 2) (y / 2), pr (mx (x / 2) (y / 2) (-sg x y)) (my (x / 2) (y / 2) (-sg x y)), pr (gx x w) (gy y w), .int (sg x y), tieP m n x y w]) = true := by
      have a := fits_tieP m n x y w
      refine fits_lst (by simp [lim]) fun d hd => ?_
      simp only [List.mem_cons, List.mem_nil_iff, or_false] at hd
      rcases hd with rfl | rfl | rfl | rfl | rfl <;> first | rfl | exact a
    have lk : lookS x y w = .tup [pr (x / 2) (y / 2), .int (sg x y), pr (gx x w) (gy y w), pr (mx (x / 2) (y / 2) (-sg x y)) (my (x / 2) (y / 2) (-sg x y))] := if_pos ⟨z2, z3⟩
    simp only [z] at f1
    simp [B0, lies, is_piece, cells_of, on_floor, can_lie, lcells, lset, hm, hn, q, lim, c42, f1, f2, z, t0, t1, t2, t3, t4, look_ok, lk, tie_of, tieP_ref]
    exact ⟨_, _, _, _, _, _, _, _, _, _, _, _, _, _, _, _, _, _, rfl⟩
  · rw [Bool.not_eq_true] at z
    have t0 := told2_no (k + 18) 30 (own_block_no (k + 11) m n x y w h hm hn q z)
    have t1 := told2_no (k + 18) 31 (left_out_no (k + 11) m n x y w h hm hn q z)
    have t2 := told2_no (k + 18) 32 (goes_to_no (k + 11) m n x y w h hm hn q z)
    have t3 := told2_no (k + 18) 33 (sign_of_no (k + 11) m n x y w h hm hn q z)
    have t4 := told2_no (k + 18) 34 (tie_told_no (k + 11) m n x y w h hm hn q z)
    have f2 : fits 5 (.lst [canNot, canNot, canNot, canNot, canNot]) = true := by
      simp [fits, lim, sNot]
    have r5 : rep 5 [canNot] = [canNot, canNot, canNot, canNot, canNot] := rfl
    simp only [z] at f1
    simp [B0, lies, is_piece, cells_of, on_floor, can_lie, lcells, lset, hm, hn, q, lim, c42, f1, f2, z, t0, t1, t2, t3, t4, r5]
    exact ⟨_, _, _, _, _, _, _, _, _, _, _, _, _, _, _, _, _, _, rfl⟩
end K01
/-! K01q -/
set_option maxHeartbeats 4000000
namespace K01
open Rf
def S16 (i j : Int) : List D := [tr (2 * i) (2 * j) 0, tr (2 * i) (2 * j) 1, tr (2 * i) (2 * j) 2, tr (2 * i) (2 * j) 3, tr (2 * i) (2 * j + 1) 0, tr (2 * i) (2 * j + 1) 1, tr (2 * i) (2 * j + 1) 2, tr (2 * i) (2 * j + 1) 3, tr (2 * i + 1) (2 * j) 0, tr (2 * i + 1) (2 * j) 1, tr (2 * i + 1) (2 * j) 2, tr (2 * i + 1) (2 * j) 3, tr (2 * i + 1) (2 * j + 1) 0, tr (2 * i + 1) (2 * j + 1) 1, tr (2 * i + 1) (2 * j + 1) 2, tr (2 * i + 1) (2 * j + 1) 3]
def stB : D → Bool
  | .tup [.int x, .int y, .int w] => decide (sg x y ≠ 0 ∧ w = stm x y (decide (w % 2 = 1)))
  | _ => false
def lyD (m n : Int) : D → Bool
  | .tup [.int x, .int y, .int w] => lyB m n x y w
  | _ => false
def gD : D → D
  | .tup [.int x, .int y, .int w] => pr (gx x w) (gy y w)
  | _ => .non
def inR (m n : Int) : D → Bool
  | .tup [.int i, .int j] => decide (0 ≤ i ∧ i < 2 * m ∧ 0 ≤ j ∧ j < 2 * n)
  | _ => false
def asc (i j : Int) : List D := (S16 i j).filter stB
def nbs (i j : Int) : List D := [pr (i + 1) j, pr i (j + 1), pr (i + -1) j, pr i (j + -1)]
theorem S16_mem {i j : Int} {d : D} (h : d ∈ S16 i j) : ∃ x y w, d = tr x y w ∧ 0 ≤ w ∧ w ≤ 3 ∧ x / 2 = i ∧ y / 2 = j := by
  simp only [S16, List.mem_cons, List.mem_nil_iff, or_false] at h
  rcases h with rfl | rfl | rfl | rfl | rfl | rfl | rfl | rfl | rfl | rfl | rfl | rfl | rfl | rfl | rfl | rfl <;> exact ⟨_, _, _, rfl, by omega, by omega, by omega, by omega⟩
theorem lyB_go (m n x y w : Int) (q : 0 ≤ w ∧ w ≤ 3) (hx : 0 ≤ x / 2 ∧ x / 2 < 2 * m) (hy : 0 ≤ y / 2 ∧ y / 2 < 2 * n) (st : sg x y ≠ 0 ∧ w = stm x y (decide (w % 2 = 1))) : (cells x y w).all (inB m n) = goB m n (tr x y w) := by
  obtain ⟨a, ha⟩ := by4 x
  obtain ⟨b, hb⟩ := by4 y
  rw [Bool.eq_iff_iff]
  rcases in4 q with rfl | rfl | rfl | rfl <;> rcases ha with rfl | rfl | rfl | rfl <;> rcases hb with rfl | rfl | rfl | rfl <;> simp [sg, mx, my, stm, lim, D.place, guard', Int.fmod_eq_emod_of_nonneg, Int.fdiv_eq_ediv_of_nonneg, h4, h40, h2, h20, m4, m40, m2, m20, eqv2, D.ok, rok, rngs, Int.add_assoc, ael, aer, d2, d3, List.filter_cons, s0, s1, s1', s2, s4, inD, List.range_succ] at st
  all_goals simp [cells, inB, dx, dy, goB, gx, gy, ow, lim, D.place, guard', Int.fmod_eq_emod_of_nonneg, Int.fdiv_eq_ediv_of_nonneg, h4, h40, h2, h20, m4, m40, m2, m20, eqv2, D.ok, rok, rngs, Int.add_assoc, ael, aer, d2, d3, List.filter_cons, s0, s1, s1', s2, s4, inD, List.range_succ]
  all_goals omega
theorem asc00 (a b : Int) : asc (2 * a) (2 * b) = [tr (4 * a) (4 * b + 1) 0, tr (4 * a) (4 * b + 1) 3, tr (4 * a + 1) (4 * b) 1, tr (4 * a + 1) (4 * b) 2] := by
  simp [asc, S16, stB, sg, mx, my, stm, lim, D.place, guard', Int.fmod_eq_emod_of_nonneg, Int.fdiv_eq_ediv_of_nonneg, h4, h40, h2, h20, m4, m40, m2, m20, eqv2, D.ok, rok, rngs, Int.add_assoc, ael, aer, d2, d3, List.filter_cons, s0, s1, s1', s2, s4, inD, List.range_succ]
theorem asc01 (a b : Int) : asc (2 * a) (2 * b + 1) = [tr (4 * a) (4 * b + 2) 0, tr (4 * a) (4 * b + 2) 1, tr (4 * a + 1) (4 * b + 3) 2, tr (4 * a + 1) (4 * b + 3) 3] := by
  simp [asc, S16, stB, sg, mx, my, stm, lim, D.place, guard', Int.fmod_eq_emod_of_nonneg, Int.fdiv_eq_ediv_of_nonneg, h4, h40, h2, h20, m4, m40, m2, m20, eqv2, D.ok, rok, rngs, Int.add_assoc, ael, aer, d2, d3, List.filter_cons, s0, s1, s1', s2, s4, inD, List.range_succ]
theorem asc10 (a b : Int) : asc (2 * a + 1) (2 * b) = [tr (4 * a + 2) (4 * b) 0, tr (4 * a + 2) (4 * b) 1, tr (4 * a + 3) (4 * b + 1) 2, tr (4 * a + 3) (4 * b + 1) 3] := by
  simp [asc, S16, stB, sg, mx, my, stm, lim, D.place, guard', Int.fmod_eq_emod_of_nonneg, Int.fdiv_eq_ediv_of_nonneg, h4, h40, h2, h20, m4, m40, m2, m20, eqv2, D.ok, rok, rngs, Int.add_assoc, ael, aer, d2, d3, List.filter_cons, s0, s1, s1', s2, s4, inD, List.range_succ]
theorem asc11 (a b : Int) : asc (2 * a + 1) (2 * b + 1) = [tr (4 * a + 2) (4 * b + 3) 0, tr (4 * a + 2) (4 * b + 3) 3, tr (4 * a + 3) (4 * b + 2) 1, tr (4 * a + 3) (4 * b + 2) 2] := by
  simp [asc, S16, stB, sg, mx, my, stm, lim, D.place, guard', Int.fmod_eq_emod_of_nonneg, Int.fdiv_eq_ediv_of_nonneg, h4, h40, h2, h20, m4, m40, m2, m20, eqv2, D.ok, rok, rngs, Int.add_assoc, ael, aer, d2, d3, List.filter_cons, s0, s1, s1', s2, s4, inD, List.range_succ]
theorem by2 (x : Int) : ∃ a, x = 2 * a ∨ x = 2 * a + 1 := ⟨x / 2, by omega⟩
theorem ltb3 (a b c d e f : Int) : D.ltb (.tup [.int a, .int b, .int c]) (.tup [.int d, .int e, .int f]) = decide (a < d ∨ a = d ∧ (b < e ∨ b = e ∧ c < f)) := by
  show (if (a == d) = true then (if (b == e) = true then (if (c == f) = true then false else decide (c < f)) else decide (b < e)) else decide (a < d)) = _
  by_cases x : a = d
  · subst x
    by_cases y : b = e
    · subst y
      by_cases z : c = f
      · subst z; simp
      · simp [z]
    · simp [y]
  · simp [x]
theorem all1 (a c : Int) : (a + c < a) = (c < 0) := propext (by omega)
theorem alr1 (a c : Int) : (a < a + c) = (0 < c) := propext (by omega)
theorem filter_lyD {m n i j : Int} (hi : 0 ≤ i ∧ i < 2 * m) (hj : 0 ≤ j ∧ j < 2 * n) : (S16 i j).filter (lyD m n) = (asc i j).filter (goB m n) := by
  unfold asc
  rw [List.filter_filter]
  refine List.filter_congr fun d hd => ?_
  obtain ⟨x, y, w, rfl, w0, w3, rfl, rfl⟩ := S16_mem hd
  show lyB m n x y w = (goB m n (tr x y w) && stB (tr x y w))
  by_cases st : sg x y ≠ 0 ∧ w = stm x y (decide (w % 2 = 1))
  · rw [show stB (tr x y w) = true from decide_eq_true st, Bool.and_true, ← lyB_go m n x y w ⟨w0, w3⟩ hi hj st]
    unfold lyB
    rw [decide_eq_true st.1, decide_eq_true st.2]
    rfl
  · rw [show stB (tr x y w) = false from decide_eq_false st, Bool.and_false]
    unfold lyB
    rw [Bool.eq_false_iff]
    intro t
    rw [Bool.and_eq_true, Bool.and_eq_true, decide_eq_true_eq, decide_eq_true_eq] at t
    exact st t.1
theorem four00 (a b : Int) : four (2 * a) (2 * b) = [tr (4 * a + 1) (4 * b) 1, tr (4 * a) (4 * b + 1) 3, tr (4 * a + 1) (4 * b) 2, tr (4 * a) (4 * b + 1) 0] := by
  simp [four, sl, mx, my, stm, lim, D.place, guard', Int.fmod_eq_emod_of_nonneg, Int.fdiv_eq_ediv_of_nonneg, h4, h40, h2, h20, m4, m40, m2, m20, eqv2, D.ok, rok, rngs, Int.add_assoc, ael, aer, d2, d3, List.filter_cons, s0, s1, s1', s2, s4, inD, List.range_succ]
theorem fasc00 (a b : Int) (p : D → Bool) : D.isort ((four (2 * a) (2 * b)).filter p) = (asc (2 * a) (2 * b)).filter p ∧ D.isort ((asc (2 * a) (2 * b)).filter p) = (asc (2 * a) (2 * b)).filter p := by
  rw [asc00, four00]
  cases q1 : p (tr (4 * a) (4 * b + 1) 0) <;> cases q2 : p (tr (4 * a) (4 * b + 1) 3) <;> cases q3 : p (tr (4 * a + 1) (4 * b) 1) <;> cases q4 : p (tr (4 * a + 1) (4 * b) 2) <;> simp [List.filter_cons, q1, q2, q3, q4, D.isort, D.ins, ltb3, all1, alr1, ael, aer]
theorem four01 (a b : Int) : four (2 * a) (2 * b + 1) = [tr (4 * a) (4 * b + 2) 1, tr (4 * a + 1) (4 * b + 3) 3, tr (4 * a) (4 * b + 2) 0, tr (4 * a + 1) (4 * b + 3) 2] := by
  simp [four, sl, mx, my, stm, lim, D.place, guard', Int.fmod_eq_emod_of_nonneg, Int.fdiv_eq_ediv_of_nonneg, h4, h40, h2, h20, m4, m40, m2, m20, eqv2, D.ok, rok, rngs, Int.add_assoc, ael, aer, d2, d3, List.filter_cons, s0, s1, s1', s2, s4, inD, List.range_succ]
theorem fasc01 (a b : Int) (p : D → Bool) : D.isort ((four (2 * a) (2 * b + 1)).filter p) = (asc (2 * a) (2 * b + 1)).filter p ∧ D.isort ((asc (2 * a) (2 * b + 1)).filter p) = (asc (2 * a) (2 * b + 1)).filter p := by
  rw [asc01, four01]
  cases q1 : p (tr (4 * a) (4 * b + 2) 0) <;> cases q2 : p (tr (4 * a) (4 * b + 2) 1) <;> cases q3 : p (tr (4 * a + 1) (4 * b + 3) 2) <;> cases q4 : p (tr (4 * a + 1) (4 * b + 3) 3) <;> simp [List.filter_cons, q1, q2, q3, q4, D.isort, D.ins, ltb3, all1, alr1, ael, aer]
theorem four10 (a b : Int) : four (2 * a + 1) (2 * b) = [tr (4 * a + 3) (4 * b + 1) 3, tr (4 * a + 2) (4 * b) 1, tr (4 * a + 3) (4 * b + 1) 2, tr (4 * a + 2) (4 * b) 0] := by
  simp [four, sl, mx, my, stm, lim, D.place, guard', Int.fmod_eq_emod_of_nonneg, Int.fdiv_eq_ediv_of_nonneg, h4, h40, h2, h20, m4, m40, m2, m20, eqv2, D.ok, rok, rngs, Int.add_assoc, ael, aer, d2, d3, List.filter_cons, s0, s1, s1', s2, s4, inD, List.range_succ]
theorem fasc10 (a b : Int) (p : D → Bool) : D.isort ((four (2 * a + 1) (2 * b)).filter p) = (asc (2 * a + 1) (2 * b)).filter p ∧ D.isort ((asc (2 * a + 1) (2 * b)).filter p) = (asc (2 * a + 1) (2 * b)).filter p := by
  rw [asc10, four10]
  cases q1 : p (tr (4 * a + 2) (4 * b) 0) <;> cases q2 : p (tr (4 * a + 2) (4 * b) 1) <;> cases q3 : p (tr (4 * a + 3) (4 * b + 1) 2) <;> cases q4 : p (tr (4 * a + 3) (4 * b + 1) 3) <;> simp [List.filter_cons, q1, q2, q3, q4, D.isort, D.ins, ltb3, all1, alr1, ael, aer]
theorem four11 (a b : Int) : four (2 * a + 1) (2 * b + 1) = [tr (4 * a + 2) (4 * b + 3) 3, tr (4 * a + 3) (4 * b + 2) 1, tr (4 * a + 2) (4 * b + 3) 0, tr (4 * a + 3) (4 * b + 2) 2] := by
  simp [four, sl, mx, my, stm, lim, D.place, guard', Int.fmod_eq_emod_of_nonneg, Int.fdiv_eq_ediv_of_nonneg, h4, h40, h2, h20, m4, m40, m2, m20, eqv2, D.ok, rok, rngs, Int.add_assoc, ael, aer, d2, d3, List.filter_cons, s0, s1, s1', s2, s4, inD, List.range_succ]
theorem fasc11 (a b : Int) (p : D → Bool) : D.isort ((four (2 * a + 1) (2 * b + 1)).filter p) = (asc (2 * a + 1) (2 * b + 1)).filter p ∧ D.isort ((asc (2 * a + 1) (2 * b + 1)).filter p) = (asc (2 * a + 1) (2 * b + 1)).filter p := by
  rw [asc11, four11]
  cases q1 : p (tr (4 * a + 2) (4 * b + 3) 0) <;> cases q2 : p (tr (4 * a + 2) (4 * b + 3) 3) <;> cases q3 : p (tr (4 * a + 3) (4 * b + 2) 1) <;> cases q4 : p (tr (4 * a + 3) (4 * b + 2) 2) <;> simp [List.filter_cons, q1, q2, q3, q4, D.isort, D.ins, ltb3, all1, alr1, ael, aer]
/-- the four in order -/
theorem four_asc (i j : Int) (p : D → Bool) : D.isort ((four i j).filter p) = (asc i j).filter p ∧ D.isort ((asc i j).filter p) = (asc i j).filter p := by
  obtain ⟨a, ha⟩ := by2 i
  obtain ⟨b, hb⟩ := by2 j
  rcases ha with rfl | rfl <;> rcases hb with rfl | rfl
  · exact fasc00 a b p
  · exact fasc01 a b p
  · exact fasc10 a b p
  · exact fasc11 a b p
theorem goB_inR (m n x y w : Int) : goB m n (tr x y w) = inR m n (pr (gx x w) (gy y w)) := rfl
theorem toB_eq (u v x y w : Int) : toB u v (tr x y w) = decide (gx x w = u ∧ gy y w = v) := rfl
theorem adda (a b c : Int) : (a + b = a + c) = (b = c) := propext (by omega)
theorem nb00 (m n a b : Int) : ((nbs (2 * a) (2 * b)).filter (inR m n)).length = ((asc (2 * a) (2 * b)).filter (goB m n)).length ∧ (∀ u v, pr u v ∈ nbs (2 * a) (2 * b) → inR m n (pr u v) = true → ∃ p, ((asc (2 * a) (2 * b)).filter (goB m n)).filter (toB u v) = [p]) ∧ ∀ d ∈ asc (2 * a) (2 * b), gD d ∈ nbs (2 * a) (2 * b) := by
  rw [asc00]
  refine ⟨?_, fun u v hm hr => ?_, fun d hd => ?_⟩
  · simp only [nbs, List.filter_cons, goB_inR]
    simp [gx, gy, ow, h4, h40, h2, h20, m4, m40, m2, m20, eqv2, Int.add_assoc, ael, aer, d2, d3, List.filter_cons]
    cases q1 : inR m n (pr (2 * a + 1) (2 * b)) <;> cases q2 : inR m n (pr (2 * a) (2 * b + 1)) <;> cases q3 : inR m n (pr (2 * a + -1) (2 * b)) <;> cases q4 : inR m n (pr (2 * a) (2 * b + -1)) <;> (try simp [Int.add_assoc] at q1 q2 q3 q4) <;> simp [q1, q2, q3, q4]
  · simp only [nbs, List.mem_cons, List.mem_nil_iff, or_false, D.tup.injEq, List.cons.injEq, D.int.injEq, and_true] at hm
    rcases hm with ⟨rfl, rfl⟩ | ⟨rfl, rfl⟩ | ⟨rfl, rfl⟩ | ⟨rfl, rfl⟩ <;> rw [List.filter_filter] <;> (try simp [Int.add_assoc] at hr) <;> simp [goB_inR, toB_eq, gx, gy, ow, hr, adda, h4, h40, h2, h20, m4, m40, m2, m20, eqv2, Int.add_assoc, ael, aer, d2, d3, List.filter_cons]
  · simp only [List.mem_cons, List.mem_nil_iff, or_false] at hd
    rcases hd with rfl | rfl | rfl | rfl <;> simp [gD, nbs, gx, gy, ow, h4, h40, h2, h20, m4, m40, m2, m20, eqv2, Int.add_assoc, ael, aer, d2, d3, List.filter_cons]
theorem nb01 (m n a b : Int) : ((nbs (2 * a) (2 * b + 1)).filter (inR m n)).length = ((asc (2 * a) (2 * b + 1)).filter (goB m n)).length ∧ (∀ u v, pr u v ∈ nbs (2 * a) (2 * b + 1) → inR m n (pr u v) = true → ∃ p, ((asc (2 * a) (2 * b + 1)).filter (goB m n)).filter (toB u v) = [p]) ∧ ∀ d ∈ asc (2 * a) (2 * b + 1), gD d ∈ nbs (2 * a) (2 * b + 1) := by
  rw [asc01]
  refine ⟨?_, fun u v hm hr => ?_, fun d hd => ?_⟩
  · simp only [nbs, List.filter_cons, goB_inR]
    simp [gx, gy, ow, h4, h40, h2, h20, m4, m40, m2, m20, eqv2, Int.add_assoc, ael, aer, d2, d3, List.filter_cons]
    cases q1 : inR m n (pr (2 * a + 1) (2 * b + 1)) <;> cases q2 : inR m n (pr (2 * a) (2 * b + 1 + 1)) <;> cases q3 : inR m n (pr (2 * a + -1) (2 * b + 1)) <;> cases q4 : inR m n (pr (2 * a) (2 * b + 1 + -1)) <;> (try simp [Int.add_assoc] at q1 q2 q3 q4) <;> simp [q1, q2, q3, q4]
  · simp only [nbs, List.mem_cons, List.mem_nil_iff, or_false, D.tup.injEq, List.cons.injEq, D.int.injEq, and_true] at hm
    rcases hm with ⟨rfl, rfl⟩ | ⟨rfl, rfl⟩ | ⟨rfl, rfl⟩ | ⟨rfl, rfl⟩ <;> rw [List.filter_filter] <;> (try simp [Int.add_assoc] at hr) <;> simp [goB_inR, toB_eq, gx, gy, ow, hr, adda, h4, h40, h2, h20, m4, m40, m2, m20, eqv2, Int.add_assoc, ael, aer, d2, d3, List.filter_cons]
  · simp only [List.mem_cons, List.mem_nil_iff, or_false] at hd
    rcases hd with rfl | rfl | rfl | rfl <;> simp [gD, nbs, gx, gy, ow, h4, h40, h2, h20, m4, m40, m2, m20, eqv2, Int.add_assoc, ael, aer, d2, d3, List.filter_cons]
theorem nb10 (m n a b : Int) : ((nbs (2 * a + 1) (2 * b)).filter (inR m n)).length = ((asc (2 * a + 1) (2 * b)).filter (goB m n)).length ∧ (∀ u v, pr u v ∈ nbs (2 * a + 1) (2 * b) → inR m n (pr u v) = true → ∃ p, ((asc (2 * a + 1) (2 * b)).filter (goB m n)).filter (toB u v) = [p]) ∧ ∀ d ∈ asc (2 * a + 1) (2 * b), gD d ∈ nbs (2 * a + 1) (2 * b) := by
  rw [asc10]
  refine ⟨?_, fun u v hm hr => ?_, fun d hd => ?_⟩
  · simp only [nbs, List.filter_cons, goB_inR]
    simp [gx, gy, ow, h4, h40, h2, h20, m4, m40, m2, m20, eqv2, Int.add_assoc, ael, aer, d2, d3, List.filter_cons]
    cases q1 : inR m n (pr (2 * a + 1 + 1) (2 * b)) <;> cases q2 : inR m n (pr (2 * a + 1) (2 * b + 1)) <;> cases q3 : inR m n (pr (2 * a + 1 + -1) (2 * b)) <;> cases q4 : inR m n (pr (2 * a + 1) (2 * b + -1)) <;> (try simp [Int.add_assoc] at q1 q2 q3 q4) <;> simp [q1, q2, q3, q4]
  · simp only [nbs, List.mem_cons, List.mem_nil_iff, or_false, D.tup.injEq, List.cons.injEq, D.int.injEq, and_true] at hm
    rcases hm with ⟨rfl, rfl⟩ | ⟨rfl, rfl⟩ | ⟨rfl, rfl⟩ | ⟨rfl, rfl⟩ <;> rw [List.filter_filter] <;> (try simp [Int.add_assoc] at hr) <;> simp [goB_inR, toB_eq, gx, gy, ow, hr, adda, h4, h40, h2, h20, m4, m40, m2, m20, eqv2, Int.add_assoc, ael, aer, d2, d3, List.filter_cons]
  · simp only [List.mem_cons, List.mem_nil_iff, or_false] at hd
    rcases hd with rfl | rfl | rfl | rfl <;> simp [gD, nbs, gx, gy, ow, h4, h40, h2, h20, m4, m40, m2, m20, eqv2, Int.add_assoc, ael, aer, d2, d3, List.filter_cons]
theorem nb11 (m n a b : Int) : ((nbs (2 * a + 1) (2 * b + 1)).filter (inR m n)).length = ((asc (2 * a + 1) (2 * b + 1)).filter (goB m n)).length ∧ (∀ u v, pr u v ∈ nbs (2 * a + 1) (2 * b + 1) → inR m n (pr u v) = true → ∃ p, ((asc (2 * a + 1) (2 * b + 1)).filter (goB m n)).filter (toB u v) = [p]) ∧ ∀ d ∈ asc (2 * a + 1) (2 * b + 1), gD d ∈ nbs (2 * a + 1) (2 * b + 1) := by
  rw [asc11]
  refine ⟨?_, fun u v hm hr => ?_, fun d hd => ?_⟩
  · simp only [nbs, List.filter_cons, goB_inR]
    simp [gx, gy, ow, h4, h40, h2, h20, m4, m40, m2, m20, eqv2, Int.add_assoc, ael, aer, d2, d3, List.filter_cons]
    cases q1 : inR m n (pr (2 * a + 1 + 1) (2 * b + 1)) <;> cases q2 : inR m n (pr (2 * a + 1) (2 * b + 1 + 1)) <;> cases q3 : inR m n (pr (2 * a + 1 + -1) (2 * b + 1)) <;> cases q4 : inR m n (pr (2 * a + 1) (2 * b + 1 + -1)) <;> (try simp [Int.add_assoc] at q1 q2 q3 q4) <;> simp [q1, q2, q3, q4]
  · simp only [nbs, List.mem_cons, List.mem_nil_iff, or_false, D.tup.injEq, List.cons.injEq, D.int.injEq, and_true] at hm
    rcases hm with ⟨rfl, rfl⟩ | ⟨rfl, rfl⟩ | ⟨rfl, rfl⟩ | ⟨rfl, rfl⟩ <;> rw [List.filter_filter] <;> (try simp [Int.add_assoc] at hr) <;> simp [goB_inR, toB_eq, gx, gy, ow, hr, adda, h4, h40, h2, h20, m4, m40, m2, m20, eqv2, Int.add_assoc, ael, aer, d2, d3, List.filter_cons]
  · simp only [List.mem_cons, List.mem_nil_iff, or_false] at hd
    rcases hd with rfl | rfl | rfl | rfl <;> simp [gD, nbs, gx, gy, ow, h4, h40, h2, h20, m4, m40, m2, m20, eqv2, Int.add_assoc, ael, aer, d2, d3, List.filter_cons]
theorem nb (m n i j : Int) : ((nbs i j).filter (inR m n)).length = ((asc i j).filter (goB m n)).length ∧ (∀ u v, pr u v ∈ nbs i j → inR m n (pr u v) = true → ∃ p, ((asc i j).filter (goB m n)).filter (toB u v) = [p]) ∧ ∀ d ∈ asc i j, gD d ∈ nbs i j := by
  obtain ⟨a, ha⟩ := by2 i
  obtain ⟨b, hb⟩ := by2 j
  rcases ha with rfl | rfl <;> rcases hb with rfl | rfl
  · exact nb00 m n a b
  · exact nb01 m n a b
  · exact nb10 m n a b
  · exact nb11 m n a b
end K01
/-! K01r -/
set_option maxHeartbeats 4000000
namespace K01
open Rf
def B6 : List S := [.ite (.not (.call 42 [(.lst [(.call 35 [(.var 1), (.var 4), (.var 11)])]), (.cmpr (.var 21) (.nm 21) .it [(.var 8)] [(.cmp .eq (.ix (.call 50 [(.var 21)]) (.con (.int 2))) (.var 11))] [21])])) [.ret (.con (.bl false))] []]
def A0 : S := .asg (.nm 8) (.cmpr (.tup [(.bin .add (.bin .mul (.con (.int 2)) (.ix (.var 4) (.con (.int 0)))) (.bin .fdiv (.var 13) (.con (.int 8)))), (.bin .add (.bin .mul (.con (.int 2)) (.ix (.var 4) (.con (.int 1)))) (.bin .mod (.bin .fdiv (.var 13) (.con (.int 4))) (.con (.int 2)))), (.bin .mod (.var 13) (.con (.int 4)))]) (.nm 13) .rng1 [(.con (.int 16))] [] [13])
def A1 : S := .asg (.nm 8) (.blt .tuple [(.cmpr (.var 11) (.nm 11) .it [(.var 8)] [(.and (.ix (.call 52 [(.var 1), (.var 11)]) (.con (.int 1))) (.cmp .eq (.ix (.call 50 [(.var 11)]) (.con (.int 0))) (.var 4)))] [11])])
def A2 : S := .ite (.not (.call 42 [(.call 28 [(.var 1), (.call 41 [(.var 4)])]), (.blt .tuple [(.blt .sorted [(.var 8)])])])) [.ret (.con (.bl false))] []
def A3 : S := .asg (.nm 9) (.cmpr (.tup [(.bin .add (.ix (.var 4) (.con (.int 0))) (.ix (.var 11) (.con (.int 0)))), (.bin .add (.ix (.var 4) (.con (.int 1))) (.ix (.var 11) (.con (.int 1))))]) (.nm 11) .it [(.cmpr (.call 43 [(.var 13)]) (.nm 13) .rng1 [(.con (.int 4))] [] [13])] [] [11])
def A4 : S := .asg (.nm 10) (.cmpr (.var 11) (.nm 11) .it [(.var 9)] [(.and (.chn .le .lt (.con (.int 0)) (.ix (.var 11) (.con (.int 0))) (.bin .mul (.con (.int 2)) (.var 5))) (.chn .le .lt (.con (.int 0)) (.ix (.var 11) (.con (.int 1))) (.bin .mul (.con (.int 2)) (.var 6))))] [11])
def A5 : S := .ite (.cmp .ne (.blt .len [(.var 10)]) (.blt .len [(.var 8)])) [.ret (.con (.bl false))] []
def A6 : S := .for_ (.nm 11) .it [(.var 10)] B6
def A7 : S := .asg (.nm 12) (.call 39 [(.var 0), (.call 45 [(.var 1)])])
def A8 : S := .ite (.and (.cmp .notin (.var 12) (.var 10)) (.not (.call 42 [(.call 47 [(.fnm 35), (.tup [(.var 1), (.var 4), (.var 12)])]), (.lst [(.con (.str "can not")), (.con (.bl true))])]))) [.ret (.con (.bl false))] []
def A9 : S := .ite (.not (.call 42 [(.cmpr (.call 47 [(.fnm 35), (.tup [(.var 1), (.var 4), (.var 11)])]) (.nm 11) .it [(.var 9)] [(.cmp .notin (.var 11) (.var 10))] [11]), (.cmpr (.lst [(.con (.str "no block")), (.var 11)]) (.nm 11) .it [(.var 9)] [(.cmp .notin (.var 11) (.var 10))] [11])])) [.ret (.con (.bl false))] []
theorem B1_eq : B1 = [A0, A1, A2, A3, A4, A5, A6, A7, A8, A9] := rfl
theorem turns_filt {h : AH} {f : D → AH → Res (Option D)} {p : D → Bool} (L : List D) (hf : ∀ d ∈ L, f d h = .ok (if p d then some d else none) h) : turns f L h = .ok (L.filter p) h := by
  have := turns_filter (h := h) (f := f) (p := p) (g := id) L hf
  simpa using this
abbrev FL (m n i j : Int) : List D := (asc i j).filter (goB m n)
abbrev TL (m n i j : Int) : List D := (nbs i j).filter (inR m n)
theorem FL_mem {m n i j : Int} {d : D} (h : d ∈ FL m n i j) : ∃ x y w, d = tr x y w ∧ 0 ≤ w ∧ w ≤ 3 ∧ x / 2 = i ∧ y / 2 = j ∧ (sg x y ≠ 0 ∧ w = stm x y (decide (w % 2 = 1))) ∧ goB m n (tr x y w) = true := by
  have h1 := (List.mem_filter.mp h).1
  have h2 := (List.mem_filter.mp h).2
  obtain ⟨x, y, w, rfl, a1, a2, a3, a4⟩ := S16_mem (List.mem_filter.mp h1).1
  exact ⟨x, y, w, rfl, a1, a2, a3, a4, of_decide_eq_true (List.mem_filter.mp h1).2, h2⟩
theorem nbs_mem {i j : Int} {d : D} (h : d ∈ nbs i j) : ∃ u v, d = pr u v := by
  simp only [nbs, List.mem_cons, List.mem_nil_iff, or_false] at h
  rcases h with rfl | rfl | rfl | rfl <;> exact ⟨_, _, rfl⟩
theorem FL_len (m n i j : Int) : (FL m n i j).length ≤ 16 := Nat.le_trans (List.length_filter_le _ _) (Nat.le_trans (List.length_filter_le _ _) (by simp [S16]))
theorem TL_len (m n i j : Int) : (TL m n i j).length ≤ 4 := Nat.le_trans (List.length_filter_le _ _) (by simp [nbs])
section
variable (k : Nat) (m n i j : Int) (h : AH) (o2 o3 o7 o8 o9 o10 o11 o12 o13 o14 o15 o16 o17 o18 o19 o20 o21 : Option D)
/-- the state of a BLOCK's look -/
abbrev sb (o8 o9 o10 o11 o12 : Option D) : St' := [some (.ref 0), some (.tup [.int m, .int n]), o2, o3, some (pr i j), some (.int m), some (.int n), o7, o8, o9, o10, o11, o12, o13, o14, o15, o16, o17, o18, o19, o20, o21]
theorem st0 : exec P.G (call P (k + 20)) P.W A0 (sb m n i j o2 o3 o7 o13 o14 o15 o16 o17 o18 o19 o20 o21 o8 o9 o10 o11 o12) h = .nx (sb m n i j o2 o3 o7 o13 o14 o15 o16 o17 o18 o19 o20 o21 (some (.lst (S16 i j))) o9 o10 o11 o12) h := by
  simp [A0, sb, S16, rok, rngs, lim, guard', D.place, List.range_succ, Int.fmod_eq_emod_of_nonneg, Int.fdiv_eq_ediv_of_nonneg, s2]
theorem st1 (hi : 0 ≤ i ∧ i < 2 * m) (hj : 0 ≤ j ∧ j < 2 * n) : exec P.G (call P (k + 20)) P.W A1 (sb m n i j o2 o3 o7 o13 o14 o15 o16 o17 o18 o19 o20 o21 (some (.lst (S16 i j))) o9 o10 o11 o12) h = .nx (sb m n i j o2 o3 o7 o13 o14 o15 o16 o17 o18 o19 o20 o21 (some (.tup (FL m n i j))) o9 o10 o11 o12) h := by
  have ht : turns (turn P.G (call P (k + 20)) (.var 11) (.nm 11) [(.and (.ix (.call 52 [(.var 1), (.var 11)]) (.con (.int 1))) (.cmp .eq (.ix (.call 50 [(.var 11)]) (.con (.int 0))) (.var 4)))] [11] (sb m n i j o2 o3 o7 o13 o14 o15 o16 o17 o18 o19 o20 o21 (some (.lst (S16 i j))) o9 o10 o11 o12)) (S16 i j) h = .ok (FL m n i j) h := by
    rw [show FL m n i j = (S16 i j).filter (lyD m n) from (filter_lyD hi hj).symm]
    refine turns_filt _ fun d hd => ?_
    obtain ⟨x, y, w, rfl, w0, w3, rfl, rfl⟩ := S16_mem hd
    show _ = Res.ok (if lyB m n x y w = true then _ else _) h
    by_cases z : lyB m n x y w = true
    · obtain ⟨z1, z2, z3⟩ := lies_sg z
      have lk : lookS x y w = .tup [pr (x / 2) (y / 2), .int (sg x y), pr (gx x w) (gy y w), pr (mx (x / 2) (y / 2) (-sg x y)) (my (x / 2) (y / 2) (-sg x y))] := if_pos ⟨z2, z3⟩
      simp [sb, lies, look_ok, w0, w3, z, lk, D.place]
    · simp [sb, lies, look_ok, w0, w3, z, D.place]
  have hl : (FL m n i j).length ≤ 16777216 := Nat.le_trans (FL_len m n i j) (by decide)
  simp only [A1, exec_asg, ev_blt, evs_cons, evs_nil, ev_cmpr, ev_var]
  simp [ht, hl, lim]
theorem st2 (hm : 1 ≤ m) (hn : 1 ≤ n) (hi : 0 ≤ i ∧ i < 2 * m) (hj : 0 ≤ j ∧ j < 2 * n) : exec P.G (call P (k + 20)) P.W A2 (sb m n i j o2 o3 o7 o13 o14 o15 o16 o17 o18 o19 o20 o21 (some (.tup (FL m n i j))) o9 o10 o11 o12) h = .nx (sb m n i j o2 o3 o7 o13 o14 o15 o16 o17 o18 o19 o20 o21 (some (.tup (FL m n i j))) o9 o10 o11 o12) h := by
  have l41 : call P (k + 20) 41 [pr i j] h = .ok (.lst [.int i, .int j]) h := lists_ok (P := P) (f := 41) e41 1 (k + 18) (pr i j) h rfl
  have f28 := four_of (k + 13) m n i j h hm hn ⟨hi.1, hi.2, hj.1, hj.2⟩
  rw [(four_asc i j (goB m n)).1] at f28
  have so := trips (L := FL m n i j) fun d hd => by
    obtain ⟨x, y, w, rfl, _⟩ := FL_mem hd
    exact ⟨_, _, _, rfl⟩
  rw [show D.isort (FL m n i j) = FL m n i j from (four_asc i j (goB m n)).2] at so
  have ff : fits 5 (.tup (FL m n i j)) = true := by
    show (decide ((FL m n i j).length ≤ lim) && (FL m n i j).all (fits 4)) = true
    rw [decide_eq_true (Nat.le_trans (FL_len m n i j) (by decide)), Bool.true_and, List.all_eq_true]
    intro d hd
    obtain ⟨x, y, w, rfl, _⟩ := FL_mem hd
    rfl
  have c42 := same (k + 14) 5 (.tup (FL m n i j)) h (by decide) ff
  have f28' : call P (k + 20) 28 [.tup [.int m, .int n], .lst [.int i, .int j]] h = .ok (.tup (FL m n i j)) h := f28
  have c42' : call P (k + 20) 42 [.tup (FL m n i j), .tup (FL m n i j)] h = .ok (.bl true) h := c42
  simp [A2, sb, l41, f28', c42', so]
theorem st3 : exec P.G (call P (k + 20)) P.W A3 (sb m n i j o2 o3 o7 o13 o14 o15 o16 o17 o18 o19 o20 o21 o8 o9 o10 o11 o12) h = .nx (sb m n i j o2 o3 o7 o13 o14 o15 o16 o17 o18 o19 o20 o21 o8 (some (.lst (nbs i j))) o10 o11 o12) h := by
  simp [A3, sb, nbs, off, dx, dy, rok, rngs, lim, guard', D.place, List.range_succ]
theorem st4 : exec P.G (call P (k + 20)) P.W A4 (sb m n i j o2 o3 o7 o13 o14 o15 o16 o17 o18 o19 o20 o21 o8 (some (.lst (nbs i j))) o10 o11 o12) h = .nx (sb m n i j o2 o3 o7 o13 o14 o15 o16 o17 o18 o19 o20 o21 o8 (some (.lst (nbs i j))) (some (.lst (TL m n i j))) o11 o12) h := by
  have ht : turns (turn P.G (call P (k + 20)) (.var 11) (.nm 11) [(.and (.chn .le .lt (.con (.int 0)) (.ix (.var 11) (.con (.int 0))) (.bin .mul (.con (.int 2)) (.var 5))) (.chn .le .lt (.con (.int 0)) (.ix (.var 11) (.con (.int 1))) (.bin .mul (.con (.int 2)) (.var 6))))] [11] (sb m n i j o2 o3 o7 o13 o14 o15 o16 o17 o18 o19 o20 o21 o8 (some (.lst (nbs i j))) o10 o11 o12)) (nbs i j) h = .ok (TL m n i j) h := by
    refine turns_filt _ fun d hd => ?_
    obtain ⟨u, v, rfl⟩ := nbs_mem hd
    by_cases q0 : 0 ≤ u <;> by_cases q1 : u < 2 * m <;> by_cases q2 : 0 ≤ v <;> by_cases q3 : v < 2 * n <;> simp [sb, inR, D.place, s2, q0, q1, q2, q3]
  have hl : (TL m n i j).length ≤ 16777216 := Nat.le_trans (TL_len m n i j) (by decide)
  simp only [A4, exec_asg, ev_cmpr, evs_cons, evs_nil, ev_var]
  simp [ht, hl, lim]
theorem st5 : exec P.G (call P (k + 20)) P.W A5 (sb m n i j o2 o3 o7 o13 o14 o15 o16 o17 o18 o19 o20 o21 (some (.tup (FL m n i j))) o9 (some (.lst (TL m n i j))) o11 o12) h = .nx (sb m n i j o2 o3 o7 o13 o14 o15 o16 o17 o18 o19 o20 o21 (some (.tup (FL m n i j))) o9 (some (.lst (TL m n i j))) o11 o12) h := by
  have e : (TL m n i j).length = (FL m n i j).length := (nb m n i j).1
  simp [A5, sb, e]
theorem rd6 (u v : Int) (hm : 1 ≤ m) (hn : 1 ≤ n) (hi : 0 ≤ i ∧ i < 2 * m) (hj : 0 ≤ j ∧ j < 2 * n) (ht : pr u v ∈ TL m n i j) : round P.G (call P (k + 20)) P.W (.nm 11) B6 (pr u v) (sb m n i j o2 o3 o7 o13 o14 o15 o16 o17 o18 o19 o20 o21 (some (.tup (FL m n i j))) o9 (some (.lst (TL m n i j))) o11 o12) h = .nx (sb m n i j o2 o3 o7 o13 o14 o15 o16 o17 o18 o19 o20 o21 (some (.tup (FL m n i j))) o9 (some (.lst (TL m n i j))) (some (pr u v)) o12) h := by
  obtain ⟨h1, h2⟩ := List.mem_filter.mp ht
  obtain ⟨p, hp⟩ := (nb m n i j).2.1 u v h1 h2
  have h3 : 0 ≤ u ∧ u < 2 * m ∧ 0 ≤ v ∧ v < 2 * n := of_decide_eq_true h2
  have pm : p ∈ FL m n i j := (List.mem_filter.mp (by rw [hp]; exact List.mem_cons_self)).1
  obtain ⟨x, y, w, rfl, w0, w3, _, _, _⟩ := FL_mem pm
  have pt := piece_to (k + 14) m n i j u v h hm hn ⟨hi.1, hi.2, hj.1, hj.2⟩ h3
  rw [(four_asc i j (goB m n)).1] at pt
  have fd : (FL m n i j).find? (toB u v) = some (tr x y w) := by
    rw [← List.head?_filter, hp]; rfl
  have pt' : call P (k + 20) 35 [.tup [.int m, .int n], pr i j, pr u v] h = .ok (tr x y w) h := by
    rw [show call P (k + 20) 35 [.tup [.int m, .int n], pr i j, pr u v] h = _ from pt]
    unfold ptO
    rw [fd]
  have ff : turns (turn P.G (call P (k + 20)) (.var 21) (.nm 21) [(.cmp .eq (.ix (.call 50 [(.var 21)]) (.con (.int 2))) (.var 11))] [21] (sb m n i j o2 o3 o7 o13 o14 o15 o16 o17 o18 o19 o20 o21 (some (.tup (FL m n i j))) o9 (some (.lst (TL m n i j))) (some (pr u v)) o12)) (FL m n i j) h = .ok [tr x y w] h := by
    rw [← hp]
    refine turns_filt _ fun d hd => ?_
    obtain ⟨x, y, w, rfl, w0, w3, _, _, st, _⟩ := FL_mem hd
    have lk : lookS x y w = .tup [pr (x / 2) (y / 2), .int (sg x y), pr (gx x w) (gy y w), pr (mx (x / 2) (y / 2) (-sg x y)) (my (x / 2) (y / 2) (-sg x y))] := if_pos st
    by_cases q0 : gx x w = u <;> by_cases q1 : gy y w = v <;> simp [sb, look_ok, w0, w3, lk, D.place, toB, q0, q1]
  have c42 : call P (k + 20) 42 [.lst [tr x y w], .lst [tr x y w]] h = .ok (.bl true) h := same (k + 14) 5 (.lst [tr x y w]) h (by decide) rfl
  simp only [round_eq, assign_nm, roundO_some, List.set, B6, execs_cons, execs_nil, exec_ite, ev_not, ev_call, evs_cons, evs_nil, ev_cmpr, ev_var, ev_lst, List.getElem?_cons_succ, List.getElem?_cons_zero, Option.join_some, Res.opt_some, Res.bind_ok, pt', items_tup, comp_some]
  simp [ff, c42, lim]
end
end K01
/-! K01s -/
set_option maxHeartbeats 4000000
namespace K01
open Rf
/-- the BLOCKS that the law draws from -/
def PlL (m n : Int) (L : List D) : Prop := (∀ d ∈ L, ∃ i j, d = pr i j ∧ 0 ≤ i ∧ i < 2 * m ∧ 0 ≤ j ∧ j < 2 * n) ∧ (L.length : Int) = 2 * m * (2 * n)
theorem rngs_mem {N : Nat} {d : D} (h : d ∈ rngs 0 N) : ∃ i : Nat, i < N ∧ d = .int i := by
  obtain ⟨a, ha, rfl⟩ := List.mem_map.mp h
  exact ⟨a, List.mem_range.mp ha, by simp⟩
theorem rngs_len (N : Nat) : (rngs 0 N).length = N := by simp [rngs]
theorem plots (k : Nat) (m n : Int) (h : AH) (hm : 1 ≤ m ∧ m ≤ 8) (hn : 1 ≤ n ∧ n ≤ 8) : ∃ L, call P (k+1) 45 [.tup [.int m, .int n]] h = .ok (.lst L) h ∧ PlL m n L := by
  rw [call_at e45 rfl]
  have rk1 : rok (2 * m) = true := by unfold rok; rw [Bool.and_eq_true, decide_eq_true_eq, decide_eq_true_eq]; constructor <;> omega
  have rk2 : rok (2 * n) = true := by unfold rok; rw [Bool.and_eq_true, decide_eq_true_eq, decide_eq_true_eq]; constructor <;> omega
  let I : Nat → St' → AH → Prop := fun c σ h' => h' = h ∧ ∃ L o2 o3, σ = [some (.tup [.int m, .int n]), some (.lst L), o2, o3] ∧ (∀ d ∈ L, ∃ i j, d = pr i j ∧ 0 ≤ i ∧ i < 2 * m ∧ 0 ≤ j ∧ j < 2 * n) ∧ L.length = c * (2 * n).toNat
  have lp := loop_nxn (I := I) (f := round P.G (call P k) P.W (.nm 2) [.asg (.nm 1) (.bin .add (.var 1) (.cmpr (.tup [(.var 2), (.var 3)]) (.nm 3) .rng1 [(.bin .mul (.con (.int 2)) (.ix (.var 0) (.con (.int 1))))] [] [3]))]) (rngs 0 (2 * m).toNat) 0 [some (.tup [.int m, .int n]), some (.lst []), none, none] h
    (fun d hd c σ h' hc ⟨e0, L, o2, o3, e1, hL, hl⟩ => by
      subst e0 e1
      obtain ⟨i, hi, rfl⟩ := rngs_mem hd
      rw [rngs_len] at hc
      have tr : turns (turn P.G (call P k) (.tup [(.var 2), (.var 3)]) (.nm 3) [] [3] [some (.tup [.int m, .int n]), some (.lst L), some (.int i), o3]) (rngs 0 (2 * n).toNat) h' = .ok ((rngs 0 (2 * n).toNat).map fun d => .tup [.int i, d]) h' := by
        refine turns_map _ fun d hd => ?_
        obtain ⟨j, hj, rfl⟩ := rngs_mem hd
        simp [lim]
      have l2 : L.length + (2 * n).toNat ≤ 16777216 := by
        rw [hl]
        have : c * (2 * n).toNat ≤ 16 * (2 * n).toNat := Nat.mul_le_mul_right _ (by omega)
        omega
      have l3 : (2 * n).toNat ≤ 16777216 := by omega
      simp [D.place, s2, rk2, tr, rngs_len, l2, l3, lim]
      refine ⟨rfl, L ++ ((rngs 0 (2 * n).toNat).map fun d => .tup [.int i, d]), some (.int i), o3, rfl, fun d hd => ?_, ?_⟩
      · rcases List.mem_append.mp hd with hd | hd
        · exact hL d hd
        · obtain ⟨e, he, rfl⟩ := List.mem_map.mp hd
          obtain ⟨j, hj, rfl⟩ := rngs_mem he
          exact ⟨i, j, rfl, by omega, by omega, by omega, by omega⟩
      · rw [List.length_append, List.length_map, rngs_len, hl, Nat.succ_mul])
    ⟨rfl, [], none, none, rfl, (fun d hd => by cases hd), (by simp)⟩
  obtain ⟨σ', h', e1, e2, L, o2, o3, e3, hL, hl⟩ := lp.of
  subst e2 e3
  refine ⟨L, ?_, hL, ?_⟩
  · simp [c45, lim, D.place, s2, rk1, e1]
  · rw [rngs_len, Nat.zero_add] at hl
    rw [hl]
    push_cast
    rw [Int.toNat_of_nonneg (by omega), Int.toNat_of_nonneg (by omega)]
section
variable (k : Nat) (m n i j : Int) (h : AH) (o2 o3 o7 o8 o9 o10 o11 o12 o13 o14 o15 o16 o17 o18 o19 o20 o21 : Option D)
theorem any_pr (u v : Int) : ∀ {L : List D}, (∀ d ∈ L, ∃ a b, d = pr a b) → (L.any (fun z => D.eqv z (pr u v)) = true ↔ pr u v ∈ L)
  | [], _ => by simp
  | d :: L, hL => by
    obtain ⟨a, b, rfl⟩ := hL d List.mem_cons_self
    rw [List.any_cons, Bool.or_eq_true, any_pr u v fun d hd => hL d (List.mem_cons_of_mem _ hd), List.mem_cons, eqv2, decide_eq_true_eq]
    constructor
    · rintro (⟨rfl, rfl⟩ | z)
      · exact .inl rfl
      · exact .inr z
    · rintro (z | z)
      · injection z with z
        simp only [List.cons.injEq, D.int.injEq, and_true] at z
        exact .inl ⟨z.1.symm, z.2.symm⟩
      · exact .inr z
theorem notin_pr (h : AH) (u v : Int) {L : List D} (hL : ∀ d ∈ L, ∃ a b, d = pr a b) : inD h (pr u v) (.lst L) = some (L.any fun z => D.eqv z (pr u v)) := by
  show (if (D.ok 29 (pr u v) && L.all (D.ok 29)) = true then some (L.any fun z => D.eqv z (pr u v)) else none) = _
  have : L.all (D.ok 29) = true := List.all_eq_true.mpr fun d hd => by
    obtain ⟨a, b, rfl⟩ := hL d hd
    rfl
  rw [this]
  rfl
theorem TL_pr {m n i j : Int} : ∀ d ∈ TL m n i j, ∃ a b, d = pr a b := fun d hd => nbs_mem (List.mem_filter.mp hd).1
theorem st6 (hm : 1 ≤ m) (hn : 1 ≤ n) (hi : 0 ≤ i ∧ i < 2 * m) (hj : 0 ≤ j ∧ j < 2 * n) : ∃ o, exec P.G (call P (k + 20)) P.W A6 (sb m n i j o2 o3 o7 o13 o14 o15 o16 o17 o18 o19 o20 o21 (some (.tup (FL m n i j))) o9 (some (.lst (TL m n i j))) o11 o12) h = .nx (sb m n i j o2 o3 o7 o13 o14 o15 o16 o17 o18 o19 o20 o21 (some (.tup (FL m n i j))) o9 (some (.lst (TL m n i j))) o o12) h := by
  have lp := loop_nx (I := fun σ h' => h' = h ∧ ∃ o, σ = sb m n i j o2 o3 o7 o13 o14 o15 o16 o17 o18 o19 o20 o21 (some (.tup (FL m n i j))) o9 (some (.lst (TL m n i j))) o o12) (f := round P.G (call P (k + 20)) P.W (.nm 11) B6) (TL m n i j) (sb m n i j o2 o3 o7 o13 o14 o15 o16 o17 o18 o19 o20 o21 (some (.tup (FL m n i j))) o9 (some (.lst (TL m n i j))) o11 o12) h
    (fun d hd σ h' ⟨e0, o, e1⟩ => by
      subst e0 e1
      obtain ⟨u, v, rfl⟩ := TL_pr d hd
      rw [rd6 k m n i j h' o2 o3 o7 o9 o o12 o13 o14 o15 o16 o17 o18 o19 o20 o21 u v hm hn hi hj hd]
      exact ⟨rfl, _, rfl⟩) ⟨rfl, _, rfl⟩
  obtain ⟨σ', h', e1, e2, o, e3⟩ := lp.of
  subst e2 e3
  refine ⟨o, ?_⟩
  simp only [A6, exec_for, evs_cons, evs_nil, ev_var]
  simp [e1]
theorem st8 (u v : Int) (hm : 1 ≤ m) (hn : 1 ≤ n) (hi : 0 ≤ i ∧ i < 2 * m) (hj : 0 ≤ j ∧ j < 2 * n) (hu : 0 ≤ u ∧ u < 2 * m ∧ 0 ≤ v ∧ v < 2 * n) : exec P.G (call P (k + 20)) P.W A8 (sb m n i j o2 o3 o7 o13 o14 o15 o16 o17 o18 o19 o20 o21 (some (.tup (FL m n i j))) o9 (some (.lst (TL m n i j))) o11 (some (pr u v))) h = .nx (sb m n i j o2 o3 o7 o13 o14 o15 o16 o17 o18 o19 o20 o21 (some (.tup (FL m n i j))) o9 (some (.lst (TL m n i j))) o11 (some (pr u v))) h := by
  have ni := notin_pr h u v (L := TL m n i j) TL_pr
  have an := any_pr u v (L := TL m n i j) TL_pr
  by_cases q : pr u v ∈ TL m n i j
  · rw [an.mpr q] at ni
    simp [A8, sb, ni]
  · have q' : (TL m n i j).any (fun z => D.eqv z (pr u v)) = false := by
      rw [Bool.eq_false_iff]; exact fun z => q (an.mp z)
    rw [q'] at ni
    have pt := piece_to (k + 12) m n i j u v h hm hn ⟨hi.1, hi.2, hj.1, hj.2⟩ hu
    rw [(four_asc i j (goB m n)).1] at pt
    have fd : (FL m n i j).find? (toB u v) = none := by
      rw [List.find?_eq_none]
      intro d hd t
      obtain ⟨x, y, w, rfl, _, _, _, _, _, g⟩ := FL_mem hd
      have t : gx x w = u ∧ gy y w = v := of_decide_eq_true t
      have nm := (nb m n i j).2.2 _ (List.mem_filter.mp hd).1
      have nm : pr (gx x w) (gy y w) ∈ nbs i j := nm
      rw [t.1, t.2] at nm
      exact q (List.mem_filter.mpr ⟨nm, decide_eq_true hu⟩)
    have pt' : call P (k + 18) 35 [.tup [.int m, .int n], pr i j, pr u v] h = .ex ⟨6, none⟩ h := by
      rw [show call P (k + 18) 35 [.tup [.int m, .int n], pr i j, pr u v] h = _ from pt]
      unfold ptO
      rw [fd]
    have t3 := told3_ex (k + 18) 35 pt' (d := canNot) rfl rfl
    have c42 : call P (k + 20) 42 [canNot, canNot] h = .ok (.bl true) h := same (k + 14) 5 canNot h (by decide) (by simp [fits, lim, sNot])
    simp [A8, sb, ni, t3, lim, c42]
theorem st9 (hm : 1 ≤ m) (hn : 1 ≤ n) (hi : 0 ≤ i ∧ i < 2 * m) (hj : 0 ≤ j ∧ j < 2 * n) : exec P.G (call P (k + 20)) P.W A9 (sb m n i j o2 o3 o7 o13 o14 o15 o16 o17 o18 o19 o20 o21 o8 (some (.lst (nbs i j))) (some (.lst (TL m n i j))) o11 o12) h = .nx (sb m n i j o2 o3 o7 o13 o14 o15 o16 o17 o18 o19 o20 o21 o8 (some (.lst (nbs i j))) (some (.lst (TL m n i j))) o11 o12) h := by
  let p : D → Bool := fun d => !(TL m n i j).any (fun z => D.eqv z d)
  let g : D → D := fun d => .lst [.str "no block", d]
  have c1 : turns (turn P.G (call P (k + 20)) (.call 47 [(.fnm 35), (.tup [(.var 1), (.var 4), (.var 11)])]) (.nm 11) [(.cmp .notin (.var 11) (.var 10))] [11] (sb m n i j o2 o3 o7 o13 o14 o15 o16 o17 o18 o19 o20 o21 o8 (some (.lst (nbs i j))) (some (.lst (TL m n i j))) o11 o12)) (nbs i j) h = .ok (((nbs i j).filter p).map g) h := by
    refine turns_filter _ fun d hd => ?_
    obtain ⟨u, v, rfl⟩ := nbs_mem hd
    have ni := notin_pr h u v (L := TL m n i j) TL_pr
    have an := any_pr u v (L := TL m n i j) TL_pr
    by_cases q : pr u v ∈ TL m n i j
    · have e : p (pr u v) = false := by show (!_) = false; rw [an.mpr q]; rfl
      rw [an.mpr q] at ni
      rw [e]
      simp [sb, ni]
    · have q' : (TL m n i j).any (fun z => D.eqv z (pr u v)) = false := by
        rw [Bool.eq_false_iff]; exact fun z => q (an.mp z)
      have e : p (pr u v) = true := by show (!_) = true; rw [q']; rfl
      rw [q'] at ni
      have nr : ¬ (0 ≤ u ∧ u < 2 * m ∧ 0 ≤ v ∧ v < 2 * n) := fun z => q (List.mem_filter.mpr ⟨hd, decide_eq_true z⟩)
      have t3 := told3_ex (k + 18) 35 (piece_to_no (k + 12) m n i j u v h hm hn ⟨hi.1, hi.2, hj.1, hj.2⟩ nr) (d := .lst [.str "no block", pr u v]) rfl rfl
      rw [e]
      simp [sb, ni, t3, lim]
      rfl
  have c2 : turns (turn P.G (call P (k + 20)) (.lst [(.con (.str "no block")), (.var 11)]) (.nm 11) [(.cmp .notin (.var 11) (.var 10))] [11] (sb m n i j o2 o3 o7 o13 o14 o15 o16 o17 o18 o19 o20 o21 o8 (some (.lst (nbs i j))) (some (.lst (TL m n i j))) o11 o12)) (nbs i j) h = .ok (((nbs i j).filter p).map g) h := by
    refine turns_filter _ fun d hd => ?_
    obtain ⟨u, v, rfl⟩ := nbs_mem hd
    have ni := notin_pr h u v (L := TL m n i j) TL_pr
    have an := any_pr u v (L := TL m n i j) TL_pr
    by_cases q : pr u v ∈ TL m n i j
    · have e : p (pr u v) = false := by show (!_) = false; rw [an.mpr q]; rfl
      rw [an.mpr q] at ni
      rw [e]
      simp [sb, ni]
    · have q' : (TL m n i j).any (fun z => D.eqv z (pr u v)) = false := by
        rw [Bool.eq_false_iff]; exact fun z => q (an.mp z)
      have e : p (pr u v) = true := by show (!_) = true; rw [q']; rfl
      rw [q'] at ni
      rw [e]
      simp [sb, ni, lim]
      rfl
  have hl : (((nbs i j).filter p).map g).length ≤ 16777216 := by
    rw [List.length_map]
    exact Nat.le_trans (List.length_filter_le _ _) (by simp [nbs])
  have hl2 : ((nbs i j).filter p).length ≤ 16777216 := by rw [List.length_map] at hl; exact hl
  have ff : fits 5 (.lst (((nbs i j).filter p).map g)) = true := fits_lst hl fun d hd => by
    obtain ⟨e, he, rfl⟩ := List.mem_map.mp hd
    obtain ⟨u, v, rfl⟩ := nbs_mem (List.mem_filter.mp he).1
    simp [fits, lim, sNob, g]
  have c42 : call P (k + 20) 42 [.lst (((nbs i j).filter p).map g), .lst (((nbs i j).filter p).map g)] h = .ok (.bl true) h := same (k + 14) 5 _ h (by decide) ff
  simp only [A9, exec_ite, ev_not, ev_call, evs_cons, evs_nil, ev_cmpr, ev_var]
  simp only [sb, List.getElem?_cons_succ, List.getElem?_cons_zero, Option.join_some, Res.opt_some, Res.bind_ok, items_lst, comp_some]
  simp [c1, c2, hl, hl2, lim, c42]
end
/-- one BLOCK's look -/
theorem block_step (k : Nat) (m n i j : Int) (σ : St') (t : AObj) (B : Nat) (hm : 1 ≤ m ∧ m ≤ 8) (hn : 1 ≤ n ∧ n ≤ 8) (hi : 0 ≤ i ∧ i < 2 * m) (hj : 0 ≤ j ∧ j < 2 * n) (hσ : I3 m n σ) (ht : TI B t) (hB : B ≤ 1000000) :
    NX (fun σ' h' => I3 m n σ' ∧ ∃ t', h' = [t'] ∧ TI (B + 1) t') (round P.G (call P (k + 20)) P.W (.nm 4) B1 (pr i j) σ [t]) := by
  obtain ⟨o2, o3, o4, o7, o8, o9, o10, o11, o12, o13, o14, o15, o16, o17, o18, o19, o20, o21, rfl⟩ := hσ
  rw [round_eq, assign_nm, roundO_some, B1_eq]
  show NX _ (execs P.G (call P (k + 20)) P.W _ (sb m n i j o2 o3 o7 o13 o14 o15 o16 o17 o18 o19 o20 o21 o8 o9 o10 o11 o12) [t])
  rw [execs_cons, st0, andThen_nx, execs_cons, st1 k m n i j _ _ _ _ _ _ _ _ _ _ _ _ _ _ _ _ _ hi hj, andThen_nx, execs_cons, st2 k m n i j _ _ _ _ _ _ _ _ _ _ _ _ _ _ _ _ _ hm.1 hn.1 hi hj, andThen_nx, execs_cons, st3, andThen_nx, execs_cons, st4, andThen_nx, execs_cons, st5, andThen_nx, execs_cons]
  obtain ⟨o11', e6⟩ := st6 k m n i j [t] o2 o3 o7 (some (.lst (nbs i j))) o11 o12 o13 o14 o15 o16 o17 o18 o19 o20 o21 hm.1 hn.1 hi hj
  rw [e6, andThen_nx, execs_cons]
  obtain ⟨L, e7, hL, hl⟩ := plots (k + 19) m n [t] hm hn
  have e7' : call P (k + 20) 45 [.tup [.int m, .int n]] [t] = .ok (.lst L) [t] := e7
  have hmn : 2 * m * (2 * n) ≤ 16 * 16 := Int.mul_le_mul (by omega) (by omega) (by omega) (by omega)
  have hmn1 : 1 ≤ 2 * m * (2 * n) := by
    have : 1 * 1 ≤ 2 * m * (2 * n) := Int.mul_le_mul (by omega) (by omega) (by omega) (by omega)
    omega
  obtain ⟨d, hd, t', e8, ht'⟩ := of_ok (P := P) (f := 39) (ft := 37) e39 e37 (k + 18) [] (ds := L) ht (by omega) (by omega) (by omega) fun d hd => by
    obtain ⟨u, v, rfl, _⟩ := hL d hd
    rfl
  have e8' : call P (k + 20) 39 [.ref 0, .lst L] [t] = .ok d [t'] := e8
  obtain ⟨u, v, rfl, u0, u1, v0, v1⟩ := hL d hd
  have s7 : exec P.G (call P (k + 20)) P.W A7 (sb m n i j o2 o3 o7 o13 o14 o15 o16 o17 o18 o19 o20 o21 (some (.tup (FL m n i j))) (some (.lst (nbs i j))) (some (.lst (TL m n i j))) o11' o12) [t] = .nx (sb m n i j o2 o3 o7 o13 o14 o15 o16 o17 o18 o19 o20 o21 (some (.tup (FL m n i j))) (some (.lst (nbs i j))) (some (.lst (TL m n i j))) o11' (some (pr u v))) [t'] := by
    simp [A7, sb, e7', e8']
  rw [s7, andThen_nx, execs_cons, st8 k m n i j _ _ _ _ _ _ _ _ _ _ _ _ _ _ _ u v hm.1 hn.1 hi hj ⟨u0, u1, v0, v1⟩, andThen_nx, execs_cons, st9 k m n i j _ _ _ _ _ _ _ _ _ _ _ _ _ _ _ _ hm.1 hn.1 hi hj, andThen_nx, execs_nil]
  exact ⟨⟨_, _, _, _, _, _, _, _, _, _, _, _, _, _, _, _, _, _, rfl⟩, t', rfl, ht'⟩
end K01
/-! K01u -/
set_option maxHeartbeats 4000000
namespace K01
open Rf
def Z0 : S := .asg (.nm 1) (.call 48 [(.var 0), (.con (.int 64))])
def Z1 : S := .asg (.tp [(.nm 5), (.nm 6)]) (.var 1)
def Z2 : S := .asg (.nm 2) (.cmpr (.tup [(.bin .sub (.call 37 [(.var 0), (.bin .add (.bin .mul (.con (.int 4)) (.var 5)) (.con (.int 2)))]) (.con (.int 1))), (.bin .sub (.call 37 [(.var 0), (.bin .add (.bin .mul (.con (.int 4)) (.var 6)) (.con (.int 2)))]) (.con (.int 1))), (.call 37 [(.var 0), (.con (.int 4))])]) (.nm 13) .rng1 [(.con (.int 7))] [] [13])
def Z3 : S := .asg (.nm 2) (.bin .add (.bin .add (.var 2) (.cmpr (.tup [(.bin .add (.bin .mul (.call 37 [(.var 0), (.bin .mul (.con (.int 2)) (.var 5))]) (.con (.int 2))) (.call 37 [(.var 0), (.con (.int 2))])), (.bin .add (.bin .mul (.call 37 [(.var 0), (.bin .mul (.con (.int 2)) (.var 6))]) (.con (.int 2))) (.call 37 [(.var 0), (.con (.int 2))])), (.call 37 [(.var 0), (.con (.int 4))])]) (.nm 13) .rng1 [(.con (.int 5))] [] [13])) (.lst [(.tup [(.con (.int 999999)), (.neg (.con (.int 7))), (.con (.int 3))])]))
def Z4 : S := .for_ (.nm 3) .it [(.var 2)] B0
def Z5 : S := .for_ (.nm 4) .it [(.bin .add (.call 40 [(.var 0), (.call 45 [(.var 1)]), (.con (.int 3))]) (.lst [(.tup [(.con (.int 0)), (.con (.int 0))]), (.tup [(.bin .sub (.bin .mul (.con (.int 2)) (.var 5)) (.con (.int 1))), (.con (.int 0))])]))] B1
def Z6 : S := .ret (.con (.bl true))
theorem c53_Z : c53 = ⟨1, 22, [Z0, Z1, Z2, Z3, Z4, Z5, Z6], false⟩ := rfl
def X2 : E := (.tup [(.bin .sub (.call 37 [(.var 0), (.bin .add (.bin .mul (.con (.int 4)) (.var 5)) (.con (.int 2)))]) (.con (.int 1))), (.bin .sub (.call 37 [(.var 0), (.bin .add (.bin .mul (.con (.int 4)) (.var 6)) (.con (.int 2)))]) (.con (.int 1))), (.call 37 [(.var 0), (.con (.int 4))])])
def X3 : E := (.tup [(.bin .add (.bin .mul (.call 37 [(.var 0), (.bin .mul (.con (.int 2)) (.var 5))]) (.con (.int 2))) (.call 37 [(.var 0), (.con (.int 2))])), (.bin .add (.bin .mul (.call 37 [(.var 0), (.bin .mul (.con (.int 2)) (.var 6))]) (.con (.int 2))) (.call 37 [(.var 0), (.con (.int 2))])), (.call 37 [(.var 0), (.con (.int 4))])])
theorem z0 : small 0 = true := rfl
section
variable (k : Nat) (m n : Int) (o2 : Option D)
/-- the state of a draw's check -/
abbrev sr (o2 : Option D) : St' := [some (.ref 0), some (.tup [.int m, .int n]), o2, none, none, some (.int m), some (.int n), none, none, none, none, none, none, none, none, none, none, none, none, none, none, none]
def isSlab (d : D) : Prop := ∃ x y w, d = tr x y w ∧ 0 ≤ w ∧ w ≤ 3
theorem tn2 (hm : 1 ≤ m ∧ m ≤ 8) (hn : 1 ≤ n ∧ n ≤ 8) (d : D) (B : Nat) (t : AObj) (ht : TI B t) (hB : B ≤ 1000000) : ∃ x t', turn P.G (call P (k + 20)) X2 (.nm 13) [] [13] (sr m n o2) d [t] = .ok (some x) [t'] ∧ isSlab x ∧ TI (B + 3) t' := by
  obtain ⟨v1, t1, e1, a0, a1, h1⟩ := take_ok (P := P) e37 (k + 19) [] (below := 4 * m + 2) ht (by omega) (by omega) (by omega)
  obtain ⟨v2, t2, e2, b0, b1, h2⟩ := take_ok (P := P) e37 (k + 19) [] (below := 4 * n + 2) h1 (by omega) (by omega) (by omega)
  obtain ⟨v3, t3, e3, c0, c1, h3⟩ := take_ok (P := P) e37 (k + 19) [] (below := 4) h2 (by omega) (by omega) (by omega)
  have e1 : call P (k + 20) 37 [.ref 0, .int (4 * m + 2)] [t] = .ok (.int v1) [t1] := e1
  have e2 : call P (k + 20) 37 [.ref 0, .int (4 * n + 2)] [t1] = .ok (.int v2) [t2] := e2
  have e3 : call P (k + 20) 37 [.ref 0, .int 4] [t2] = .ok (.int v3) [t3] := e3
  refine ⟨tr (v1 - 1) (v2 - 1) v3, t3, ?_, ⟨_, _, _, rfl, c0, by omega⟩, h3⟩
  simp [sr, X2, s4, e1, e2, e3, lim]
theorem tn3 (hm : 1 ≤ m ∧ m ≤ 8) (hn : 1 ≤ n ∧ n ≤ 8) (d : D) (B : Nat) (t : AObj) (ht : TI B t) (hB : B ≤ 1000000) : ∃ x t', turn P.G (call P (k + 20)) X3 (.nm 13) [] [13] (sr m n o2) d [t] = .ok (some x) [t'] ∧ isSlab x ∧ TI (B + 5) t' := by
  obtain ⟨v1, t1, e1, a0, a1, h1⟩ := take_ok (P := P) e37 (k + 19) [] (below := 2 * m) ht (by omega) (by omega) (by omega)
  obtain ⟨v2, t2, e2, b0, b1, h2⟩ := take_ok (P := P) e37 (k + 19) [] (below := 2) h1 (by omega) (by omega) (by omega)
  obtain ⟨v3, t3, e3, c0, c1, h3⟩ := take_ok (P := P) e37 (k + 19) [] (below := 2 * n) h2 (by omega) (by omega) (by omega)
  obtain ⟨v4, t4, e4, d0, d1, h4⟩ := take_ok (P := P) e37 (k + 19) [] (below := 2) h3 (by omega) (by omega) (by omega)
  obtain ⟨v5, t5, e5, f0, f1, h5⟩ := take_ok (P := P) e37 (k + 19) [] (below := 4) h4 (by omega) (by omega) (by omega)
  have e1 : call P (k + 20) 37 [.ref 0, .int (2 * m)] [t] = .ok (.int v1) [t1] := e1
  have e2 : call P (k + 20) 37 [.ref 0, .int 2] [t1] = .ok (.int v2) [t2] := e2
  have e3 : call P (k + 20) 37 [.ref 0, .int (2 * n)] [t2] = .ok (.int v3) [t3] := e3
  have e4 : call P (k + 20) 37 [.ref 0, .int 2] [t3] = .ok (.int v4) [t4] := e4
  have e5 : call P (k + 20) 37 [.ref 0, .int 4] [t4] = .ok (.int v5) [t5] := e5
  refine ⟨tr (v1 * 2 + v2) (v3 * 2 + v4) v5, t5, ?_, ⟨_, _, _, rfl, f0, by omega⟩, h5⟩
  simp [sr, X3, s2, e1, e2, e3, e4, e5, lim]
end
theorem right (k : Nat) (t : AObj) (B : Nat) (ht : TI B t) (hB : B ≤ 900000) : ∃ t', call P (k + 24) 53 [.ref 0] [t] = .ok (.bl true) [t'] ∧ TI (B + 400) t' := by
  rw [call_at e53 rfl, c53_Z]
  obtain ⟨m, n, t1, e1, m1, m8, n1, n8, _, h1⟩ := deck_ok (P := P) (f := 48) (ft := 37) (fo := 39) e48 e37 e39 (k + 20) [] (M := 64) ht (by omega) (by omega) (by omega)
  have e1 : call P (k + 23) 48 [.ref 0, .int 64] [t] = .ok (.tup [.int m, .int n]) [t1] := e1
  have hm : 1 ≤ m ∧ m ≤ 8 := ⟨m1, m8⟩
  have hn : 1 ≤ n ∧ n ≤ 8 := ⟨n1, n8⟩
  obtain ⟨L2, t2, e2, l2, q2, h2⟩ := turns_draw (Q := fun _ x => isSlab x) (c := 3) (M := 1000000) (f := turn P.G (call P (k + 23)) X2 (.nm 13) [] [13] (sr m n none)) (r := []) (rngs 0 7) (B + 3) t1 (fun d hd B t ht hB => tn2 (k + 3) m n none hm hn d B t ht hB) h1 (by rw [rngs_len]; omega)
  obtain ⟨L3, t3, e3, l3, q3, h3⟩ := turns_draw (Q := fun _ x => isSlab x) (c := 5) (M := 1000000) (f := turn P.G (call P (k + 23)) X3 (.nm 13) [] [13] (sr m n (some (.lst L2)))) (r := []) (rngs 0 5) (B + 3 + 7 * 3) t2 (fun d hd B t ht hB => tn3 (k + 3) m n (some (.lst L2)) hm hn d B t ht hB) h2 (by rw [rngs_len]; omega)
  rw [rngs_len] at l2 l3
  let L4 : List D := L2 ++ (L3 ++ [tr 999999 (-7) 3])
  have q4 : ∀ d ∈ L4, isSlab d := fun d hd => by
    rcases List.mem_append.mp hd with hd | hd
    · obtain ⟨_, _, z⟩ := q2 d hd; exact z
    · rcases List.mem_append.mp hd with hd | hd
      · obtain ⟨_, _, z⟩ := q3 d hd; exact z
      · rw [List.mem_singleton.mp hd]; exact ⟨_, _, _, rfl, by decide, by decide⟩
  have lp := loop_nx (I := fun σ h' => h' = [t3] ∧ I3 m n σ) (f := round P.G (call P (k + 23)) P.W (.nm 3) B0) L4 (sr m n (some (.lst L4))) [t3]
    (fun d hd σ h' ⟨e0, e1⟩ => by
      subst e0
      obtain ⟨x, y, w, rfl, w0, w3⟩ := q4 d hd
      exact slab_step (k + 3) m n x y w [t3] σ m1 n1 ⟨w0, w3⟩ e1)
    ⟨rfl, _, _, _, _, _, _, _, _, _, _, _, _, _, _, _, _, _, _, rfl⟩
  obtain ⟨σ5, _, e5, rfl, i5⟩ := lp.of
  obtain ⟨PL, e6, hPL, hpl⟩ := plots (k + 22) m n [t3] hm hn
  have e6 : call P (k + 23) 45 [.tup [.int m, .int n]] [t3] = .ok (.lst PL) [t3] := e6
  have hmn : 2 * m * (2 * n) ≤ 16 * 16 := Int.mul_le_mul (by omega) (by omega) (by omega) (by omega)
  have h3' : TI (B + 49) t3 := h3.mono (by rw [rngs_len]; omega)
  obtain ⟨xs, t7, e7, q7, l7, h7⟩ := pick_ok (P := P) (f := 40) (ft := 37) e40 e37 (k + 21) [] (src := .lst PL) (ds := PL) (cnt := 3) (fun h => rfl) h3' (by omega) (by omega) (fun d hd => by
    obtain ⟨u, v, rfl, _⟩ := hPL d hd
    rfl) (by decide) (by decide)
  have e7 : call P (k + 23) 40 [.ref 0, .lst PL, .int 3] [t3] = .ok (.lst xs) [t7] := e7
  have h7' : TI (B + 305) t7 := h7.mono (by omega)
  let L8 : List D := xs ++ [pr 0 0, pr (2 * m - 1) 0]
  have q8 : ∀ d ∈ L8, ∃ i j, d = pr i j ∧ 0 ≤ i ∧ i < 2 * m ∧ 0 ≤ j ∧ j < 2 * n := fun d hd => by
    rcases List.mem_append.mp hd with hd | hd
    · exact hPL d (q7 d hd)
    · simp only [List.mem_cons, List.mem_nil_iff, or_false] at hd
      rcases hd with rfl | rfl
      · exact ⟨_, _, rfl, by omega, by omega, by omega, by omega⟩
      · exact ⟨_, _, rfl, by omega, by omega, by omega, by omega⟩
  have hx : xs.length ≤ 3 := by omega
  have lp2 := loop_nxn (I := fun c σ h' => I3 m n σ ∧ ∃ t', h' = [t'] ∧ TI (B + 305 + c) t') (f := round P.G (call P (k + 23)) P.W (.nm 4) B1) L8 0 σ5 [t7]
    (fun d hd c σ h' hc ⟨e0, t', e1, ht'⟩ => by
      subst e1
      obtain ⟨i, j, rfl, a1, a2, a3, a4⟩ := q8 d hd
      have hc2 : c < 5 := by
        have : L8.length = xs.length + 2 := by simp [L8]
        omega
      exact block_step (k + 3) m n i j σ t' (B + 305 + c) hm hn ⟨a1, a2⟩ ⟨a3, a4⟩ e0 ht' (by omega))
    ⟨i5, t7, rfl, h7'⟩
  obtain ⟨σ9, _, e9, i9, t9, rfl, h9⟩ := lp2.of
  refine ⟨t9, ?_, h9.mono (by
    have : L8.length = xs.length + 2 := by simp [L8]
    omega)⟩
  have a0 : exec P.G (call P (k + 23)) P.W Z0 (some (.ref 0) :: List.replicate 21 none) [t] = .nx (some (.ref 0) :: some (.tup [.int m, .int n]) :: List.replicate 20 none) [t1] := by
    simp [Z0, e1, List.replicate]
  have a1 : exec P.G (call P (k + 23)) P.W Z1 (some (.ref 0) :: some (.tup [.int m, .int n]) :: List.replicate 20 none) [t1] = .nx (sr m n none) [t1] := by
    simp [Z1, List.replicate]
  have a2 : exec P.G (call P (k + 23)) P.W Z2 (sr m n none) [t1] = .nx (sr m n (some (.lst L2))) [t2] := by
    have : turns (turn P.G (call P (k + 23)) X2 (.nm 13) [] [13] (sr m n none)) (rngs 0 7) [t1] = .ok L2 [t2] := e2
    show exec P.G (call P (k + 23)) P.W (.asg (.nm 2) (.cmpr X2 (.nm 13) .rng1 [.con (.int 7)] [] [13])) _ _ = _
    simp only [exec_asg, ev_cmpr, evs_cons, evs_nil, ev_con, Res.bind_ok, items_rng1]
    rw [if_pos (show rok 7 = true from rfl), comp_some, show (7 : Int).toNat = 7 from rfl, this]
    simp [l2, lim]
  have a3 : exec P.G (call P (k + 23)) P.W Z3 (sr m n (some (.lst L2))) [t2] = .nx (sr m n (some (.lst L4))) [t3] := by
    have : turns (turn P.G (call P (k + 23)) X3 (.nm 13) [] [13] (sr m n (some (.lst L2)))) (rngs 0 5) [t2] = .ok L3 [t3] := e3
    show exec P.G (call P (k + 23)) P.W (.asg (.nm 2) (.bin .add (.bin .add (.var 2) (.cmpr X3 (.nm 13) .rng1 [.con (.int 5)] [] [13])) (.lst [(.tup [(.con (.int 999999)), (.neg (.con (.int 7))), (.con (.int 3))])]))) _ _ = _
    simp only [exec_asg, ev_bin, ev_cmpr, evs_cons, evs_nil, ev_con, ev_var, Res.bind_ok, items_rng1]
    rw [show (sr m n (some (.lst L2)))[2]?.join = some (.lst L2) from rfl, Res.opt_some, Res.bind_ok, if_pos (show rok 5 = true from rfl), comp_some, show (5 : Int).toNat = 5 from rfl, this]
    simp [l2, l3, lim, L4]
  have a4 : exec P.G (call P (k + 23)) P.W Z4 (sr m n (some (.lst L4))) [t3] = .nx σ5 [t3] := by
    show exec P.G (call P (k + 23)) P.W (.for_ (.nm 3) .it [.var 2] B0) _ _ = _
    simp only [exec_for, evs_cons, evs_nil, ev_var]
    simp [e5]
  have a5 : exec P.G (call P (k + 23)) P.W Z5 σ5 [t3] = .nx σ9 [t9] := by
    obtain ⟨o2, o3, o4, o7, o8, o9, o10, o11, o12, o13, o14, o15, o16, o17, o18, o19, o20, o21, rfl⟩ := i5
    show exec P.G (call P (k + 23)) P.W (.for_ (.nm 4) .it [(.bin .add (.call 40 [(.var 0), (.call 45 [(.var 1)]), (.con (.int 3))]) (.lst [(.tup [(.con (.int 0)), (.con (.int 0))]), (.tup [(.bin .sub (.bin .mul (.con (.int 2)) (.var 5)) (.con (.int 1))), (.con (.int 0))])]))] B1) _ _ = _
    have hx2 : xs.length + 1 + 1 ≤ 16777216 := by omega
    have e9' : loop (round P.G (call P (k + 23)) P.W (.nm 4) B1) (xs ++ [pr 0 0, pr (2 * m - 1) 0]) [some (.ref 0), some (.tup [.int m, .int n]), o2, o3, o4, some (.int m), some (.int n), o7, o8, o9, o10, o11, o12, o13, o14, o15, o16, o17, o18, o19, o20, o21] [t7] = .nx σ9 [t9] := e9
    simp [e6, e7, lim, s2, hx2, e9']
  show close 1 false (execs P.G (call P (k + 23)) P.W [Z0, Z1, Z2, Z3, Z4, Z5, Z6] (some (.ref 0) :: List.replicate 21 none) [t]) = _
  rw [execs_cons, a0, andThen_nx, execs_cons, a1, andThen_nx, execs_cons, a2, andThen_nx, execs_cons, a3, andThen_nx, execs_cons, a4, andThen_nx, execs_cons, a5, andThen_nx]
  simp [Z6]
  rfl
end K01
/-! K01v -/
set_option maxHeartbeats 4000000
namespace K01
open Rf
def pL (m n x : Int) : D → Bool
  | .int k => lyB m n x (k / 4) (k % 4)
  | _ => false
def cnt (m n x : Int) : Nat := ((rngs 0 (16 * n).toNat).filter (pL m n x)).length
def tot (m n : Int) : Nat → Nat
  | 0 => 0
  | c + 1 => tot m n c + cnt m n c
def totB (m n : Nat) : Bool := decide ((tot m n (4 * m) : Int) = 16 * m * n - 4 * m - 4 * n)
theorem tot_all : ((List.range 7).all fun m => (List.range 7).all fun n => !(decide (1 ≤ m) && decide (1 ≤ n) && decide (m * n ≤ 6)) || totB m n) = true := by decide +kernel
theorem tot_ok (m n : Int) (hm : 1 ≤ m) (hn : 1 ≤ n) (h : m * n ≤ 6) : (tot m n (4 * m).toNat : Int) = 16 * m * n - 4 * m - 4 * n := by
  have m6 : m ≤ 6 := by
    have : m * 1 ≤ m * n := Int.mul_le_mul_of_nonneg_left hn (by omega)
    omega
  have n6 : n ≤ 6 := by
    have : 1 * n ≤ m * n := Int.mul_le_mul_of_nonneg_right hm (by omega)
    omega
  obtain ⟨a, rfl⟩ : ∃ a : Nat, m = a := ⟨m.toNat, by omega⟩
  obtain ⟨b, rfl⟩ : ∃ b : Nat, n = b := ⟨n.toNat, by omega⟩
  have := List.all_eq_true.mp (List.all_eq_true.mp tot_all a (List.mem_range.mpr (by omega))) b (List.mem_range.mpr (by omega))
  have e1 : decide (1 ≤ a) = true := decide_eq_true (by omega)
  have e2 : decide (1 ≤ b) = true := decide_eq_true (by omega)
  have e3 : decide (a * b ≤ 6) = true := decide_eq_true (by exact_mod_cast h)
  rw [e1, e2, e3] at this
  have q := of_decide_eq_true (show totB a b = true by simpa using this)
  rw [show (4 * (a : Int)).toNat = 4 * a by omega]
  exact q
theorem start_gen (G : Glb) (cl : CallF) (W : Nat) (a : D) (ds cs : List D) (e1 : cl 38 [a, .int 1] [] = .ok (.lst cs) []) (e2 : cl 36 [.lst cs, .int 0] [] = .ok (.lst ds) []) (fr : G.fr 36 = true) : exec G cl W (.thaw 1 (.call 36 [(.call 38 [(.var 0), (.con (.int 1))]), (.con (.int 0))])) [some a, none, none, none, none, none, none] [] = .nx [some a, some (.ref 0), none, none, none, none, none] [.lst ds] := by
  simp [e1, e2, E.fresh, fr]
theorem start (ns : List Int) (hl : ns.length ≤ 63) : ∃ t, exec P.G (call P 29) P.W (.thaw 1 (.call 36 [(.call 38 [(.var 0), (.con (.int 1))]), (.con (.int 0))])) [some (.lst (ns.map .int)), none, none, none, none, none, none] [] = .nx [some (.lst (ns.map .int)), some (.ref 0), none, none, none, none, none] [t] ∧ TI 0 t := by
  obtain ⟨s, e1⟩ := cells_ok (P := P) (f := 38) e38 28 ns hl []
  obtain ⟨ds, e2, ht⟩ := box_ok (P := P) (f := 36) (c := 3193501) e36 28 s [] (by decide) (by decide)
  exact ⟨.lst ds, start_gen _ _ _ _ _ _ e1 e2 rfl, ht⟩
theorem three (t : AObj) (B : Nat) (ht : TI B t) (hB : B ≤ 1000) (a : D) : ∃ t', turns (turn P.G (call P 29) (.call 53 [(.var 1)]) (.nm 5) [] [5] [some a, some (.ref 0), none, none, none, none, none]) (rngs 0 3) [t] = .ok [.bl true, .bl true, .bl true] [t'] ∧ TI (B + 1200) t' := by
  obtain ⟨t1, e1, h1⟩ := right 5 t B ht (by omega)
  obtain ⟨t2, e2, h2⟩ := right 5 t1 (B + 400) h1 (by omega)
  obtain ⟨t3, e3, h3⟩ := right 5 t2 (B + 400 + 400) h2 (by omega)
  have e1 : call P 29 53 [.ref 0] [t] = .ok (.bl true) [t1] := e1
  have e2 : call P 29 53 [.ref 0] [t1] = .ok (.bl true) [t2] := e2
  have e3 : call P 29 53 [.ref 0] [t2] = .ok (.bl true) [t3] := e3
  refine ⟨t3, ?_, h3⟩
  simp [rngs, List.range_succ, e1, e2, e3]
theorem ev0 (ns : List Int) (hl : ns.length ≤ 63) : call P 30 54 [.lst (ns.map .int)] [] = .ok (.bl true) [] := by
  rw [call_at e54 rfl]
  obtain ⟨t, e1, h1⟩ := start ns hl
  obtain ⟨t2, e2, h2⟩ := three t 0 h1 (by decide) (.lst (ns.map .int))
  obtain ⟨m, n, t3, e3, m1, m8, n1, n8, hmn, h3⟩ := deck_ok (P := P) (f := 48) (ft := 37) (fo := 39) e48 e37 e39 26 [] (M := 6) h2 (by omega) (by omega) (by omega)
  have e3 : call P 29 48 [.ref 0, .int 6] [t2] = .ok (.tup [.int m, .int n]) [t3] := e3
  have rk1 : rok (4 * m) = true := by unfold rok; rw [Bool.and_eq_true, decide_eq_true_eq, decide_eq_true_eq]; constructor <;> omega
  have rk2 : rok (16 * n) = true := by unfold rok; rw [Bool.and_eq_true, decide_eq_true_eq, decide_eq_true_eq]; constructor <;> omega
  have s16 : small 16 = true := rfl
  obtain ⟨σ', h', e4, ⟨o4, o5, o6, e5⟩, e6⟩ := loop_num (I := fun c σ h' => (∃ o4 o5 o6, σ = [some (.lst (ns.map .int)), some (.ref 0), some (.tup [.int m, .int n]), some (.int (tot m n c)), o4, o5, o6]) ∧ h' = [t3]) (f := round P.G (call P 29) P.W (.nm 4) [.asg (.nm 3) (.bin .add (.var 3) (.blt .len [(.cmpr (.con (.int 1)) (.nm 6) .rng1 [(.bin .mul (.con (.int 16)) (.ix (.var 2) (.con (.int 1))))] [(.call 29 [(.var 2), (.tup [(.var 4), (.bin .fdiv (.var 6) (.con (.int 4))), (.bin .mod (.var 6) (.con (.int 4)))])])] [6])]))]) (rngs 0 (4 * m).toNat) 0 [some (.lst (ns.map .int)), some (.ref 0), some (.tup [.int m, .int n]), some (.int 0), none, none, none] [t3]
    (fun c hc σ h' ⟨⟨o4, o5, o6, e5⟩, e6⟩ => by
      subst e5 e6
      have hg : (rngs 0 (4 * m).toNat)[c] = .int c := by simp [rngs]
      rw [hg, Nat.zero_add]
      have tr : turns (turn P.G (call P 29) (.con (.int 1)) (.nm 6) [(.call 29 [(.var 2), (.tup [(.var 4), (.bin .fdiv (.var 6) (.con (.int 4))), (.bin .mod (.var 6) (.con (.int 4)))])])] [6] [some (.lst (ns.map .int)), some (.ref 0), some (.tup [.int m, .int n]), some (.int (tot m n c)), some (.int c), o5, o6]) (rngs 0 (16 * n).toNat) [t3] = .ok (((rngs 0 (16 * n).toNat).filter (pL m n c)).map fun _ => .int 1) [t3] := by
        refine turns_filter _ fun d hd => ?_
        obtain ⟨z, hz, rfl⟩ := rngs_mem hd
        have cl := can_lie 23 m n c ((z : Int) / 4) ((z : Int) % 4) [t3] m1 n1 ⟨by omega, by omega⟩
        have cl : call P 29 29 [.tup [.int m, .int n], .tup [.int c, .int ((z : Int) / 4), .int ((z : Int) % 4)]] [t3] = .ok (.bl (lyB m n c ((z : Int) / 4) ((z : Int) % 4))) [t3] := cl
        show _ = Res.ok (if lyB m n c ((z : Int) / 4) ((z : Int) % 4) = true then _ else _) _
        cases q : lyB m n c ((z : Int) / 4) ((z : Int) % 4) <;> simp [guard', lim, Int.fmod_eq_emod_of_nonneg, Int.fdiv_eq_ediv_of_nonneg, cl, q]
      have l1 : ((rngs 0 (16 * n).toNat).filter (pL m n c)).length ≤ 16777216 := Nat.le_trans (List.length_filter_le _ _) (by rw [rngs_len]; omega)
      refine ⟨[some (.lst (ns.map .int)), some (.ref 0), some (.tup [.int m, .int n]), some (.int (tot m n (c + 1))), some (.int c), o5, o6], [t3], ?_, ⟨_, _, _, rfl⟩, rfl⟩
      simp [D.place, s16, rk2, tr, l1, lim]
      rfl)
    ⟨⟨_, _, _, rfl⟩, rfl⟩
  subst e5 e6
  rw [rngs_len, Nat.zero_add] at e4
  have tk := tot_ok m n m1 n1 hmn
  show close 0 false (execs P.G (call P 29) P.W [_, _, _, _, _, _] [some (.lst (ns.map .int)), none, none, none, none, none, none] []) = _
  rw [execs_cons, e1, andThen_nx]
  have rk3 : rok 3 = true := rfl
  have sn : small n = true := small_of (by omega) (by omega)
  simp [rk3, e2, e3, D.place, s4, s16, rk1, e4, lim, tk, sn]
  rfl
end K01
/-! K01w -/
set_option maxHeartbeats 0
namespace K01
open PySem Rf
theorem ev : ∀ ns : List Int, ns.length ≤ 63 → Rf.call (txt.prg 100000) 30 iL [.lst (ns.map D.int)] [] = .ok (.bl true) [] := by
  intro ns hl
  rw [prg_codes code_eq]
  exact ev0 ns hl
end K01
/-! K01e -/
set_option maxHeartbeats 0
namespace K01
open PySem PySem.Spec PyProof.Rows L2 Rf
theorem lt : iL < txt.ds.length := by decide +kernel
def dL : Dn := txt.ds[iL]'lt
theorem hd : txt.ds[iL]? = some dL := List.getElem?_eq_getElem lt
theorem hp : dL.ps = [("script" : Str)] := by decide +kernel
theorem hname : (HandSHeadRun.topDef (PySem.W.OpenLaw.row RW).prog 69).name = dL.name := by decide +kernel
end K01
open PySem PySem.W PySem.Calls PyProof.Rows
theorem PySem.Challenge.cw_teefloors_k01_main_pieces_by_three_cells_holds : PySem.Challenge.rw_teefloors_k01_main_pieces_by_three_cells.Holds := by
  w_on; o_law
  refine HandSHeadRun.head_any (r := OpenLaw.row PySem.Challenge.rw_teefloors_k01_main_pieces_by_three_cells) (q := view (OpenLaw.row PySem.Challenge.rw_teefloors_k01_main_pieces_by_three_cells).prog [69]) (H := K01.hk) (ob := K01.ob) (M := 30000) (loose := K01.loose) (d := HandSHeadRun.topDef (OpenLaw.row PySem.Challenge.rw_teefloors_k01_main_pieces_by_three_cells).prog 69) (kwd := []) K01.ob_eq
    (by kernel_rfl) (fun s => by kernel_rfl) K01.run (by kernel_rfl) (by kernel_rfl) (by kernel_rfl) (by rfl) (by first | assumption | decide +kernel) (by decide +kernel) ⟨rfl, rfl, rfl, rfl, rfl, by decide +kernel⟩ ?hw ?hc
  case hw => w_witness2
  case hc =>
    refine L2.walk_ofE (l := PySem.Challenge.rw_teefloors_k01_main_pieces_by_three_cells) (n := 63) (k := 30) (x := "script") (CX := Rf.CXu K01.PW) rfl (by decide) (by kernel_rfl) ⟨rfl, by decide, by decide⟩ ?F Rf.cxu_none
    intro w mg fa h Y G hmg0
    have hmg : mg K01.dL.name = some (.ref fa) := by
      rw [← K01.hname]
      exact hmg0
    exact Rf.Text.end_ (t := K01.txt) (W := 100000) K01.ok K01.hd K01.hp K01.ev w mg fa h Y G hmg

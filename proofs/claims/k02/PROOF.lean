import PyProof.Rows.All
import Wide.All
import OpenK.AllK
import Wide.FinOn
import HandS.ForMost
import HandS.Text
import KE.DataAny
import KE.DataIsa
import KE.DatumIndex
import KE.DatumOrd
import KE.SortData
import PyProof.StrLawsRepr
import HandS.TupAny
import HandS.Wide
import HandS.Zip
import HandS.SortOrd
import HandS.Style
import HandS.DictComp
import PyProof.ReprRoads
import HandS.TupLen
import HandS.More
import PyProof.Rows.RowHeap
import HandS.SetFor
import HandS.SetKeys
import KE.KRevSl
import HandS.IsInst
import HandS.Iter
import HandS.Finally
import HandS.SetBool
import KE.KUnpack
import HandS.Exc
import HandS.Ends
import PySem.Challenge.RW_mergewinners_k02_last_writes
set_option Elab.async false
set_option linter.all false
set_option maxRecDepth 100000
section
/-! P1: values as plain data, the small language, its evaluator. -/
namespace Pv
open PySem

abbrev D := PyData

/-- an outcome: a value, an exception of an own class with its field, or nothing that we speak of -/
inductive Out (A : Type) where
  | ok (a : A)
  | exc (c : Str) (d : D)
  | bad

def Out.bind {A B : Type} (x : Out A) (f : A → Out B) : Out B :=
  match x with
  | .ok a => f a
  | .exc c d => .exc c d
  | .bad => .bad
@[simp] theorem Out.bind_ok {A B : Type} (a : A) (f : A → Out B) : (Out.ok a).bind f = f a := rfl
@[simp] theorem Out.bind_exc {A B : Type} (c : Str) (d : D) (f : A → Out B) : (Out.exc c d).bind f = .exc c d := rfl
@[simp] theorem Out.bind_bad {A B : Type} (f : A → Out B) : (Out.bad : Out A).bind f = .bad := rfl
/-- a value if the guard holds -/
def Out.when {A : Type} (b : Bool) (a : A) : Out A := if b then .ok a else .bad
@[simp] theorem Out.when_true {A : Type} (a : A) : Out.when true a = .ok a := rfl
@[simp] theorem Out.when_false {A : Type} (a : A) : Out.when false a = .bad := rfl

abbrev Env := List (Option D)

/-! ### operators on data -/
inductive BOp where
  | add | sub | mul | fdiv | mod | pow | cat | rep
  deriving DecidableEq

def mulOk (i j : Int) : Bool := decide (i.natAbs.log2 < 60) || decide (j.natAbs.log2 < 60) || decide (i.natAbs.log2 + j.natAbs.log2 < 1000000)
def fits (n : Nat) : Bool := decide (n ≤ sizeLine)
def small (k : Int) : Bool := decide (k.natAbs < 2 ^ 60)

def addD : D → D → Out D
  | .int i, .int j => .ok (.int (i + j))
  | .str x, .str y => .when (fits (x.length + y.length)) (.str (x ++ y))
  | .list xs, .list ys => .when (fits (xs.length + ys.length)) (.list (xs ++ ys))
  | .tuple xs, .tuple ys => .when (fits (xs.length + ys.length)) (.tuple (xs ++ ys))
  | _, _ => .bad
def subD : D → D → Out D
  | .int i, .int j => .ok (.int (i - j))
  | _, _ => .bad
def mulD : D → D → Out D
  | .int i, .int j => .when (mulOk i j) (.int (i * j))
  | .str x, .int k => .when (small k && fits (x.length * k.toNat)) (.str ⟨(List.replicate k.toNat x.cps.toList).flatten.toArray⟩)
  | _, _ => .bad
def fdivD : D → D → Out D
  | .int i, .int j => .when (decide (0 < j) && decide (j.natAbs.log2 < 9000)) (.int (i / j))
  | _, _ => .bad
def modD : D → D → Out D
  | .int i, .int j => .when (decide (0 < j)) (.int (i % j))
  | _, _ => .bad
def powD : D → D → Out D
  | .int i, .int j => .when (decide (0 ≤ j) && decide ((i.natAbs.log2 + 1) * j.natAbs ≤ 134217728)) (.int (i ^ j.toNat))
  | _, _ => .bad
def catD : D → D → Out D
  | .list xs, .list ys => .when (fits (xs.length + ys.length)) (.list (xs ++ ys))
  | _, _ => .bad
def repD : D → D → Out D
  | .list xs, .int k => .when (small k && fits (xs.length * k.toNat)) (.list (List.replicate k.toNat xs).flatten)
  | _, _ => .bad
def binD : BOp → D → D → Out D
  | .add => addD | .sub => subD | .mul => mulD | .fdiv => fdivD | .mod => modD | .pow => powD | .cat => catD | .rep => repD

def negD : D → Out D
  | .int i => .ok (.int (-i))
  | _ => .bad

/-- the truth of plain data -/
def truD : D → Out Bool
  | .none => .ok false
  | .bool b => .ok b
  | .int i => .ok (i != 0)
  | .str x => .when (fits x.length) ((x.length : Int) != 0)
  | .list xs => .ok (!xs.isEmpty)
  | .tuple xs => .ok (!xs.isEmpty)
  | _ => .bad

/-- no list and no dict within -/
def immD : D → Bool
  | .none => true
  | .bool _ => true
  | .int _ => true
  | .str _ => true
  | .list _ => false
  | .tuple xs => immL xs
  | .dict _ => false
where immL : List D → Bool
  | [] => true
  | x :: xs => immD x && immL xs
/-- the n upper storeys may be lists and dicts -/
def immAt : Nat → D → Bool
  | 0, d => immD d
  | n + 1, .list xs => xs.all (immAt n)
  | n + 1, .tuple xs => xs.all immD
  | n + 1, .dict kvs => kvs.all fun p => immD p.1 && immAt n p.2
  | _ + 1, d => immD d

def plainDepth (d : D) : Bool := d.plain && decide (d.depth ≤ 40)

/-- a list's place by a Python index -/
def ixD (n : Nat) (i : Int) : Option Nat := if 0 ≤ i then (if i < n then some i.toNat else none) else if -(n : Int) ≤ i then some (i + n).toNat else none

def lookD (k : D) : List (D × D) → Option D
  | [] => none
  | (x, v) :: r => if x.eqv k then some v else lookD k r
def storeD (k v : D) (kvs : List (D × D)) : List (D × D) :=
  if kvs.any (fun p => p.1.eqv k) then kvs.map (fun p => if p.1.eqv k then (p.1, v) else p) else kvs ++ [(k, v)]
/-- a key: an int, a text -/
def keyS : D → Bool
  | .int _ => true
  | .str _ => true
  | _ => false
/-- .. a tuple of such -/
def keyT : D → Bool
  | .tuple xs => xs.all keyS
  | _ => false
def keyD (d : D) : Bool := keyS d || keyT d

def inStr (x y : Str) : Bool := !(Builtin.Str.occurrences y x 0 y.length 1).isEmpty
def inD : D → D → Out Bool
  | .str x, .str y => .ok (inStr x y)
  | x, .list ys => .when (plainDepth x && ys.all plainDepth) (ys.any fun y => y.eqv x)
  | x, .tuple ys => .when (plainDepth x && ys.all plainDepth) (ys.any fun y => y.eqv x)
  | x, .dict kvs => .when (keyD x && (kvs.all fun p => keyS p.1 == keyS x)) (lookD x kvs).isSome
  | _, _ => .bad
def eqDict (a b : List (D × D)) : Bool := decide (a.length = b.length) && a.all fun p => match lookD p.1 b with | some v => v.eqv p.2 | none => false
/-- lists of two lengths -/
def lenNe : D → D → Bool
  | .list xs, .list ys => decide (xs.length ≠ ys.length)
  | _, _ => false
/-- two dicts of texts and numbers that hold the same -/
def sameFl : D → D → Bool
  | .int i, .int j => decide (i = j)
  | .str x, .str y => decide (x = y)
  | _, _ => false
def eqDD : D → D → Bool
  | .dict a, .dict b => decide (a.length = b.length) && (a.all fun p => keyS p.1 && match lookD p.1 b with | some v => sameFl p.2 v | none => false) && b.all fun p => keyS p.1
  | _, _ => false
def eqD (x y : D) : Out Bool := if lenNe x y then .ok false else if eqDD x y then .ok true else .when (plainDepth x && plainDepth y) (x.eqv y)
def notNone : D → Bool
  | .none => false
  | _ => true
def ordOk (x y : D) : Bool := W.alike x y && notNone x && plainDepth x && plainDepth y
def strLt (x y : Str) : Bool := decide (x.cps.toList < y.cps.toList)

inductive COp where
  | eq | ne | lt | le | gt | ge | isN | isnN | in_ | nin
  deriving DecidableEq
def isNoneD : D → Bool
  | .none => true
  | _ => false
def cmpD : COp → D → D → Out Bool
  | .eq, x, y => eqD x y
  | .ne, x, y => (eqD x y).bind fun b => .ok (!b)
  | .lt, .int i, .int j => .ok (decide (i < j))
  | .le, .int i, .int j => .ok (decide (i ≤ j))
  | .gt, .int i, .int j => .ok (decide (j < i))
  | .ge, .int i, .int j => .ok (decide (j ≤ i))
  | .lt, .str x, .str y => .ok (strLt x y)
  | .gt, .str x, .str y => .ok (strLt y x)
  | .le, .str x, .str y => .ok (!strLt y x)
  | .ge, .str x, .str y => .ok (!strLt x y)
  | .lt, x, y => .when (ordOk x y) (W.dataLt x y)
  | .gt, x, y => .when (ordOk x y) (W.dataLt y x)
  | .le, x, y => .when (ordOk x y) (!W.dataLt y x)
  | .ge, x, y => .when (ordOk x y) (!W.dataLt x y)
  | .isN, .bool x, .bool y => .ok (decide (x = y))
  | .isN, x, y => .when (isNoneD y) (isNoneD x)
  | .isnN, x, y => .when (isNoneD y) (!isNoneD x)
  | .in_, x, y => inD x y
  | .nin, x, y => (inD x y).bind fun b => .ok (!b)

/-! ### subscripts -/
def getD : D → D → Out D
  | .list xs, .int i => match (ixD xs.length i).bind fun j => xs[j]? with | some d => .ok d | none => .bad
  | .tuple xs, .int i => match (ixD xs.length i).bind fun j => xs[j]? with | some d => .ok d | none => .bad
  | .str x, .int i => match (ixD x.length i).bind fun j => x.cps.toList[j]? with | some c => .when (fits x.length) (.str ⟨#[c]⟩) | none => .bad
  | .dict kvs, k => match keyD k && (kvs.all fun p => keyS p.1 == keyS k), lookD k kvs with | true, some v => .ok v | _, _ => .bad
  | _, _ => .bad
/-- .. of a list, a dict -/
def getD2 : D → D → Out D
  | .list xs, .int i => match (ixD xs.length i).bind fun j => xs[j]? with | some d => .ok d | none => .bad
  | _, _ => .bad
/-- a slice's ends -/
def endI : D → Out Int
  | .int i => .ok i
  | _ => .bad
def cutL {A : Type} (xs : List A) (lo hi : Option Int) : List A := (xs.drop (HT.sIx xs.length 0 lo)).take (HT.sIx xs.length xs.length hi - HT.sIx xs.length 0 lo)
def sliceD : D → Option Int → Option Int → Out D
  | .list xs, lo, hi => .ok (.list (cutL xs lo hi))
  | .tuple xs, lo, hi => .ok (.tuple (cutL xs lo hi))
  | .str x, lo, hi => .when (fits x.length) (.str ⟨(cutL x.cps.toList lo hi).toArray⟩)
  | _, _, _ => .bad
def isListD : D → Bool
  | .list _ => true
  | _ => false
def revD : D → Out D
  | .list xs => .ok (.list xs.reverse)
  | .tuple xs => .ok (.tuple xs.reverse)
  | _ => .bad

/-! ### built-in functions -/
inductive Bi where
  | len | all | any | sum | min | max | sorted | sortedR | abs | int | str | repr | list | tuple | dict | sset | lset | bool
  deriving DecidableEq
def isBool : D → Bool
  | .bool _ => true
  | _ => false
def isInt : D → Bool
  | .int _ => true
  | _ => false
def bOf : D → Bool
  | .bool b => b
  | _ => false
def iOf : D → Int
  | .int i => i
  | _ => 0
def lenD : D → Out D
  | .list xs => .ok (.int xs.length)
  | .tuple xs => .ok (.int xs.length)
  | .str x => .when (fits x.length) (.int x.length)
  | .dict kvs => .ok (.int kvs.length)
  | _ => .bad
def allD : D → Out D
  | .list xs => .when (xs.all isBool) (.bool (xs.all bOf))
  | _ => .bad
def anyD : D → Out D
  | .list xs => .when (xs.all isBool) (.bool (xs.any bOf))
  | _ => .bad
def sumD : D → Out D
  | .list xs => .when (xs.all isInt) (.int (xs.map iOf).sum)
  | _ => .bad
def pairOk (xs : List D) : Bool := xs.all fun x => notNone x && plainDepth x && xs.all (W.alike x)
def minL : List D → Out D
  | [] => .bad
  | x :: xs => .when (pairOk (x :: xs)) (W.minD x xs)
def maxL : List D → Out D
  | [] => .bad
  | x :: xs => .when (pairOk (x :: xs)) (W.maxD x xs)
def isTup : D → Bool
  | .tuple (_ :: _) => true
  | _ => false
def noTup : D → Bool
  | .tuple _ => false
  | _ => true
def sortOk (xs : List D) : Bool := pairOk xs && (xs.all isTup || xs.all noTup)
def sortL (xs : List D) : List D := xs.mergeSort (W.dataLe false id)
def sortRL (xs : List D) : List D := xs.mergeSort (W.dataLe true id)
/-- each once, in the order of the first ones -/
def onceL (xs : List D) : List D := xs.foldl (fun a x => if a.any (fun y => y.eqv x) then a else a ++ [x]) []
def itemsOf : D → Option (List D)
  | .list xs => some xs
  | .tuple xs => some xs
  | .dict kvs => some (kvs.map (·.1))
  | .str x => some (x.cps.toList.map fun c => .str ⟨#[c]⟩)
  | _ => none
def pairOf : D → Option (D × D)
  | .tuple [a, b] => some (a, b)
  | _ => none
mutual
/-- dicts within have ints and texts as keys -/
def txK : D → Bool
  | .none => true
  | .bool _ => true
  | .int _ => true
  | .str _ => true
  | .list xs => txL xs
  | .tuple xs => txL xs
  | .dict kvs => txP kvs
def txL : List D → Bool
  | [] => true
  | d :: ds => txK d && txL ds
def txP : List (D × D) → Bool
  | [] => true
  | (k, d) :: r => keyS k && txK d && txP r
end
def bigTxt (d : D) : Bool := txK d && d.showable && decide (d.depth ≤ 40) && decide (d.shown.length ≤ sizeLine)
def biD : Bi → List D → Out D
  | .len, [d] => lenD d
  | .all, [d] => allD d
  | .any, [d] => anyD d
  | .sum, [d] => sumD d
  | .min, [.list xs] => minL xs
  | .min, [.tuple xs] => minL xs
  | .min, [.int i, .int j] => .ok (.int (if j < i then j else i))
  | .max, [.list xs] => maxL xs
  | .max, [.tuple xs] => maxL xs
  | .max, [.int i, .int j] => .ok (.int (if i < j then j else i))
  | .sorted, [.list xs] => .when (sortOk xs) (.list (sortL xs))
  | .sorted, [.dict kvs] => .when (sortOk (kvs.map (·.1)) && kvs.all fun p => keyS p.1) (.list (sortL (kvs.map (·.1))))
  | .sortedR, [.list xs] => .when (sortOk xs) (.list (sortRL xs))
  | .abs, [.int i] => .ok (.int (if i < 0 then -i else i))
  | .int, [.int i] => .ok (.int i)
  | .int, [.bool b] => .ok (.int (if b then 1 else 0))
  | .str, [.int i] => .when (decide (i.natAbs.log2 < 1920)) (.str (toString i))
  | .repr, [d] => .when (bigTxt d) (.str d.shown)
  | .list, [.list xs] => .ok (.list xs)
  | .list, [.tuple xs] => .ok (.list xs)
  | .list, [.dict kvs] => .when (kvs.all fun p => keyS p.1) (.list (kvs.map (·.1)))
  | .tuple, [.list xs] => .ok (.tuple xs)
  | .tuple, [.tuple xs] => .ok (.tuple xs)
  | .sset, [.list xs] => .when (sortOk xs && xs.all keyS && decide (xs.length < 4000)) (.list (sortL (onceL xs)))
  | .sset, [.tuple xs] => .when (sortOk xs && xs.all keyS && decide (xs.length < 4000)) (.list (sortL (onceL xs)))
  | .dict, [.list xs] => .when (xs.all fun x => match pairOf x with | some p => keyS p.1 | none => false) (.dict (xs.foldl (fun a x => match pairOf x with | some p => storeD p.1 p.2 a | none => a) []))
  | .bool, [.int i] => .ok (.bool (i != 0))
  | .bool, [.bool b] => .ok (.bool b)
  | .lset, [.list xs] => .when (xs.all keyD && (xs.all keyS || xs.all keyT)) (.int (onceL xs).length)
  | .lset, [.tuple xs] => .when (xs.all keyD && (xs.all keyS || xs.all keyT)) (.int (onceL xs).length)
  | _, _ => .bad
inductive Ty where
  | list | tuple | str | int | bool | dict
  deriving DecidableEq
def isaD : Ty → D → Bool
  | .list, d => d.isList
  | .tuple, d => d.isTuple
  | .str, d => d.isStr
  | .int, d => d.isInt
  | .bool, d => d.isBool
  | .dict, d => d.isDict

/-! ### methods that write nothing -/
inductive Me where
  | count | index | join | get | keys | values | items
  deriving DecidableEq
def isStrD : D → Bool
  | .str _ => true
  | _ => false
def strOf : D → Str
  | .str x => x
  | _ => Str.empty
def joinD (s : Str) (xs : List D) : Out D :=
  .when (xs.all isStrD && decide ((xs.map fun x => (strOf x).length).sum + xs.length * s.length ≤ sizeLine)) (.str (PySem.Txt.join s (xs.map strOf)))
def meD : Me → D → List D → Out D
  | .count, .list xs, [.int k] => .when (xs.all isInt) (.int (((xs.map iOf).count k : Nat) : Int))
  | .join, .str s, [.list xs] => joinD s xs
  | .join, .str s, [.tuple xs] => joinD s xs
  | .get, .dict kvs, [k, d] => .when (keyD k && (kvs.all fun p => keyS p.1 == keyS k)) ((lookD k kvs).getD d)
  | .get, .dict kvs, [k] => .when (keyD k && (kvs.all fun p => keyS p.1 == keyS k)) ((lookD k kvs).getD .none)
  | _, _, _ => .bad

/-! ### methods that write: the value handed back, the object behind -/
inductive Mu where
  | append | pop0 | pop | extend | insert | reverse | clear | remove | update
  deriving DecidableEq
def muD : Mu → D → List D → Out (D × D)
  | .append, .list xs, [x] => .when (decide (xs.length < sizeLine)) (.none, .list (xs ++ [x]))
  | .pop0, .list xs, [] => match xs.getLast? with | some d => .ok (d, .list xs.dropLast) | none => .bad
  | .pop, .list xs, [.int i] => if small i then (match ixD xs.length i with
    | some j => match xs[j]? with | some d => .ok (d, .list (xs.eraseIdx j)) | none => .bad
    | none => .bad) else .bad
  | .extend, .list xs, [.list ys] => .when (fits (xs.length + ys.length)) (.none, .list (xs ++ ys))
  | .insert, .list xs, [.int i, x] => .when (decide (0 ≤ i) && decide (i ≤ xs.length) && decide (xs.length < sizeLine)) (.none, .list (xs.take i.toNat ++ x :: xs.drop i.toNat))
  | .reverse, .list xs, [] => .ok (.none, .list xs.reverse)
  | .clear, .list _, [] => .ok (.none, .list [])
  | .clear, .dict _, [] => .ok (.none, .dict [])
  | _, _, _ => .bad
/-- o[i] = v, a list -/
def setL : D → D → D → Out D
  | .list xs, .int i, v => match ixD xs.length i with | some j => .ok (.list (xs.set j v)) | none => .bad
  | _, _, _ => .bad
/-- o[i] = v -/
def setD : D → D → D → Out D
  | .list xs, .int i, v => match ixD xs.length i with | some j => .ok (.list (xs.set j v)) | none => .bad
  | .dict kvs, k, v => .when (keyD k && (kvs.all fun p => keyS p.1 == keyS k) && decide (kvs.length < sizeLine)) (.dict (storeD k v kvs))
  | _, _, _ => .bad

/-! ### the small language -/
inductive Tg where
  | n (i : Nat)
  | t (l : List Nat)
  deriving DecidableEq
/-- what is walked -/
inductive IK where
  | seq | rng | enum | zip | items | values | dk
  deriving DecidableEq
inductive E where
  | k (d : D)
  | v (i : Nat)
  | mv (i : Nat)
  | io (i : Nat)
  | gl (x : Str)
  | bin (o : BOp) (a b : E)
  | neg (a : E)
  | not (a : E)
  | cmp (o : COp) (a b : E)
  | cmp2 (o p : COp) (a b c : E)
  | and (a b : E)
  | or (a b : E)
  | ite (c a b : E)
  | lst (l : List E)
  | tup (l : List E)
  | ix (a i : E)
  | sl (n : Nat) (a lo hi : E)
  | rev (a : E)
  | isa (a : E) (ts : List Ty)
  | bi (b : Bi) (l : List E)
  | me (m : Me) (a : E) (l : List E)
  | mu (m : Mu) (i : Nat) (l : List E)
  | call (f : Str) (n : Nat) (l : List E) (pm : List Nat) (io : List (Nat × Nat)) (bo : Bool)
  | cc (f : Str) (n : Nat) (g : Str) (l : List E) (io : List (Nat × Nat))
  | dct (l : List E)
  | ss (a : E)
  | dn (n : Nat) (a : E)
  | ix2 (a i : E)
  | chk (n : Nat) (a : E)
  | lo (a : E)
  | dclr (i : Nat)
  | bcall (f : Str) (l : List E) (io : List (Nat × Nat))
  | lc (e : E) (tg : Tg) (ik : IK) (il : List E) (ifs : List E) (own : List Nat)
  | lc2 (e : E) (tg : Tg) (ik : IK) (il : List E) (ifs : List E) (tg2 : Tg) (ik2 : IK) (il2 : List E) (ifs2 : List E) (own own2 : List Nat)
  | dc (kx vx : E) (tg : Tg) (ik : IK) (il : List E) (ifs : List E) (own : List Nat)
  | dc2 (kx vx : E) (tg : Tg) (ik : IK) (il : List E) (ifs : List E) (tg2 : Tg) (ik2 : IK) (il2 : List E) (ifs2 : List E) (own own2 : List Nat)
  | ls2 (e : E) (tg : Tg) (ik : IK) (il : List E) (ifs : List E) (tg2 : Tg) (ik2 : IK) (il2 : List E) (ifs2 : List E) (own own2 : List Nat)
  | bad
inductive S where
  | asg (tg : Tg) (e : E)
  | par (l : List Nat) (es : List E)
  | aug (i : Nat) (o : BOp) (e : E)
  | put (i : Nat) (x : E) (e : E)
  | ex (e : E)
  | sda (i : Nat) (k e : E)
  | ret (e : E)
  | ret0
  | ifs (c : E) (a b : List S)
  | for (tg : Tg) (ik : IK) (il : List E) (body : List S)
  | while (c : E) (body : List S)
  | each (i : Nat) (e : E) (body : List S)
  | unp (l : List Nat) (e : E)
  | putd (i : Nat) (x : E) (e : E)
  | pass
  | brk
  | cnt
  | raise (c : Str) (e : E)
  | bad

/-- an exception is nothing that we speak of here -/
def Out.noX {A : Type} (x : Out A) : Out A :=
  match x with
  | .ok a => .ok a
  | _ => .bad
@[simp] theorem Out.noX_ok {A : Type} (a : A) : (Out.ok a).noX = .ok a := rfl

/-! ### the evaluator -/
def Out.map {A B : Type} (f : A → B) (x : Out A) : Out B := x.bind fun a => .ok (f a)
@[simp] theorem Out.map_ok {A B : Type} (a : A) (f : A → B) : (Out.ok a).map f = .ok (f a) := rfl
@[simp] theorem Out.map_exc {A B : Type} (c : Str) (d : D) (f : A → B) : (Out.exc c d).map f = .exc c d := rfl
@[simp] theorem Out.map_bad {A B : Type} (f : A → B) : (Out.bad : Out A).map f = .bad := rfl

def rngL (a b : Int) : Out (List D) := .when (small a && small b) ((List.range (b - a).toNat).map fun k => .int (a + (k : Nat)))
def rngC (a b c : Int) : Out (List D) :=
  .when (decide (c ≠ 0) && decide (c.natAbs < 1073741824) && Builtin.Range.small a b c && decide (0 ≤ Builtin.Range.rangeSize a b c)) ((List.range (Builtin.Range.rangeSize a b c).toNat).map fun k => .int (a + (k : Nat) * c))
def zipL : List D → List D → List D
  | x :: xs, y :: ys => .tuple [x, y] :: zipL xs ys
  | _, _ => []
def zip3L : List D → List D → List D → List D
  | x :: xs, y :: ys, z :: zs => .tuple [x, y, z] :: zip3L xs ys zs
  | _, _, _ => []
def seqOf : D → Option (List D)
  | .list xs => some xs
  | .tuple xs => some xs
  | _ => none
def itD : IK → List D → Out (List D)
  | .seq, [.list xs] => .ok xs
  | .seq, [.tuple xs] => .ok xs
  | .seq, [.str x] => .ok (x.cps.toList.map fun c => .str ⟨#[c]⟩)
  | .rng, [.int b] => rngL 0 b
  | .rng, [.int a, .int b] => rngL a b
  | .rng, [.int a, .int b, .int c] => rngC a b c
  | .enum, [.list xs] => .ok (xs.zipIdx.map fun p => .tuple [.int (p.2 : Nat), p.1])
  | .zip, [.list x, .list y] => .ok (zipL x y)
  | .zip, [.tuple x, .tuple y] => .ok (zipL x y)
  | .items, [.dict kvs] => .ok (kvs.map fun p => .tuple [p.1, p.2])
  | .values, [.dict kvs] => .ok (kvs.map (·.2))
  | .dk, [.dict kvs] => .when (kvs.all fun p => keyS p.1) (kvs.map (·.1))
  | _, _ => .bad

def setAll : List Nat → List D → Env → Env
  | i :: is, d :: ds, r => setAll is ds (r.set i (some d))
  | _, _, r => r
def asgT : Tg → D → Env → Out Env
  | .n i, d, r => .when (decide (i < r.length)) (r.set i (some d))
  | .t l, .tuple xs, r => .when (decide (l.length = xs.length) && l.all fun i => decide (i < r.length)) (setAll l xs r)
  | .t _, _, _ => .bad
def wipeE (r : Env) : List Nat → Env
  | [] => r
  | i :: l => (wipeE r l).set i none
/-- the slots of l as they were in r -/
def backE (r r' : Env) : List Nat → Env
  | [] => r'
  | i :: l => (backE r r' l).set i (r[i]?.getD none)
def foldO {A : Type} (f : D → A → Out A) : List D → A → Out A
  | [], a => .ok a
  | d :: ds, a => (f d a).bind fun b => foldO f ds b
@[simp] theorem foldO_nil {A : Type} (f : D → A → Out A) (a : A) : foldO f [] a = .ok a := rfl
@[simp] theorem foldO_cons {A : Type} (f : D → A → Out A) (d : D) (ds : List D) (a : A) : foldO f (d :: ds) a = (f d a).bind fun b => foldO f ds b := rfl

structure Fns where
  call : Str → List D → Out (D × List D)
  gl : Str → Option D
  lv : Str → List Nat

def immIo : List Nat → List D → Bool
  | n :: ns, d :: ds => immAt n d && immIo ns ds
  | _, _ => true
def fillIo (r : Env) : List (Nat × Nat) → List D → List D
  | [], ds => ds
  | (p, i) :: l, ds => match r[i]? with | some (some d) => fillIo r l (ds.set p d) | _ => fillIo r l ds
def hasIo (r : Env) (io : List (Nat × Nat)) : Bool := io.all fun p => match r[p.2]? with | some (some _) => true | _ => false
def permD (pm : List Nat) (ds : List D) : List D := if pm.isEmpty then ds else pm.map fun j => ds.getD j .none
def backIo : List (Nat × Nat) → List D → Env → Env
  | (_, i) :: l, d :: ds, r => backIo l ds (r.set i (some d))
  | _, _, r => r

/-- a dict display of at most one pair -/
def dctD : List D → Out D
  | [] => .ok (.dict [])
  | [k, v] => .when (keyS k) (.dict [(k, v)])
  | [k, v, k2, v2] => .when (keyS k && keyS k2 && !(k.eqv k2)) (.dict [(k, v), (k2, v2)])
  | _ => .bad
def isAbs : E → Bool
  | .k .none => true
  | _ => false
mutual
def evE (F : Fns) : E → Env → Out (D × Env)
  | .k d, r => .ok (d, r)
  | .v i, r => match r[i]? with | some (some d) => .ok (d, r) | _ => .bad
  | .mv i, r => match r[i]? with | some (some d) => .ok (d, r.set i none) | _ => .bad
  | .io i, r => match r[i]? with | some (some _) => .ok (.none, r) | _ => .bad
  | .gl x, r => match F.gl x with | some d => .ok (d, r) | none => .bad
  | .bin o a b, r => (evE F a r).bind fun x => (evE F b x.2).bind fun y => (binD o x.1 y.1).bind fun z => .ok (z, y.2)
  | .neg a, r => (evE F a r).bind fun x => (negD x.1).bind fun z => .ok (z, x.2)
  | .not a, r => (evE F a r).bind fun x => (truD x.1).bind fun z => .ok (.bool (!z), x.2)
  | .cmp o a b, r => (evE F a r).bind fun x => (evE F b x.2).bind fun y => (cmpD o x.1 y.1).bind fun z => .ok (.bool z, y.2)
  | .cmp2 o p a b c, r => (evE F a r).bind fun x => (evE F b x.2).bind fun y => (cmpD o x.1 y.1).bind fun z =>
      if z then (evE F c y.2).bind fun u => (cmpD p y.1 u.1).bind fun t => .ok (.bool t, u.2) else .ok (.bool false, y.2)
  | .and a b, r => (evE F a r).bind fun x => (truD x.1).bind fun z => if z then evE F b x.2 else .ok (x.1, x.2)
  | .or a b, r => (evE F a r).bind fun x => (truD x.1).bind fun z => if z then .ok (x.1, x.2) else evE F b x.2
  | .ite c a b, r => (evE F c r).bind fun x => (truD x.1).bind fun z => if z then evE F a x.2 else evE F b x.2
  | .lst l, r => (evL F l r).bind fun x => .ok (.list x.1, x.2)
  | .tup l, r => (evL F l r).bind fun x => .ok (.tuple x.1, x.2)
  | .ix a i, r => (evE F a r).bind fun x => (evE F i x.2).bind fun y => (getD x.1 y.1).bind fun z => .ok (z, y.2)
  | .sl n a lo hi, r => (evE F a r).bind fun x =>
      Out.bind (if isAbs lo then .ok (none, x.2) else (evE F lo x.2).bind fun y => (endI y.1).bind fun l => .ok (some l, y.2)) fun y =>
      Out.bind (if isAbs hi then .ok (none, y.2) else (evE F hi y.2).bind fun z => (endI z.1).bind fun h => .ok (some h, z.2)) fun z =>
      Out.bind (Out.when (n == 0 || (n == 1 && isListD x.1)) ()) fun _ => (sliceD x.1 y.1 z.1).bind fun d => .ok (d, z.2)
  | .rev a, r => (evE F a r).bind fun x => (revD x.1).bind fun z => .ok (z, x.2)
  | .isa a ts, r => (evE F a r).bind fun x => .ok (.bool (ts.any fun t => isaD t x.1), x.2)
  | .bi b l, r => (evL F l r).bind fun x => (biD b x.1).bind fun z => .ok (z, x.2)
  | .me m a l, r => (evE F a r).bind fun x => (evL F l x.2).bind fun y => (meD m x.1 y.1).bind fun z => .ok (z, y.2)
  | .mu m i l, r => match r[i]? with
      | some (some d0) => if isListD d0 then (evL F l r).bind fun y => (match y.2[i]? with
          | some (some d) => if isListD d then (muD m d y.1).bind fun z => .ok (z.1, y.2.set i (some z.2)) else .bad
          | _ => .bad) else .bad
      | _ => .bad
  | .dn _ a, r => evE F a r
  | .ix2 a i, r => (evE F a r).bind fun x => (evE F i x.2).bind fun y => (getD2 x.1 y.1).bind fun z => .ok (z, y.2)
  | .call f n l pm io bo, r => (evL F l r).bind fun x => if hasIo x.2 io then (F.call f (permD pm (fillIo x.2 io x.1))).bind fun z => .when (!bo || (immAt n z.1 && immIo (F.lv f) z.2)) (z.1, backIo io z.2 x.2) else .bad
  | .cc f n g l io, r => (evL F l r).bind fun x => if hasIo x.2 io then (F.call g (fillIo x.2 io x.1)).bind fun z => (F.call f [z.1]).bind fun y => .when (immAt n y.1 && immIo (F.lv g) z.2) (y.1, backIo io z.2 x.2) else .bad
  | .dct l, r => (evL F l r).bind fun x => (dctD x.1).bind fun z => .ok (z, x.2)
  | .ss a, r => (evE F a r).bind fun x => (biD .sset [x.1]).bind fun z => .ok (z, x.2)
  | .chk _ a, r => (evE F a r).bind fun x => .when (immD x.1) x
  | .lo a, r => evE F a r
  | .dclr i, r => (match r[i]? with | some (some (.dict kvs)) => .when (kvs.all fun p => keyS p.1) (.none, r.set i (some (.dict []))) | _ => .bad)
  | .bcall f l io, r => (evL F l r).bind fun x => if hasIo x.2 io then (F.call f (fillIo x.2 io x.1)).bind fun z => .when (immIo (F.lv f) z.2) (z.1, backIo io z.2 x.2) else .bad
  | .lc e tg ik il ifs own, r => (evL F il r).bind fun x => (itD ik x.1).bind fun items => Out.bind (Out.when (fits items.length) ()) fun _ =>
      Out.bind (Out.noX (foldO (fun d (a : List D × Env) => (asgT tg d (wipeE a.2 own)).bind fun r1 => (evIfs F ifs r1).bind fun b => if b.1 then (evE F e b.2).bind fun y => .ok (a.1 ++ [y.1], y.2) else .ok (a.1, b.2)) items ([], wipeE x.2 own))) fun a =>
        .ok (.list a.1, backE x.2 a.2 own)
  | .lc2 e tg ik il ifs tg2 ik2 il2 ifs2 own own2, r => (evL F il r).bind fun x => (itD ik x.1).bind fun items =>
      Out.bind (Out.noX (foldO (fun d (a : List D × Env) => (asgT tg d (wipeE a.2 own)).bind fun r1 => (evIfs F ifs r1).bind fun b => if b.1 then
          (evL F il2 b.2).bind fun x2 => (itD ik2 x2.1).bind fun items2 =>
            foldO (fun d2 (a2 : List D × Env) => (asgT tg2 d2 (wipeE a2.2 own2)).bind fun r2 => (evIfs F ifs2 r2).bind fun b2 => if b2.1 then
              (evE F e b2.2).bind fun y => .when (decide (a2.1.length < sizeLine)) (a2.1 ++ [y.1], y.2) else .ok (a2.1, b2.2)) items2 (a.1, x2.2)
        else .ok (a.1, b.2)) items ([], wipeE x.2 own))) fun a => .ok (.list a.1, backE x.2 a.2 own)
  | .dc kx vx tg ik il ifs own, r => (evL F il r).bind fun x => (itD ik x.1).bind fun items => Out.bind (Out.when (fits items.length) ()) fun _ =>
      Out.bind (Out.noX (foldO (fun d (a : List (D × D) × Env) => (asgT tg d (wipeE a.2 own)).bind fun r1 => (evIfs F ifs r1).bind fun b => if b.1 then
          (evE F kx b.2).bind fun y => (evE F vx y.2).bind fun z => .when (keyS y.1 && (a.1.all fun p => keyS p.1)) (storeD y.1 z.1 a.1, z.2)
        else .ok (a.1, b.2)) items ([], wipeE x.2 own))) fun a => .ok (.dict a.1, backE x.2 a.2 own)
  | .dc2 kx vx tg ik il ifs tg2 ik2 il2 ifs2 own own2, r => (evL F il r).bind fun x => (itD ik x.1).bind fun items =>
      Out.bind (Out.noX (foldO (fun d (a : List (D × D) × Env) => (asgT tg d (wipeE a.2 own)).bind fun r1 => (evIfs F ifs r1).bind fun b => if b.1 then
          (evL F il2 b.2).bind fun x2 => (itD ik2 x2.1).bind fun items2 =>
            foldO (fun d2 (a2 : List (D × D) × Env) => (asgT tg2 d2 (wipeE a2.2 own2)).bind fun r2 => (evIfs F ifs2 r2).bind fun b2 => if b2.1 then
              (evE F kx b2.2).bind fun y => (evE F vx y.2).bind fun z => .when (keyS y.1 && (a2.1.all fun p => keyS p.1) && decide (a2.1.length < sizeLine)) (storeD y.1 z.1 a2.1, z.2)
            else .ok (a2.1, b2.2)) items2 (a.1, x2.2)
        else .ok (a.1, b.2)) items ([], wipeE x.2 own))) fun a => .ok (.dict a.1, backE x.2 a.2 own)
  | .ls2 e tg ik il ifs tg2 ik2 il2 ifs2 own own2, r => (evL F il r).bind fun x => (itD ik x.1).bind fun items =>
      Out.bind (Out.noX (foldO (fun d (a : List D × Env) => (asgT tg d (wipeE a.2 own)).bind fun r1 => (evIfs F ifs r1).bind fun b => if b.1 then
          (evL F il2 b.2).bind fun x2 => (itD ik2 x2.1).bind fun items2 =>
            foldO (fun d2 (a2 : List D × Env) => (asgT tg2 d2 (wipeE a2.2 own2)).bind fun r2 => (evIfs F ifs2 r2).bind fun b2 => if b2.1 then
              (evE F e b2.2).bind fun y => .when (keyS y.1 && decide (a2.1.length < 4000)) (a2.1 ++ [y.1], y.2) else .ok (a2.1, b2.2)) items2 (a.1, x2.2)
        else .ok (a.1, b.2)) items ([], wipeE x.2 own))) fun a => .ok (.int (onceL a.1).length, backE x.2 a.2 own)
  | .bad, _ => .bad
def evL (F : Fns) : List E → Env → Out (List D × Env)
  | [], r => .ok ([], r)
  | e :: l, r => (evE F e r).bind fun x => (evL F l x.2).bind fun y => .ok (x.1 :: y.1, y.2)
def evIfs (F : Fns) : List E → Env → Out (Bool × Env)
  | [], r => .ok (true, r)
  | e :: l, r => (evE F e r).bind fun x => (truD x.1).bind fun z => if z then evIfs F l x.2 else .ok (false, x.2)
end

/-- how a statement ends -/
inductive Ctl where
  | nx | brk | cnt
  | ret (d : D)
def whileO (n : Nat) (c : Env → Out (Bool × Env)) (body : Env → Out (Ctl × Env)) (r : Env) : Out (Ctl × Env) :=
  match n with
  | 0 => .bad
  | n + 1 => (c r).bind fun x => if x.1 then (body x.2).bind fun y => match y.1 with
      | .nx => whileO n c body y.2
      | .cnt => whileO n c body y.2
      | .brk => .ok (.nx, y.2)
      | .ret d => .ok (.ret d, y.2)
    else .ok (.nx, x.2)
def forO (tg : Tg) (body : Env → Out (Ctl × Env)) : List D → Env → Out (Ctl × Env)
  | [], r => .ok (.nx, r)
  | d :: ds, r => (asgT tg d r).bind fun r1 => (body r1).bind fun y => match y.1 with
      | .nx => forO tg body ds y.2
      | .cnt => forO tg body ds y.2
      | .brk => .ok (.nx, y.2)
      | .ret d => .ok (.ret d, y.2)
mutual
def evS (F : Fns) (fuel : Nat) : S → Env → Out (Ctl × Env)
  | .asg tg e, r => (evE F e r).bind fun x => (asgT tg x.1 x.2).bind fun r1 => .ok (.nx, r1)
  | .par l es, r => (evL F es r).bind fun x => .when (decide (l.length = x.1.length) && l.all fun i => decide (i < x.2.length)) (.nx, setAll l x.1 x.2)
  | .aug i o e, r => match r[i]? with
      | some (some d) => (evE F e r).bind fun x => (binD o d x.1).bind fun z => .ok (.nx, x.2.set i (some z))
      | _ => .bad
  | .put i x e, r => (evE F e r).bind fun v => match v.2[i]? with
      | some (some _) => (evE F x v.2).bind fun k => (match k.2[i]? with
        | some (some d) => (setL d k.1 v.1).bind fun z => .ok (.nx, k.2.set i (some z))
        | _ => .bad)
      | _ => .bad
  | .ex e, r => (evE F e r).bind fun x => .ok (.nx, x.2)
  | .sda i k e, r => (evE F k r).bind fun x => (evE F e x.2).bind fun y => match y.2[i]? with
      | some (some (.dict kvs)) => match lookD x.1 kvs with
        | some (.list l) => .when (keyD x.1 && (kvs.all fun p => keyS p.1 == keyS x.1) && decide (l.length < sizeLine)) (.nx, y.2.set i (some (.dict (storeD x.1 (.list (l ++ [y.1])) kvs))))
        | some _ => .bad
        | none => .when (keyD x.1 && (kvs.all fun p => keyS p.1 == keyS x.1) && decide (kvs.length < sizeLine)) (.nx, y.2.set i (some (.dict (storeD x.1 (.list [y.1]) kvs))))
      | _ => .bad
  | .ret e, r => (evE F e r).bind fun x => .ok (.ret x.1, x.2)
  | .ret0, r => .ok (.ret .none, r)
  | .ifs c a b, r => (evE F c r).bind fun x => (truD x.1).bind fun z => if z then evSs F fuel a x.2 else evSs F fuel b x.2
  | .for tg ik il body, r => (evL F il r).bind fun x => (itD ik x.1).bind fun items => forO tg (evSs F fuel body) items x.2
  | .each i e body, r => (evE F e r).bind fun x => (match x.1 with | .list ds => forO (.n i) (evSs F fuel body) ds x.2 | _ => .bad)
  | .putd i x e, r => (evE F e r).bind fun v => match v.2[i]? with
      | some (some _) => (evE F x v.2).bind fun k => (match k.2[i]? with
        | some (some (.dict kvs)) => .when (keyS k.1 && (kvs.all fun p => keyS p.1) && decide (kvs.length < sizeLine)) (.nx, k.2.set i (some (.dict (storeD k.1 v.1 kvs))))
        | _ => .bad)
      | _ => .bad
  | .unp l e, r => (evE F e r).bind fun x => (match x.1 with | .list ds => .when (decide (l.length = ds.length) && l.all fun i => decide (i < x.2.length)) (.nx, setAll l ds x.2) | _ => .bad)
  | .while c body, r => whileO fuel (fun r => (evE F c r).bind fun x => (truD x.1).bind fun z => .ok (z, x.2)) (evSs F fuel body) r
  | .pass, r => .ok (.nx, r)
  | .brk, r => .ok (.brk, r)
  | .cnt, r => .ok (.cnt, r)
  | .raise c e, r => (evE F e r).bind fun x => .exc c x.1
  | .bad, _ => .bad
def evSs (F : Fns) (fuel : Nat) : List S → Env → Out (Ctl × Env)
  | [], r => .ok (.nx, r)
  | s :: l, r => (evS F fuel s r).bind fun x => match x.1 with
      | .nx => evSs F fuel l x.2
      | c => .ok (c, x.2)
end

/-- a def: how many names and parameters it has, which parameters it writes -/
structure Fd where
  n : Nat
  np : Nat
  muts : List Nat
  lvs : List Nat
  body : List S
def outsD (muts : List Nat) (r : Env) : List D := muts.map fun i => (r[i]?.getD none).getD .none
def runFd (F : Fns) (fuel : Nat) (f : Fd) (ds : List D) : Out (D × List D) :=
  if ds.length = f.np then
    (evSs F fuel f.body (ds.map some ++ List.replicate (f.n - f.np) none)).bind fun x =>
      match x.1 with
      | .ret d => .when (f.muts.all fun i => (x.2[i]?.getD none).isSome) (d, outsD f.muts x.2)
      | .nx => .when (f.muts.all fun i => (x.2[i]?.getD none).isSome) (.none, outsD f.muts x.2)
      | _ => .bad
  else .bad
def callF (tbl : Str → Option Fd) (gl : Str → Option D) (fuel : Nat) : Nat → Str → List D → Out (D × List D)
  | 0, _, _ => .bad
  | n + 1, f, ds => match tbl f with
    | some fd => runFd ⟨callF tbl gl fuel n, gl, fun f => match tbl f with | some fd => fd.lvs | none => []⟩ fuel fd ds
    | none => .bad
/-- a def's promise: its parameters, their storeys, which of them it writes, its value's storeys, the ways it is called by keywords -/
structure Sig where
  ps : List Str
  lvs : List Nat
  muts : List Nat
  rl : Nat
  kws : List (List Str × List Nat)
/-- a table's entry -/
structure Ent where
  fd : Fd
  sg : Sig
  N : List Str
  lv : List Nat
abbrev lvsOf (tbl : Str → Option Ent) : Str → List Nat := fun f => match (tbl f).map (·.fd) with | some fd => fd.lvs | none => []
abbrev evOf (tbl : Str → Option Ent) (gl : Str → Option D) (fuel n : Nat) : Str → List D → Out (D × List D) := callF (fun x => (tbl x).map (·.fd)) gl fuel n
end Pv
end
section
/-! P2: how plain data lie in the abstract heap; what is owned. -/
namespace Pv
open PySem PySem.Spec PyProof.Rows L2

abbrev Fg := PySem.W.Frag
abbrev No := Addr → Prop
/-- a written list, a written tuple -/
def KL (K : Fg) (a : Addr) (xs : List V) : Prop :=
  ∃ (o : Obj) (its : Array Value) (n : Nat), K.lookup a = some o ∧ o.cls = .type "list" ∧ o.dict = none ∧ o.data = .seq its n ∧ its.size ≤ sizeLine ∧ Vals xs its.toList
def AtL (K : Fg) (H : Hp) (no : No) (a : Addr) (xs : List V) : Prop := (Rd H a (.lst xs) ∧ ¬ no a) ∨ KL K a xs
def AtT (K : Fg) (H : Hp) (no : No) (a : Addr) (xs : List V) : Prop := H a = some (.tup xs) ∧ ¬ no a
theorem AtL.sq {K : Fg} {H : Hp} {no : No} {a : Addr} {xs : List V} (h : AtL K H no a xs) : SqL K H a xs := h.elim (fun h => .inl h.1) .inr
theorem AtT.sq {K : Fg} {H : Hp} {no : No} {a : Addr} {xs : List V} (h : AtT K H no a xs) : SqT K H a xs := .inl (.inl h.1)

def kD : Key → D
  | .inl i => .int i
  | .inr x => .str x
def tD (ks : List Key) : D := .tuple (ks.map kD)

mutual
/-- the value v is the datum d; what it reaches is none of no -/
def Rp (K : Fg) (H : Hp) (no : No) : D → V → Prop
  | .none, v => v = .non
  | .bool b, v => v = .bl b
  | .int i, v => v = .int i
  | .str x, v => v = .str x
  | .list ds, v => ∃ a xs, v = .ref a ∧ AtL K H no a xs ∧ RpL K H no ds xs
  | .tuple ds, v => ∃ a xs, v = .ref a ∧ AtT K H no a xs ∧ RpL K H no ds xs
  | .dict kvs, v => ∃ a, v = .ref a ∧ ¬ no a ∧ ((∃ es, Rd H a (.dK es) ∧ RpK K H no kvs es) ∨ ∃ es, Rd H a (.dT es) ∧ RpT K H no kvs es)
def RpL (K : Fg) (H : Hp) (no : No) : List D → List V → Prop
  | [], vs => vs = []
  | d :: ds, vs => ∃ v r, vs = v :: r ∧ Rp K H no d v ∧ RpL K H no ds r
def RpK (K : Fg) (H : Hp) (no : No) : List (D × D) → List (Key × V) → Prop
  | [], es => es = []
  | (k, d) :: r, es => ∃ q v s, es = (q, v) :: s ∧ k = kD q ∧ Rp K H no d v ∧ RpK K H no r s
def RpT (K : Fg) (H : Hp) (no : No) : List (D × D) → List (List Key × V) → Prop
  | [], es => es = []
  | (k, d) :: r, es => ∃ q v s, es = (q, v) :: s ∧ k = tD q ∧ Rp K H no d v ∧ RpT K H no r s
end

mutual
/-- the n upper storeys of the datum (its lists and dicts) are ours alone: the addresses as -/
def Ow (K : Fg) (H : Hp) (no : No) : Nat → D → V → List Addr → Prop
  | 0, d, v, as => as = [] ∧ Rp K H no d v
  | n + 1, .list ds, v, as => ∃ a xs bs, v = .ref a ∧ H a = some (.lst xs) ∧ as = a :: bs ∧ OwL K H no n ds xs bs
  | n + 1, .tuple ds, v, as => as = [] ∧ Rp K H no (.tuple ds) v
  | n + 1, .dict kvs, v, as => ∃ a bs, v = .ref a ∧ as = a :: bs ∧ ((∃ es, H a = some (.dK es) ∧ OwK K H no n kvs es bs) ∨ ∃ es, H a = some (.dT es) ∧ OwT K H no n kvs es bs)
  | n + 1, .none, v, as => as = [] ∧ v = .non
  | n + 1, .bool b, v, as => as = [] ∧ v = .bl b
  | n + 1, .int i, v, as => as = [] ∧ v = .int i
  | n + 1, .str x, v, as => as = [] ∧ v = .str x
def OwL (K : Fg) (H : Hp) (no : No) : Nat → List D → List V → List Addr → Prop
  | _, [], vs, as => vs = [] ∧ as = []
  | n, d :: ds, vs, as => ∃ v r bs cs, vs = v :: r ∧ as = bs ++ cs ∧ Ow K H no n d v bs ∧ OwL K H no n ds r cs
def OwK (K : Fg) (H : Hp) (no : No) : Nat → List (D × D) → List (Key × V) → List Addr → Prop
  | _, [], es, as => es = [] ∧ as = []
  | n, (k, d) :: r, es, as => ∃ q v s bs cs, es = (q, v) :: s ∧ k = kD q ∧ as = bs ++ cs ∧ Ow K H no n d v bs ∧ OwK K H no n r s cs
def OwT (K : Fg) (H : Hp) (no : No) : Nat → List (D × D) → List (List Key × V) → List Addr → Prop
  | _, [], es, as => es = [] ∧ as = []
  | n, (k, d) :: r, es, as => ∃ q v s bs cs, es = (q, v) :: s ∧ k = tD q ∧ as = bs ++ cs ∧ Ow K H no n d v bs ∧ OwT K H no n r s cs
end

section
variable {K : Fg} {H H' : Hp} {no no' : No}
/-- what was told stays where nothing told is touched, and no new ban meets it -/
structure Kp (H H' : Hp) (no no' : No) : Prop where
  keep : ∀ a o, H a = some o → ¬ no a → H' a = some o
  ban : ∀ a, no' a → no a ∨ H a = none
theorem Rd.kp (k : Kp H H' no no') {a : Addr} {u : HO} (h : Rd H a u) (n : ¬ no a) : Rd H' a u ∧ ¬ no' a := by
  rcases h with h | ⟨o, h⟩
  · exact ⟨.inl (k.keep _ _ h n), fun z => (k.ban a z).elim n fun q => by rw [h] at q; cases q⟩
  · exact ⟨.inr ⟨o, k.keep _ _ h n⟩, fun z => (k.ban a z).elim n fun q => by rw [h] at q; cases q⟩
theorem AtL.kp (k : Kp H H' no no') {a : Addr} {xs : List V} (h : AtL K H no a xs) : AtL K H' no' a xs := h.elim (fun h => .inl (Rd.kp k h.1 h.2)) .inr
theorem AtT.kp (k : Kp H H' no no') {a : Addr} {xs : List V} (h : AtT K H no a xs) : AtT K H' no' a xs :=
  ⟨k.keep _ _ h.1 h.2, fun z => (k.ban a z).elim h.2 fun q => by rw [h.1] at q; cases q⟩
mutual
theorem Rp.kp (k : Kp H H' no no') : ∀ (d : D) (v : V), Rp K H no d v → Rp K H' no' d v
  | .none, _, h => h
  | .bool _, _, h => h
  | .int _, _, h => h
  | .str _, _, h => h
  | .list ds, v, h => by
    obtain ⟨a, xs, e, h1, h2⟩ := h
    exact ⟨a, xs, e, h1.kp k, RpL.kp k ds xs h2⟩
  | .tuple ds, v, h => by
    obtain ⟨a, xs, e, h1, h2⟩ := h
    exact ⟨a, xs, e, h1.kp k, RpL.kp k ds xs h2⟩
  | .dict kvs, v, h => by
    obtain ⟨a, e, n, h⟩ := h
    rcases h with ⟨es, h1, h2⟩ | ⟨es, h1, h2⟩
    · exact ⟨a, e, (Rd.kp k h1 n).2, .inl ⟨es, (Rd.kp k h1 n).1, RpK.kp k kvs es h2⟩⟩
    · exact ⟨a, e, (Rd.kp k h1 n).2, .inr ⟨es, (Rd.kp k h1 n).1, RpT.kp k kvs es h2⟩⟩
theorem RpL.kp (k : Kp H H' no no') : ∀ (ds : List D) (vs : List V), RpL K H no ds vs → RpL K H' no' ds vs
  | [], _, h => h
  | d :: ds, vs, h => by
    obtain ⟨v, r, e, h1, h2⟩ := h
    exact ⟨v, r, e, Rp.kp k d v h1, RpL.kp k ds r h2⟩
theorem RpK.kp (k : Kp H H' no no') : ∀ (ds : List (D × D)) (vs : List (Key × V)), RpK K H no ds vs → RpK K H' no' ds vs
  | [], _, h => h
  | (x, d) :: ds, vs, h => by
    obtain ⟨q, v, s, e, e2, h1, h2⟩ := h
    exact ⟨q, v, s, e, e2, Rp.kp k d v h1, RpK.kp k ds s h2⟩
theorem RpT.kp (k : Kp H H' no no') : ∀ (ds : List (D × D)) (vs : List (List Key × V)), RpT K H no ds vs → RpT K H' no' ds vs
  | [], _, h => h
  | (x, d) :: ds, vs, h => by
    obtain ⟨q, v, s, e, e2, h1, h2⟩ := h
    exact ⟨q, v, s, e, e2, Rp.kp k d v h1, RpT.kp k ds s h2⟩
end
mutual
theorem Ow.kp (k : Kp H H' no no') : ∀ (n : Nat) (d : D) (v : V) (as : List Addr), (∀ a o, a ∈ as → H a = some o → H' a = some o) → Ow K H no n d v as → Ow K H' no' n d v as
  | 0, d, v, as, _, h => by
    unfold Ow at h ⊢
    exact ⟨h.1, Rp.kp k d v h.2⟩
  | n + 1, .list ds, v, as, q, h => by
    simp only [Ow] at h ⊢
    obtain ⟨a, xs, bs, e, h1, e2, h2⟩ := h
    subst e2
    exact ⟨a, xs, bs, e, q _ _ List.mem_cons_self h1, rfl, OwL.kp k n ds xs bs (fun a o ha => q a o (List.mem_cons_of_mem _ ha)) h2⟩
  | n + 1, .tuple ds, v, as, q, h => by
    simp only [Ow] at h ⊢
    exact ⟨h.1, Rp.kp k _ _ h.2⟩
  | n + 1, .dict kvs, v, as, q, h => by
    simp only [Ow] at h ⊢
    obtain ⟨a, bs, e, e2, h⟩ := h
    subst e2
    refine ⟨a, bs, e, rfl, ?_⟩
    rcases h with ⟨es, h1, h2⟩ | ⟨es, h1, h2⟩
    · exact .inl ⟨es, q _ _ List.mem_cons_self h1, OwK.kp k n kvs es bs (fun a o ha => q a o (List.mem_cons_of_mem _ ha)) h2⟩
    · exact .inr ⟨es, q _ _ List.mem_cons_self h1, OwT.kp k n kvs es bs (fun a o ha => q a o (List.mem_cons_of_mem _ ha)) h2⟩
  | n + 1, .none, v, as, q, h => h
  | n + 1, .bool b, v, as, q, h => h
  | n + 1, .int i, v, as, q, h => h
  | n + 1, .str x, v, as, q, h => h
theorem OwL.kp (k : Kp H H' no no') : ∀ (n : Nat) (ds : List D) (vs : List V) (as : List Addr), (∀ a o, a ∈ as → H a = some o → H' a = some o) → OwL K H no n ds vs as → OwL K H' no' n ds vs as
  | n, [], vs, as, _, h => h
  | n, d :: ds, vs, as, q, h => by
    simp only [OwL] at h ⊢
    obtain ⟨v, r, bs, cs, e, e2, h1, h2⟩ := h
    subst e2
    exact ⟨v, r, bs, cs, e, rfl, Ow.kp k n d v bs (fun a o ha => q a o (List.mem_append_left _ ha)) h1, OwL.kp k n ds r cs (fun a o ha => q a o (List.mem_append_right _ ha)) h2⟩
theorem OwK.kp (k : Kp H H' no no') : ∀ (n : Nat) (ds : List (D × D)) (vs : List (Key × V)) (as : List Addr), (∀ a o, a ∈ as → H a = some o → H' a = some o) → OwK K H no n ds vs as → OwK K H' no' n ds vs as
  | n, [], vs, as, _, h => h
  | n, (x, d) :: ds, vs, as, q, h => by
    simp only [OwK] at h ⊢
    obtain ⟨y, v, s, bs, cs, e, e1, e2, h1, h2⟩ := h
    subst e2
    exact ⟨y, v, s, bs, cs, e, e1, rfl, Ow.kp k n d v bs (fun a o ha => q a o (List.mem_append_left _ ha)) h1, OwK.kp k n ds s cs (fun a o ha => q a o (List.mem_append_right _ ha)) h2⟩
theorem OwT.kp (k : Kp H H' no no') : ∀ (n : Nat) (ds : List (D × D)) (vs : List (List Key × V)) (as : List Addr), (∀ a o, a ∈ as → H a = some o → H' a = some o) → OwT K H no n ds vs as → OwT K H' no' n ds vs as
  | n, [], vs, as, _, h => h
  | n, (x, d) :: ds, vs, as, q, h => by
    simp only [OwT] at h ⊢
    obtain ⟨y, v, s, bs, cs, e, e1, e2, h1, h2⟩ := h
    subst e2
    exact ⟨y, v, s, bs, cs, e, e1, rfl, Ow.kp k n d v bs (fun a o ha => q a o (List.mem_append_left _ ha)) h1, OwT.kp k n ds s cs (fun a o ha => q a o (List.mem_append_right _ ha)) h2⟩
end
/-- ownership forgotten: what was owned may be met from now on -/
theorem Ow.zero {d : D} {v : V} {as : List Addr} : Ow K H no 0 d v as ↔ as = [] ∧ Rp K H no d v := by
  cases d <;> simp only [Ow]
theorem OwL.zero : ∀ {ds : List D} {vs : List V} {as : List Addr}, OwL K H no 0 ds vs as ↔ as = [] ∧ RpL K H no ds vs
  | [], vs, as => by simp only [OwL, RpL]; exact And.comm
  | d :: ds, vs, as => by
    simp only [OwL, RpL]
    constructor
    · rintro ⟨v, r, bs, cs, e, e2, h1, h2⟩
      have h1 := Ow.zero.mp h1
      have h2 := OwL.zero.mp h2
      refine ⟨by rw [e2, h1.1, h2.1]; rfl, v, r, e, h1.2, h2.2⟩
    · rintro ⟨e, v, r, e2, h1, h2⟩
      exact ⟨v, r, [], [], e2, by rw [e]; rfl, Ow.zero.mpr ⟨rfl, h1⟩, OwL.zero.mpr ⟨rfl, h2⟩⟩
theorem OwK.zero : ∀ {ds : List (D × D)} {vs : List (Key × V)} {as : List Addr}, OwK K H no 0 ds vs as ↔ as = [] ∧ RpK K H no ds vs
  | [], vs, as => by simp only [OwK, RpK]; exact And.comm
  | (x, d) :: ds, vs, as => by
    simp only [OwK, RpK]
    constructor
    · rintro ⟨q, v, r, bs, cs, e, e1, e2, h1, h2⟩
      have h1 := Ow.zero.mp h1
      have h2 := OwK.zero.mp h2
      refine ⟨by rw [e2, h1.1, h2.1]; rfl, q, v, r, e, e1, h1.2, h2.2⟩
    · rintro ⟨e, q, v, r, e2, e1, h1, h2⟩
      exact ⟨q, v, r, [], [], e2, e1, by rw [e]; rfl, Ow.zero.mpr ⟨rfl, h1⟩, OwK.zero.mpr ⟨rfl, h2⟩⟩
theorem OwT.zero : ∀ {ds : List (D × D)} {vs : List (List Key × V)} {as : List Addr}, OwT K H no 0 ds vs as ↔ as = [] ∧ RpT K H no ds vs
  | [], vs, as => by simp only [OwT, RpT]; exact And.comm
  | (x, d) :: ds, vs, as => by
    simp only [OwT, RpT]
    constructor
    · rintro ⟨q, v, r, bs, cs, e, e1, e2, h1, h2⟩
      have h1 := Ow.zero.mp h1
      have h2 := OwT.zero.mp h2
      refine ⟨by rw [e2, h1.1, h2.1]; rfl, q, v, r, e, e1, h1.2, h2.2⟩
    · rintro ⟨e, q, v, r, e2, e1, h1, h2⟩
      exact ⟨q, v, r, [], [], e2, e1, by rw [e]; rfl, Ow.zero.mpr ⟨rfl, h1⟩, OwT.zero.mpr ⟨rfl, h2⟩⟩
mutual
/-- the ban no' is no wider than no, and does not speak of what was owned -/
theorem Ow.rp : ∀ (n : Nat) (d : D) (v : V) (as : List Addr), (∀ a, no' a → no a) → (∀ a ∈ as, ¬ no' a) → Ow K H no n d v as → Rp K H no' d v
  | 0, d, v, as, k, _, h => Rp.kp ⟨fun _ _ e _ => e, fun a z => .inl (k a z)⟩ d v (Ow.zero.mp h).2
  | n + 1, .list ds, v, as, k, q, h => by
    simp only [Ow] at h
    obtain ⟨a, xs, bs, e, h1, e2, h2⟩ := h
    subst e2
    exact ⟨a, xs, e, .inl ⟨.inl h1, q a List.mem_cons_self⟩, OwL.rp n ds xs bs k (fun a ha => q a (List.mem_cons_of_mem _ ha)) h2⟩
  | n + 1, .tuple ds, v, as, k, q, h => by
    simp only [Ow] at h
    exact Rp.kp ⟨fun _ _ e _ => e, fun a z => .inl (k a z)⟩ _ _ h.2
  | n + 1, .dict kvs, v, as, k, q, h => by
    simp only [Ow] at h
    obtain ⟨a, bs, e, e2, h⟩ := h
    subst e2
    refine ⟨a, e, q a List.mem_cons_self, ?_⟩
    rcases h with ⟨es, h1, h2⟩ | ⟨es, h1, h2⟩
    · exact .inl ⟨es, .inl h1, OwK.rp n kvs es bs k (fun a ha => q a (List.mem_cons_of_mem _ ha)) h2⟩
    · exact .inr ⟨es, .inl h1, OwT.rp n kvs es bs k (fun a ha => q a (List.mem_cons_of_mem _ ha)) h2⟩
  | n + 1, .none, v, as, _, _, h => by simp only [Ow] at h; exact h.2
  | n + 1, .bool b, v, as, _, _, h => by simp only [Ow] at h; exact h.2
  | n + 1, .int i, v, as, _, _, h => by simp only [Ow] at h; exact h.2
  | n + 1, .str x, v, as, _, _, h => by simp only [Ow] at h; exact h.2
theorem OwL.rp : ∀ (n : Nat) (ds : List D) (vs : List V) (as : List Addr), (∀ a, no' a → no a) → (∀ a ∈ as, ¬ no' a) → OwL K H no n ds vs as → RpL K H no' ds vs
  | n, [], vs, as, _, _, h => by simp only [OwL] at h; exact h.1
  | n, d :: ds, vs, as, k, q, h => by
    simp only [OwL] at h
    obtain ⟨v, r, bs, cs, e, e2, h1, h2⟩ := h
    subst e2
    exact ⟨v, r, e, Ow.rp n d v bs k (fun a ha => q a (List.mem_append_left _ ha)) h1, OwL.rp n ds r cs k (fun a ha => q a (List.mem_append_right _ ha)) h2⟩
theorem OwK.rp : ∀ (n : Nat) (ds : List (D × D)) (vs : List (Key × V)) (as : List Addr), (∀ a, no' a → no a) → (∀ a ∈ as, ¬ no' a) → OwK K H no n ds vs as → RpK K H no' ds vs
  | n, [], vs, as, _, _, h => by simp only [OwK] at h; exact h.1
  | n, (x, d) :: ds, vs, as, k, q, h => by
    simp only [OwK] at h
    obtain ⟨y, v, s, bs, cs, e, e1, e2, h1, h2⟩ := h
    subst e2
    exact ⟨y, v, s, e, e1, Ow.rp n d v bs k (fun a ha => q a (List.mem_append_left _ ha)) h1, OwK.rp n ds s cs k (fun a ha => q a (List.mem_append_right _ ha)) h2⟩
theorem OwT.rp : ∀ (n : Nat) (ds : List (D × D)) (vs : List (List Key × V)) (as : List Addr), (∀ a, no' a → no a) → (∀ a ∈ as, ¬ no' a) → OwT K H no n ds vs as → RpT K H no' ds vs
  | n, [], vs, as, _, _, h => by simp only [OwT] at h; exact h.1
  | n, (x, d) :: ds, vs, as, k, q, h => by
    simp only [OwT] at h
    obtain ⟨y, v, s, bs, cs, e, e1, e2, h1, h2⟩ := h
    subst e2
    exact ⟨y, v, s, e, e1, Ow.rp n d v bs k (fun a ha => q a (List.mem_append_left _ ha)) h1, OwT.rp n ds s cs k (fun a ha => q a (List.mem_append_right _ ha)) h2⟩
end
theorem Ow.ban {n : Nat} {d : D} {v : V} {as : List Addr} (h : Ow K H no n d v as) (k : ∀ a, no' a → no a) : Ow K H no' n d v as :=
  Ow.kp ⟨fun _ _ e _ => e, fun a z => .inl (k a z)⟩ n d v as (fun _ _ _ e => e) h
theorem OwL.ban {n : Nat} {d : List D} {v : List V} {as : List Addr} (h : OwL K H no n d v as) (k : ∀ a, no' a → no a) : OwL K H no' n d v as :=
  OwL.kp ⟨fun _ _ e _ => e, fun a z => .inl (k a z)⟩ n d v as (fun _ _ _ e => e) h
theorem OwK.ban {n : Nat} {d : List (D × D)} {v : List (Key × V)} {as : List Addr} (h : OwK K H no n d v as) (k : ∀ a, no' a → no a) : OwK K H no' n d v as :=
  OwK.kp ⟨fun _ _ e _ => e, fun a z => .inl (k a z)⟩ n d v as (fun _ _ _ e => e) h
theorem OwT.ban {n : Nat} {d : List (D × D)} {v : List (List Key × V)} {as : List Addr} (h : OwT K H no n d v as) (k : ∀ a, no' a → no a) : OwT K H no' n d v as :=
  OwT.kp ⟨fun _ _ e _ => e, fun a z => .inl (k a z)⟩ n d v as (fun _ _ _ e => e) h
/-- the ban without what is let go -/
def Less (no : No) (as bs : List Addr) : No := fun a => no a ∧ (a ∈ as → a ∈ bs)
theorem less_cons {a : Addr} {as bs : List Addr} (nd : (a :: as).Nodup) : ∀ z, Less no (a :: as) (a :: bs) z → Less no as bs z := fun z h =>
  ⟨h.1, fun hz => (List.mem_cons.mp (h.2 (List.mem_cons_of_mem _ hz))).elim (fun e => absurd (e ▸ hz) (List.nodup_cons.mp nd).1) id⟩
theorem less_left {as as' bs bs' : List Addr} (nd : (as ++ as').Nodup) (s : ∀ z ∈ bs', z ∈ as') : ∀ z, Less no (as ++ as') (bs ++ bs') z → Less no as bs z := fun z h =>
  ⟨h.1, fun hz => (List.mem_append.mp (h.2 (List.mem_append_left _ hz))).elim id fun q => absurd rfl ((List.nodup_append.mp nd).2.2 z hz z (s z q))⟩
theorem less_right {as as' bs bs' : List Addr} (nd : (as ++ as').Nodup) (s : ∀ z ∈ bs, z ∈ as) : ∀ z, Less no (as ++ as') (bs ++ bs') z → Less no as' bs' z := fun z h =>
  ⟨h.1, fun hz => (List.mem_append.mp (h.2 (List.mem_append_right _ hz))).elim (fun q => absurd rfl ((List.nodup_append.mp nd).2.2 z (s z q) z hz)) id⟩
mutual
/-- fewer storeys owned -/
theorem Ow.down : ∀ (n m : Nat) (d : D) (v : V) (as : List Addr), m ≤ n → as.Nodup → Ow K H no n d v as → ∃ bs, bs.Sublist as ∧ Ow K H (Less no as bs) m d v bs
  | n, 0, d, v, as, _, _, h => ⟨[], List.nil_sublist _, Ow.zero.mpr ⟨rfl, Ow.rp n d v as (fun a z => z.1) (fun a ha z => by have := z.2 ha; simp at this) h⟩⟩
  | 0, m + 1, d, v, as, z, _, _ => absurd z (by omega)
  | n + 1, m + 1, .list ds, v, as, z, nd, h => by
    simp only [Ow] at h
    obtain ⟨a, xs, bs, e, h1, e2, h2⟩ := h
    subst e2
    obtain ⟨cs, sb, h3⟩ := OwL.down n m ds xs bs (by omega) (List.nodup_cons.mp nd).2 h2
    refine ⟨a :: cs, sb.cons_cons a, ?_⟩
    simp only [Ow]
    exact ⟨a, xs, cs, e, h1, rfl, h3.ban (less_cons nd)⟩
  | n + 1, m + 1, .tuple ds, v, as, z, nd, h => by
    simp only [Ow] at h
    refine ⟨[], List.nil_sublist _, ?_⟩
    simp only [Ow]
    exact ⟨trivial, Rp.kp ⟨fun _ _ e _ => e, fun a z => .inl z.1⟩ _ _ h.2⟩
  | n + 1, m + 1, .dict kvs, v, as, z, nd, h => by
    simp only [Ow] at h
    obtain ⟨a, bs, e, e2, h⟩ := h
    subst e2
    rcases h with ⟨es, h1, h2⟩ | ⟨es, h1, h2⟩
    · obtain ⟨cs, sb, h3⟩ := OwK.down n m kvs es bs (by omega) (List.nodup_cons.mp nd).2 h2
      refine ⟨a :: cs, sb.cons_cons a, ?_⟩
      simp only [Ow]
      exact ⟨a, cs, e, rfl, .inl ⟨es, h1, h3.ban (less_cons nd)⟩⟩
    · obtain ⟨cs, sb, h3⟩ := OwT.down n m kvs es bs (by omega) (List.nodup_cons.mp nd).2 h2
      refine ⟨a :: cs, sb.cons_cons a, ?_⟩
      simp only [Ow]
      exact ⟨a, cs, e, rfl, .inr ⟨es, h1, h3.ban (less_cons nd)⟩⟩
  | n + 1, m + 1, .none, v, as, _, _, h => ⟨as, List.Sublist.refl _, h⟩
  | n + 1, m + 1, .bool b, v, as, _, _, h => ⟨as, List.Sublist.refl _, h⟩
  | n + 1, m + 1, .int i, v, as, _, _, h => ⟨as, List.Sublist.refl _, h⟩
  | n + 1, m + 1, .str x, v, as, _, _, h => ⟨as, List.Sublist.refl _, h⟩
theorem OwL.down : ∀ (n m : Nat) (ds : List D) (vs : List V) (as : List Addr), m ≤ n → as.Nodup → OwL K H no n ds vs as → ∃ bs, bs.Sublist as ∧ OwL K H (Less no as bs) m ds vs bs
  | n, m, [], vs, as, _, _, h => by
    simp only [OwL] at h
    exact ⟨[], List.nil_sublist _, by simp only [OwL]; exact ⟨h.1, trivial⟩⟩
  | n, m, d :: ds, vs, as, z, nd, h => by
    simp only [OwL] at h
    obtain ⟨v, r, bs, cs, e, e2, h1, h2⟩ := h
    subst e2
    have nd' := List.nodup_append.mp nd
    obtain ⟨bs', s1, q1⟩ := Ow.down n m d v bs z nd'.1 h1
    obtain ⟨cs', s2, q2⟩ := OwL.down n m ds r cs z nd'.2.1 h2
    refine ⟨bs' ++ cs', s1.append s2, ?_⟩
    simp only [OwL]
    exact ⟨v, r, bs', cs', e, rfl, q1.ban (less_left nd fun z hz => s2.subset hz), q2.ban (less_right nd fun z hz => s1.subset hz)⟩
theorem OwK.down : ∀ (n m : Nat) (ds : List (D × D)) (vs : List (Key × V)) (as : List Addr), m ≤ n → as.Nodup → OwK K H no n ds vs as → ∃ bs, bs.Sublist as ∧ OwK K H (Less no as bs) m ds vs bs
  | n, m, [], vs, as, _, _, h => by
    simp only [OwK] at h
    exact ⟨[], List.nil_sublist _, by simp only [OwK]; exact ⟨h.1, trivial⟩⟩
  | n, m, (x, d) :: ds, vs, as, z, nd, h => by
    simp only [OwK] at h
    obtain ⟨y, v, r, bs, cs, e, e1, e2, h1, h2⟩ := h
    subst e2
    have nd' := List.nodup_append.mp nd
    obtain ⟨bs', s1, q1⟩ := Ow.down n m d v bs z nd'.1 h1
    obtain ⟨cs', s2, q2⟩ := OwK.down n m ds r cs z nd'.2.1 h2
    refine ⟨bs' ++ cs', s1.append s2, ?_⟩
    simp only [OwK]
    exact ⟨y, v, r, bs', cs', e, e1, rfl, q1.ban (less_left nd fun z hz => s2.subset hz), q2.ban (less_right nd fun z hz => s1.subset hz)⟩
theorem OwT.down : ∀ (n m : Nat) (ds : List (D × D)) (vs : List (List Key × V)) (as : List Addr), m ≤ n → as.Nodup → OwT K H no n ds vs as → ∃ bs, bs.Sublist as ∧ OwT K H (Less no as bs) m ds vs bs
  | n, m, [], vs, as, _, _, h => by
    simp only [OwT] at h
    exact ⟨[], List.nil_sublist _, by simp only [OwT]; exact ⟨h.1, trivial⟩⟩
  | n, m, (x, d) :: ds, vs, as, z, nd, h => by
    simp only [OwT] at h
    obtain ⟨y, v, r, bs, cs, e, e1, e2, h1, h2⟩ := h
    subst e2
    have nd' := List.nodup_append.mp nd
    obtain ⟨bs', s1, q1⟩ := Ow.down n m d v bs z nd'.1 h1
    obtain ⟨cs', s2, q2⟩ := OwT.down n m ds r cs z nd'.2.1 h2
    refine ⟨bs' ++ cs', s1.append s2, ?_⟩
    simp only [OwT]
    exact ⟨y, v, r, bs', cs', e, e1, rfl, q1.ban (less_left nd fun z hz => s2.subset hz), q2.ban (less_right nd fun z hz => s1.subset hz)⟩
end
theorem OwL.len : ∀ {n : Nat} {ds : List D} {vs : List V} {as : List Addr}, OwL K H no n ds vs as → ds.length = vs.length
  | n, [], vs, as, h => by simp only [OwL] at h; simp [h.1]
  | n, d :: ds, vs, as, h => by
    simp only [OwL] at h
    obtain ⟨v, r, bs, cs, e, e2, h1, h2⟩ := h
    subst e
    simp [h2.len]
theorem RpL.len : ∀ {ds : List D} {vs : List V}, RpL K H no ds vs → ds.length = vs.length
  | [], vs, h => by simp only [RpL] at h; simp [h]
  | d :: ds, vs, h => by
    simp only [RpL] at h
    obtain ⟨v, r, e, h1, h2⟩ := h
    subst e
    simp [h2.len]
theorem RpL.get : ∀ {ds : List D} {vs : List V} {i : Nat} {d : D}, RpL K H no ds vs → ds[i]? = some d → ∃ v, vs[i]? = some v ∧ Rp K H no d v
  | [], _, _, _, _, e => by simp at e
  | d :: ds, vs, 0, x, h, e => by
    simp only [RpL] at h
    obtain ⟨v, r, e2, h1, h2⟩ := h
    subst e2
    simp at e
    subst e
    exact ⟨v, rfl, h1⟩
  | d :: ds, vs, i + 1, x, h, e => by
    simp only [RpL] at h
    obtain ⟨v, r, e2, h1, h2⟩ := h
    subst e2
    obtain ⟨w, e3, h3⟩ := h2.get (i := i) (d := x) (by simpa using e)
    exact ⟨w, by simpa using e3, h3⟩
theorem RpL.app : ∀ {ds es : List D} {vs us : List V}, RpL K H no ds vs → RpL K H no es us → RpL K H no (ds ++ es) (vs ++ us)
  | [], es, vs, us, h, k => by
    simp only [RpL] at h
    subst h
    simpa using k
  | d :: ds, es, vs, us, h, k => by
    simp only [RpL] at h
    obtain ⟨v, r, e2, h1, h2⟩ := h
    subst e2
    simp only [List.cons_append, RpL]
    exact ⟨v, r ++ us, rfl, h1, h2.app k⟩
theorem RpL.drop : ∀ {ds : List D} {vs : List V} (n : Nat), RpL K H no ds vs → RpL K H no (ds.drop n) (vs.drop n)
  | ds, vs, 0, h => by simpa using h
  | [], vs, n + 1, h => by
    simp only [RpL] at h
    subst h
    simp [RpL]
  | d :: ds, vs, n + 1, h => by
    simp only [RpL] at h
    obtain ⟨v, r, e2, h1, h2⟩ := h
    subst e2
    simpa using h2.drop n
theorem RpL.take : ∀ {ds : List D} {vs : List V} (n : Nat), RpL K H no ds vs → RpL K H no (ds.take n) (vs.take n)
  | ds, vs, 0, h => by simp [RpL]
  | [], vs, n + 1, h => by
    simp only [RpL] at h
    subst h
    simp [RpL]
  | d :: ds, vs, n + 1, h => by
    simp only [RpL] at h
    obtain ⟨v, r, e2, h1, h2⟩ := h
    subst e2
    simp only [List.take_succ_cons, RpL]
    exact ⟨v, r.take n, rfl, h1, h2.take n⟩
theorem RpL.one {d : D} {v : V} : RpL K H no [d] [v] ↔ Rp K H no d v := by
  simp only [RpL]
  constructor
  · rintro ⟨w, r, e, h, _⟩
    cases e
    exact h
  · exact fun h => ⟨v, [], rfl, h, rfl⟩
theorem RpL.rev : ∀ {ds : List D} {vs : List V}, RpL K H no ds vs → RpL K H no ds.reverse vs.reverse
  | [], vs, h => by
    simp only [RpL] at h
    subst h
    simp [RpL]
  | d :: ds, vs, h => by
    simp only [RpL] at h
    obtain ⟨v, r, e2, h1, h2⟩ := h
    subst e2
    simp only [List.reverse_cons]
    exact h2.rev.app (RpL.one.mpr h1)
theorem RpL.set : ∀ {ds : List D} {vs : List V} {d : D} {v : V} (i : Nat), RpL K H no ds vs → Rp K H no d v → RpL K H no (ds.set i d) (vs.set i v)
  | [], vs, d, v, i, h, k => by
    simp only [RpL] at h
    subst h
    simp [RpL]
  | d :: ds, vs, x, w, 0, h, k => by
    simp only [RpL] at h
    obtain ⟨v, r, e2, h1, h2⟩ := h
    subst e2
    simp only [List.set_cons_zero, RpL]
    exact ⟨w, r, rfl, k, h2⟩
  | d :: ds, vs, x, w, i + 1, h, k => by
    simp only [RpL] at h
    obtain ⟨v, r, e2, h1, h2⟩ := h
    subst e2
    simp only [List.set_cons_succ, RpL]
    exact ⟨v, r.set i w, rfl, h1, h2.set i k⟩
theorem RpL.ers : ∀ {ds : List D} {vs : List V} (i : Nat), RpL K H no ds vs → RpL K H no (ds.eraseIdx i) (vs.eraseIdx i)
  | [], vs, i, h => by
    simp only [RpL] at h
    subst h
    simp [RpL]
  | d :: ds, vs, 0, h => by
    simp only [RpL] at h
    obtain ⟨v, r, e2, h1, h2⟩ := h
    subst e2
    simpa using h2
  | d :: ds, vs, i + 1, h => by
    simp only [RpL] at h
    obtain ⟨v, r, e2, h1, h2⟩ := h
    subst e2
    simp only [List.eraseIdx_cons_succ, RpL]
    exact ⟨v, r.eraseIdx i, rfl, h1, h2.ers i⟩
theorem RpL.rep {ds : List D} {vs : List V} (h : RpL K H no ds vs) : ∀ k : Nat, RpL K H no (List.replicate k ds).flatten (List.replicate k vs).flatten
  | 0 => by simp [RpL]
  | k + 1 => by
    simp only [List.replicate_succ, List.flatten_cons]
    exact h.app (h.rep k)
theorem Rp.kpE {d : D} {v : V} (h : Rp K H no d v) (k : ∀ a, no' a → no a) : Rp K H no' d v := Rp.kp ⟨fun _ _ e _ => e, fun a z => .inl (k a z)⟩ d v h
theorem RpL.kpE {d : List D} {v : List V} (h : RpL K H no d v) (k : ∀ a, no' a → no a) : RpL K H no' d v := RpL.kp ⟨fun _ _ e _ => e, fun a z => .inl (k a z)⟩ d v h
end
/-- the value v can be read as the datum d: its own object may be banned, what it holds is none of no -/
def Rt (K : Fg) (H : Hp) (no : No) : D → V → Prop
  | .list ds, v => ∃ a xs, v = .ref a ∧ SqL K H a xs ∧ RpL K H no ds xs
  | .dict kvs, v => ∃ a, v = .ref a ∧ ((∃ es, Rd H a (.dK es) ∧ RpK K H no kvs es) ∨ ∃ es, Rd H a (.dT es) ∧ RpT K H no kvs es)
  | .none, v => v = .non
  | .bool b, v => v = .bl b
  | .int i, v => v = .int i
  | .str x, v => v = .str x
  | .tuple ds, v => Rp K H no (.tuple ds) v
def RtL (K : Fg) (H : Hp) (no : No) : List D → List V → Prop
  | [], vs => vs = []
  | d :: ds, vs => ∃ v r, vs = v :: r ∧ Rt K H no d v ∧ RtL K H no ds r
section
variable {K : Fg} {H : Hp} {no no' : No}
theorem Rp.rt {d : D} {v : V} (h : Rp K H no d v) : Rt K H no d v := by
  cases d <;> simp only [Rt] <;> try (simp only [Rp] at h; exact h; done)
  · simp only [Rp] at h
    obtain ⟨a, xs, e, h1, h2⟩ := h
    exact ⟨a, xs, e, h1.sq, h2⟩
  · simp only [Rp] at h
    obtain ⟨a, e, _, h⟩ := h
    exact ⟨a, e, h⟩
theorem RpL.rt : ∀ {ds : List D} {vs : List V}, RpL K H no ds vs → RtL K H no ds vs
  | [], vs, h => by simpa only [RpL, RtL] using h
  | d :: ds, vs, h => by
    simp only [RpL] at h
    obtain ⟨v, r, e, h1, h2⟩ := h
    exact ⟨v, r, e, h1.rt, h2.rt⟩
/-- the ban forgotten -/
theorem Rt.all {d : D} {v : V} (h : Rt K H no d v) : Rp K H (fun _ => False) d v := by
  cases d <;> simp only [Rt] at h
  · simpa only [Rp] using h
  · simpa only [Rp] using h
  · simpa only [Rp] using h
  · simpa only [Rp] using h
  · obtain ⟨a, xs, e, h1, h2⟩ := h
    simp only [Rp]
    refine ⟨a, xs, e, ?_, h2.kpE fun a z => z.elim⟩
    exact h1.elim (fun h => .inl ⟨h, fun z => z⟩) .inr
  · exact h.kpE fun a z => z.elim
  · obtain ⟨a, e, h⟩ := h
    simp only [Rp]
    refine ⟨a, e, fun z => z, ?_⟩
    rcases h with ⟨es, h1, h2⟩ | ⟨es, h1, h2⟩
    · exact .inl ⟨es, h1, RpK.kp ⟨fun _ _ e _ => e, fun a z => z.elim⟩ _ _ h2⟩
    · exact .inr ⟨es, h1, RpT.kp ⟨fun _ _ e _ => e, fun a z => z.elim⟩ _ _ h2⟩
theorem RtL.all : ∀ {ds : List D} {vs : List V}, RtL K H no ds vs → RpL K H (fun _ => False) ds vs
  | [], vs, h => by simpa only [RpL, RtL] using h
  | d :: ds, vs, h => by
    simp only [RtL] at h
    obtain ⟨v, r, e, h1, h2⟩ := h
    simp only [RpL]
    exact ⟨v, r, e, h1.all, h2.all⟩
theorem RtL.cons_iff {d : D} {ds : List D} {vs : List V} (h : RtL K H no (d :: ds) vs) : ∃ v r, vs = v :: r ∧ Rt K H no d v ∧ RtL K H no ds r := by simpa only [RtL] using h
theorem RtL.one' {d : D} {vs : List V} (h : RtL K H no [d] vs) : ∃ v, vs = [v] ∧ Rt K H no d v := by
  obtain ⟨v, r, rfl, h1, h2⟩ := h.cons_iff
  exact ⟨v, by rw [show r = [] from h2], h1⟩
theorem RtL.two' {d e : D} {vs : List V} (h : RtL K H no [d, e] vs) : ∃ v u, vs = [v, u] ∧ Rt K H no d v ∧ Rt K H no e u := by
  obtain ⟨v, r, rfl, h1, h2⟩ := h.cons_iff
  obtain ⟨u, rfl, h3⟩ := h2.one'
  exact ⟨v, u, rfl, h1, h3⟩
theorem rt_dict {kvs : List (D × D)} {x : V} (h : Rt K H no (.dict kvs) x) : ∃ a, x = .ref a ∧ ((∃ es, Rd H a (.dK es) ∧ RpK K H no kvs es) ∨ ∃ es, Rd H a (.dT es) ∧ RpT K H no kvs es) := h
theorem rt_list {ds : List D} {x : V} (h : Rt K H no (.list ds) x) : ∃ a xs, x = .ref a ∧ SqL K H a xs ∧ RpL K H no ds xs := h
end
end Pv
end
section
/-! P44: the evaluator in plain words: comprehensions, loops. -/
namespace Pv
open PySem
abbrev Fo (tbl : Str → Option Ent) (gl : Str → Option D) (fuel n : Nat) : Fns := ⟨evOf tbl gl fuel n, gl, lvsOf tbl⟩
theorem ev_succ {tbl : Str → Option Ent} {gl : Str → Option D} {fuel n : Nat} {f : Str} {e : Ent} {ds : List D} (h : tbl f = some e) : evOf tbl gl fuel (n + 1) f ds = runFd (Fo tbl gl fuel n) fuel e.fd ds := by
  unfold evOf
  simp only [callF, h, Option.map_some]
/-- a def that ends in a value and writes nothing -/
theorem run_ret {F : Fns} {fuel : Nat} {f : Fd} {ds : List D} {d : D} {r : Env} (hl : ds.length = f.np) (hm : f.muts = []) (h : evSs F fuel f.body (ds.map some ++ List.replicate (f.n - f.np) none) = .ok (.ret d, r)) : runFd F fuel f ds = .ok (d, []) := by
  unfold runFd
  rw [if_pos hl, h, hm]
  rfl
theorem wipe_at : ∀ (l : List Nat) (r : Env) (j : Nat), (wipeE r l)[j]? = if j ∈ l then (if j < r.length then some none else none) else r[j]?
  | [], r, j => by simp [wipeE]
  | i :: l, r, j => by
    have hlen : ∀ (l : List Nat), (wipeE r l).length = r.length := fun l => by
      induction l with
      | nil => rfl
      | cons i l ih => simp only [wipeE, List.length_set, ih]
    simp only [wipeE]
    by_cases c : i = j
    · subst c
      rw [List.getElem?_set]
      simp [hlen]
    · rw [List.getElem?_set_ne c, wipe_at l r j]
      have : j ≠ i := fun z => c z.symm
      simp [this]
theorem wipe_len : ∀ (l : List Nat) (r : Env), (wipeE r l).length = r.length
  | [], _ => rfl
  | i :: l, r => by simp only [wipeE, List.length_set, wipe_len l r]
theorem back_len : ∀ (l : List Nat) (r a : Env), (backE r a l).length = a.length
  | [], _, _ => rfl
  | i :: l, r, a => by simp only [backE, List.length_set, back_len l r a]
theorem back_at : ∀ (l : List Nat) (r a : Env) (j : Nat), (backE r a l)[j]? = if j ∈ l then (if j < a.length then some (r[j]?.getD none) else none) else a[j]?
  | [], r, a, j => by simp [backE]
  | i :: l, r, a, j => by
    simp only [backE]
    by_cases c : i = j
    · subst c
      rw [List.getElem?_set]
      simp [back_len]
    · rw [List.getElem?_set_ne c, back_at l r a j]
      have : j ≠ i := fun z => c z.symm
      simp [this]
theorem back_wipe {l : List Nat} {r a : Env} (h : wipeE a l = wipeE r l) : backE r a l = r := by
  have hl : a.length = r.length := by rw [← wipe_len l a, h, wipe_len]
  apply List.ext_getElem?
  intro j
  rw [back_at]
  by_cases c : j ∈ l
  · rw [if_pos c, hl]
    by_cases d : j < r.length
    · rw [if_pos d, List.getElem?_eq_getElem d]
      rfl
    · rw [if_neg d, List.getElem?_eq_none (by omega)]
  · rw [if_neg c]
    have := congrArg (fun x => x[j]?) h
    simp only [wipe_at, if_neg c] at this
    exact this
/-! statements -/
theorem ss_nx {F : Fns} {fu : Nat} {s : S} {l : List S} {r r1 : Pv.Env} {o : Out (Ctl × Pv.Env)} (h : evS F fu s r = .ok (.nx, r1)) (k : evSs F fu l r1 = o) : evSs F fu (s :: l) r = o := by
  simp only [evSs, h, Out.bind_ok]
  exact k
theorem ss_retP {F : Fns} {fu : Nat} {s : S} {l : List S} {r r1 : Pv.Env} {d : D} (h : evS F fu s r = .ok (.ret d, r1)) : evSs F fu (s :: l) r = .ok (.ret d, r1) := by
  simp only [evSs, h, Out.bind_ok]
theorem ss_nilP {F : Fns} {fu : Nat} {r : Pv.Env} : evSs F fu [] r = .ok (.nx, r) := rfl
theorem s_asg {F : Fns} {fu i : Nat} {e : E} {r r1 : Pv.Env} {d : D} (h : evE F e r = .ok (d, r1)) (hi : decide (i < r1.length) = true) : evS F fu (.asg (.n i) e) r = .ok (.nx, r1.set i (some d)) := by
  simp only [evS, h, Out.bind_ok, asgT, hi, Out.when_true]
theorem s_ret {F : Fns} {fu : Nat} {e : E} {r r1 : Pv.Env} {d : D} (h : evE F e r = .ok (d, r1)) : evS F fu (.ret e) r = .ok (.ret d, r1) := by
  simp only [evS, h, Out.bind_ok]
theorem s_ex {F : Fns} {fu : Nat} {e : E} {r r1 : Pv.Env} {d : D} (h : evE F e r = .ok (d, r1)) : evS F fu (.ex e) r = .ok (.nx, r1) := by
  simp only [evS, h, Out.bind_ok]
theorem s_if {F : Fns} {fu : Nat} {c : E} {a b : List S} {r r1 : Pv.Env} {d : D} {z : Bool} {o : Out (Ctl × Pv.Env)} (h : evE F c r = .ok (d, r1)) (ht : truD d = .ok z) (k : (if z then evSs F fu a r1 else evSs F fu b r1) = o) : evS F fu (.ifs c a b) r = o := by
  simp only [evS, h, Out.bind_ok, ht]
  exact k
theorem s_for {F : Fns} {fu : Nat} {tg : Tg} {ik : IK} {il : List E} {body : List S} {r r1 r2 : Pv.Env} {xs items : List D} {c : Ctl} (h : evL F il r = .ok (xs, r1)) (hi : itD ik xs = .ok items) (hf : forO tg (evSs F fu body) items r1 = .ok (c, r2)) : evS F fu (.for tg ik il body) r = .ok (c, r2) := by
  simp only [evS, h, Out.bind_ok, hi, hf]
theorem e_call {F : Fns} {f : Str} {n : Nat} {l : List E} {io : List (Nat × Nat)} {bo : Bool} {r r1 r2 : Pv.Env} {xs ys outs : List D} {d : D} (hl : evL F l r = .ok (xs, r1)) (hio : hasIo r1 io = true) (hf : fillIo r1 io xs = ys) (hc : F.call f ys = .ok (d, outs)) (hb : (!bo || (immAt n d && immIo (F.lv f) outs)) = true) (hr : backIo io outs r1 = r2) : evE F (.call f n l [] io bo) r = .ok (d, r2) := by
  subst hf hr
  simp only [evE, hl, Out.bind_ok, hio, if_true]
  rw [show permD [] (fillIo r1 io xs) = fillIo r1 io xs from rfl, hc]
  simp only [Out.bind_ok, hb, Out.when_true]
theorem e_bi1 {F : Fns} {b : Bi} {a : E} {r r1 : Pv.Env} {d z : D} (h : evE F a r = .ok (d, r1)) (hb : biD b [d] = .ok z) : evE F (.bi b [a]) r = .ok (z, r1) := by
  simp only [evE, evL, h, Out.bind_ok, hb]
theorem e_bi2 {F : Fns} {b : Bi} {a c : E} {r r1 r2 : Pv.Env} {d e z : D} (h : evE F a r = .ok (d, r1)) (h2 : evE F c r1 = .ok (e, r2)) (hb : biD b [d, e] = .ok z) : evE F (.bi b [a, c]) r = .ok (z, r2) := by
  simp only [evE, evL, h, h2, Out.bind_ok, hb]
theorem e_bin {F : Fns} {o : BOp} {a b : E} {r r1 r2 : Pv.Env} {x y z : D} (ha : evE F a r = .ok (x, r1)) (hb : evE F b r1 = .ok (y, r2)) (h : binD o x y = .ok z) : evE F (.bin o a b) r = .ok (z, r2) := by
  simp only [evE, ha, hb, Out.bind_ok, h]
theorem e_cmp {F : Fns} {o : COp} {a b : E} {r r1 r2 : Pv.Env} {x y : D} {z : Bool} (ha : evE F a r = .ok (x, r1)) (hb : evE F b r1 = .ok (y, r2)) (h : cmpD o x y = .ok z) : evE F (.cmp o a b) r = .ok (.bool z, r2) := by
  simp only [evE, ha, hb, Out.bind_ok, h]
theorem e_cmp2 {F : Fns} {o p : COp} {a b c : E} {r r1 r2 r3 : Pv.Env} {x y u : D} {z t : Bool} (ha : evE F a r = .ok (x, r1)) (hb : evE F b r1 = .ok (y, r2)) (h : cmpD o x y = .ok z) (hc : evE F c r2 = .ok (u, r3)) (h2 : cmpD p y u = .ok t) (e : r3 = r2) : evE F (.cmp2 o p a b c) r = .ok (.bool (z && t), r2) := by
  subst e
  cases z with
  | true => simp only [evE, ha, hb, Out.bind_ok, h, if_true, hc, h2, Bool.true_and]
  | false => simp only [evE, ha, hb, Out.bind_ok, h, Bool.false_eq_true, if_false, Bool.false_and]
theorem e_ix {F : Fns} {a b : E} {r r1 r2 : Pv.Env} {x y z : D} (ha : evE F a r = .ok (x, r1)) (hb : evE F b r1 = .ok (y, r2)) (h : getD x y = .ok z) : evE F (.ix a b) r = .ok (z, r2) := by
  simp only [evE, ha, hb, Out.bind_ok, h]
theorem e_not {F : Fns} {a : E} {r r1 : Pv.Env} {x : D} {z : Bool} (ha : evE F a r = .ok (x, r1)) (h : truD x = .ok z) : evE F (.not a) r = .ok (.bool (!z), r1) := by
  simp only [evE, ha, Out.bind_ok, h]
theorem e_or {F : Fns} {a b : E} {r r1 : Pv.Env} {z : Bool} {o : Out (D × Pv.Env)} (ha : evE F a r = .ok (.bool z, r1)) (hb : (if z then .ok (.bool true, r1) else evE F b r1) = o) : evE F (.or a b) r = o := by
  rw [← hb]
  cases z <;> simp [evE, ha, truD]
theorem e_and {F : Fns} {a b : E} {r r1 : Pv.Env} {z : Bool} {o : Out (D × Pv.Env)} (ha : evE F a r = .ok (.bool z, r1)) (hb : (if z then evE F b r1 else .ok (.bool false, r1)) = o) : evE F (.and a b) r = o := by
  rw [← hb]
  cases z <;> simp [evE, ha, truD]
theorem l_nil {F : Fns} {r : Pv.Env} : evL F [] r = .ok ([], r) := rfl
theorem l_cons {F : Fns} {a : E} {l : List E} {r r1 r2 : Pv.Env} {x : D} {xs : List D} (ha : evE F a r = .ok (x, r1)) (hl : evL F l r1 = .ok (xs, r2)) : evL F (a :: l) r = .ok (x :: xs, r2) := by
  simp only [evL, ha, Out.bind_ok, hl]
theorem e_lst {F : Fns} {l : List E} {r r1 : Pv.Env} {xs : List D} (h : evL F l r = .ok (xs, r1)) : evE F (.lst l) r = .ok (.list xs, r1) := by
  simp only [evE, h, Out.bind_ok]
theorem e_tup {F : Fns} {l : List E} {r r1 : Pv.Env} {xs : List D} (h : evL F l r = .ok (xs, r1)) : evE F (.tup l) r = .ok (.tuple xs, r1) := by
  simp only [evE, h, Out.bind_ok]
theorem abs_none : isAbs (.k .none) = true := rfl
theorem e_hi {F : Fns} {a b : E} {r r1 r2 : Pv.Env} {x z : D} {h : Int} (ha : evE F a r = .ok (x, r1)) (hb : evE F b r1 = .ok (.int h, r2)) (hn : isAbs b = false) (hs : sliceD x none (some h) = .ok z) : evE F (.sl 0 a (.k .none) b) r = .ok (z, r2) := by
  simp only [evE, ha, Out.bind_ok, abs_none, if_true, hn, Bool.false_eq_true, if_false, hb, endI, BEq.rfl, Bool.true_or, Out.when_true, hs]
theorem e_lo {F : Fns} {a b : E} {r r1 r2 : Pv.Env} {x z : D} {h : Int} (ha : evE F a r = .ok (x, r1)) (hb : evE F b r1 = .ok (.int h, r2)) (hn : isAbs b = false) (hs : sliceD x (some h) none = .ok z) : evE F (.sl 0 a b (.k .none)) r = .ok (z, r2) := by
  simp only [evE, ha, Out.bind_ok, abs_none, if_true, hn, Bool.false_eq_true, if_false, hb, endI, BEq.rfl, Bool.true_or, Out.when_true, hs]
theorem e_lohi {F : Fns} {a b c : E} {r r1 r2 r3 : Pv.Env} {x z : D} {h k : Int} (ha : evE F a r = .ok (x, r1)) (hb : evE F b r1 = .ok (.int h, r2)) (hn : isAbs b = false) (hc : evE F c r2 = .ok (.int k, r3)) (hn2 : isAbs c = false) (hs : sliceD x (some h) (some k) = .ok z) : evE F (.sl 0 a b c) r = .ok (z, r3) := by
  simp only [evE, ha, Out.bind_ok, abs_none, if_true, hn, hn2, Bool.false_eq_true, if_false, hb, hc, endI, BEq.rfl, Bool.true_or, Out.when_true, hs]
theorem e_app {F : Fns} {i : Nat} {a : E} {r r1 : Pv.Env} {xs ys : List D} {d : D} (h : r[i]? = some (some (.list xs))) (ha : evE F a r = .ok (d, r1)) (h1 : r1[i]? = some (some (.list ys))) (hl : ys.length < 2 ^ 20) : evE F (.mu .append i [a]) r = .ok (.none, r1.set i (some (.list (ys ++ [d])))) := by
  have hm : muD .append (.list ys) [d] = .ok (.none, .list (ys ++ [d])) := by
    show Out.when _ _ = _
    rw [decide_eq_true (show ys.length < sizeLine by rw [sizeLine_eq]; omega)]
    rfl
  simp only [evE, evL, h, ha, Out.bind_ok, isListD, if_true, h1, hm]
theorem s_par {F : Fns} {fu : Nat} {l : List Nat} {es : List E} {r r1 : Pv.Env} {xs : List D} (h : evL F es r = .ok (xs, r1)) (hg : (decide (l.length = xs.length) && l.all fun i => decide (i < r1.length)) = true) : evS F fu (.par l es) r = .ok (.nx, setAll l xs r1) := by
  simp only [evS, h, Out.bind_ok, hg, Out.when_true]
/-! lists -/
theorem cut_hi {A : Type} (xs : List A) (w : Nat) : cutL xs none (some (w : Nat)) = xs.take w := by
  unfold cutL
  rw [HT.sIx_none, HT.sIx_nat]
  simp only [List.drop_zero, Nat.sub_zero]
  rw [Nat.min_comm]
  by_cases h : w ≤ xs.length
  · rw [Nat.min_eq_right h]
  · rw [Nat.min_eq_left (by omega), List.take_of_length_le (Nat.le_refl _), List.take_of_length_le (by omega)]
theorem cut_lo {A : Type} (xs : List A) (w : Nat) : cutL xs (some (w : Nat)) none = xs.drop w := by
  unfold cutL
  rw [HT.sIx_none, HT.sIx_nat]
  by_cases h : w ≤ xs.length
  · rw [Nat.min_eq_left h, List.take_of_length_le (by simp)]
  · rw [Nat.min_eq_right (by omega)]
    simp
    omega
theorem pair_strs (xs : List Str) : pairOk (xs.map PyData.str) = true := by
  unfold pairOk
  simp only [List.all_eq_true, Bool.and_eq_true]
  intro d hd
  obtain ⟨x, _, rfl⟩ := List.mem_map.mp hd
  refine ⟨⟨rfl, rfl⟩, fun e he => ?_⟩
  obtain ⟨y, _, rfl⟩ := List.mem_map.mp he
  rfl
theorem sortOk_strs (xs : List Str) : sortOk (xs.map PyData.str) = true := by
  unfold sortOk
  rw [pair_strs, Bool.true_and, Bool.or_eq_true]
  refine .inr ?_
  rw [List.all_eq_true]
  intro d hd
  obtain ⟨x, _, rfl⟩ := List.mem_map.mp hd
  rfl
theorem strs_of_perm {xs : List Str} {ys : List D} (h : ys.Perm (xs.map PyData.str)) : ∃ ws : List Str, ys = ws.map PyData.str ∧ ws.Perm xs := by
  have e : ys = (ys.map strOf).map PyData.str := by
    rw [List.map_map]
    refine (List.map_id ys).symm.trans (List.map_congr_left fun d hd => ?_)
    obtain ⟨x, _, rfl⟩ := List.mem_map.mp (h.mem_iff.mp hd)
    rfl
  refine ⟨ys.map strOf, e, ?_⟩
  have := h.map strOf
  rw [List.map_map] at this
  refine this.trans (List.Perm.of_eq ?_)
  refine (List.map_congr_left fun x _ => ?_).trans (List.map_id xs)
  rfl
theorem e_cc {F : Fns} {f g : Str} {n : Nat} {l : List E} {io : List (Nat × Nat)} {r r1 r2 : Pv.Env} {xs ys outs outs2 : List D} {d y : D} (hl : evL F l r = .ok (xs, r1)) (hio : hasIo r1 io = true) (hf : fillIo r1 io xs = ys) (hg : F.call g ys = .ok (d, outs)) (hc : F.call f [d] = .ok (y, outs2)) (hb : (immAt n y && immIo (F.lv g) outs) = true) (hr : backIo io outs r1 = r2) : evE F (.cc f n g l io) r = .ok (y, r2) := by
  subst hf hr
  simp only [evE, hl, Out.bind_ok, hio, if_true, hg, hc, hb, Out.when_true]
theorem s_each {F : Fns} {fu i : Nat} {e : E} {body : List S} {r r1 r2 : Pv.Env} {ds : List D} {c : Ctl} (h : evE F e r = .ok (.list ds, r1)) (hf : forO (.n i) (evSs F fu body) ds r1 = .ok (c, r2)) : evS F fu (.each i e body) r = .ok (c, r2) := by
  simp only [evS, h, Out.bind_ok, hf]
theorem rng_ok {n : Nat} (h : n < 2 ^ 20) : itD .rng [.int (n : Nat)] = .ok ((List.range n).map fun k => .int (k : Nat)) := by
  have s1 : small 0 = true := by decide
  have s2 : small (n : Nat) = true := decide_eq_true (by omega)
  simp [itD, rngL, s1, s2]
theorem e_dn {F : Fns} {n : Nat} {a : E} {r : Pv.Env} {o : Out (D × Pv.Env)} (h : evE F a r = o) : evE F (.dn n a) r = o := by
  simp only [evE]
  exact h
theorem run_out {F : Fns} {fu : Nat} {f : Fd} {ds outs : List D} {d : D} {r : Pv.Env} (hl : ds.length = f.np) (h : evSs F fu f.body (ds.map some ++ List.replicate (f.n - f.np) none) = .ok (.ret d, r)) (ho : (f.muts.all fun i => (r[i]?.getD none).isSome) = true) (e : outsD f.muts r = outs) : runFd F fu f ds = .ok (d, outs) := by
  unfold runFd
  rw [if_pos hl, h]
  simp only [Out.bind_ok, ho, Out.when_true, e]
theorem cons_erase {A : Type} : ∀ (l : List A) (i : Nat) (h : i < l.length), (l[i] :: l.eraseIdx i).Perm l
  | [], i, h => by simp at h
  | x :: l, 0, h => .refl _
  | x :: l, i + 1, h => by
    simp only [List.getElem_cons_succ, List.eraseIdx_cons_succ]
    exact (List.Perm.swap _ _ _).trans ((cons_erase l i (by simpa using h)).cons x)
/-! operators -/
theorem b_add {i j : Int} : binD .add (.int i) (.int j) = .ok (.int (i + j)) := rfl
theorem b_sub {i j : Int} : binD .sub (.int i) (.int j) = .ok (.int (i - j)) := rfl
theorem b_mod {i j : Int} (h : 0 < j) : binD .mod (.int i) (.int j) = .ok (.int (i % j)) := by
  show Out.when _ _ = _
  simp [h]
theorem log2_le {x : Nat} {k : Nat} (h : x < 2 ^ k) : x.log2 ≤ k := by
  by_cases c : x = 0
  · subst c
    rw [show Nat.log2 0 = 0 from by decide]
    omega
  · have := (Nat.log2_lt c).mpr h
    omega
theorem b_fdiv {i j : Int} {k : Nat} (h : 0 < j) (h2 : j.natAbs < 2 ^ k) (hk : k < 9000) : binD .fdiv (.int i) (.int j) = .ok (.int (i / j)) := by
  show Out.when _ _ = _
  have := log2_le h2
  have e : j.natAbs.log2 < 9000 := by omega
  simp [h, e]
theorem b_mul {i j : Int} {k : Nat} (h : i.natAbs < 2 ^ k) (hk : k < 60) : binD .mul (.int i) (.int j) = .ok (.int (i * j)) := by
  show Out.when _ _ = _
  have := log2_le h
  have e : mulOk i j = true := by
    unfold mulOk
    rw [show decide (i.natAbs.log2 < 60) = true from decide_eq_true (by omega)]
    rfl
  rw [e]
  rfl
theorem b_mulR {i j : Int} {k : Nat} (h : j.natAbs < 2 ^ k) (hk : k < 60) : binD .mul (.int i) (.int j) = .ok (.int (i * j)) := by
  show Out.when _ _ = _
  have := log2_le h
  have e : mulOk i j = true := by
    unfold mulOk
    rw [show decide (j.natAbs.log2 < 60) = true from decide_eq_true (by omega)]
    simp
  rw [e]
  rfl
theorem b_pow {i j : Int} {k : Nat} (h : i.natAbs < 2 ^ k) (h0 : 0 ≤ j) (hk : (k + 1) * j.natAbs ≤ 134217728) : binD .pow (.int i) (.int j) = .ok (.int (i ^ j.toNat)) := by
  show Out.when _ _ = _
  have h1 := log2_le h
  have h2 : (i.natAbs.log2 + 1) * j.natAbs ≤ 134217728 := Nat.le_trans (Nat.mul_le_mul_right _ (by omega)) hk
  rw [decide_eq_true h0, decide_eq_true h2]
  rfl
/-- a comprehension that writes nothing -/
theorem lc_fold {F : Fns} {e : E} {tg : Tg} {ifs : List E} {own : List Nat} {r0 : Env} {f : D → D} {p : D → Bool} : ∀ (items : List D), (∀ d ∈ items, ∃ r1, asgT tg d r0 = .ok r1 ∧ wipeE r1 own = r0 ∧ evIfs F ifs r1 = .ok (p d, r1) ∧ (p d = true → evE F e r1 = .ok (f d, r1))) →
    ∀ (acc : List D) (env : Env), wipeE env own = r0 → ∃ env', wipeE env' own = r0 ∧ foldO (fun d (a : List D × Env) => (asgT tg d (wipeE a.2 own)).bind fun r1 => (evIfs F ifs r1).bind fun b => if b.1 then (evE F e b.2).bind fun y => .ok (a.1 ++ [y.1], y.2) else .ok (a.1, b.2)) items (acc, env) = .ok (acc ++ (items.filter p).map f, env')
  | [], _, acc, env, h => ⟨env, h, by simp⟩
  | d :: items, hb, acc, env, h => by
    obtain ⟨r1, h1, h2, h3, h4⟩ := hb d List.mem_cons_self
    simp only [foldO_cons, h, h1, Out.bind_ok, h3]
    cases c : p d with
    | true =>
      simp only [if_true, h4 c, Out.bind_ok]
      obtain ⟨env', q1, q2⟩ := lc_fold items (fun d hd => hb d (List.mem_cons_of_mem _ hd)) (acc ++ [f d]) r1 h2
      refine ⟨env', q1, ?_⟩
      rw [q2, List.filter_cons_of_pos c]
      simp
    | false =>
      simp only [Bool.false_eq_true, if_false, Out.bind_ok]
      obtain ⟨env', q1, q2⟩ := lc_fold items (fun d hd => hb d (List.mem_cons_of_mem _ hd)) acc r1 h2
      refine ⟨env', q1, ?_⟩
      rw [q2, List.filter_cons_of_neg (by simp [c])]
theorem lc_mapA {F : Fns} {e : E} {tg : Tg} {ik : IK} {il ifs : List E} {own : List Nat} {r ra : Env} {xs items : List D} (f : D → D) (p : D → Bool) (hil : evL F il ra = .ok (xs, r)) (hit : itD ik xs = .ok items) (hf : fits items.length = true)
    (hb : ∀ d ∈ items, ∃ r1, asgT tg d (wipeE r own) = .ok r1 ∧ wipeE r1 own = wipeE r own ∧ evIfs F ifs r1 = .ok (p d, r1) ∧ (p d = true → evE F e r1 = .ok (f d, r1))) :
    evE F (.lc e tg ik il ifs own) ra = .ok (.list ((items.filter p).map f), r) := by
  have w2 : wipeE (wipeE r own) own = wipeE r own := by
    apply List.ext_getElem?
    intro j
    rw [wipe_at, wipe_at, wipe_len]
    split
    · rfl
    · rfl
  obtain ⟨env', q1, q2⟩ := lc_fold items hb [] (wipeE r own) w2
  simp only [evE, hil, Out.bind_ok, hit, hf, Out.when_true, q2, Out.noX_ok, List.nil_append]
  rw [back_wipe q1]
theorem lc_map {F : Fns} {e : E} {tg : Tg} {ik : IK} {il ifs : List E} {own : List Nat} {r : Env} {xs items : List D} (f : D → D) (p : D → Bool) (hil : evL F il r = .ok (xs, r)) (hit : itD ik xs = .ok items) (hf : fits items.length = true)
    (hb : ∀ d ∈ items, ∃ r1, asgT tg d (wipeE r own) = .ok r1 ∧ wipeE r1 own = wipeE r own ∧ evIfs F ifs r1 = .ok (p d, r1) ∧ (p d = true → evE F e r1 = .ok (f d, r1))) :
    evE F (.lc e tg ik il ifs own) r = .ok (.list ((items.filter p).map f), r) := lc_mapA f p hil hit hf hb
/-- a loop by its invariant -/
theorem for_inv {tg : Tg} {body : Env → Out (Ctl × Env)} (I : Nat → Env → Prop) : ∀ (items : List D) (k : Nat) (r : Env), (∀ j d r, items[j]? = some d → I (k + j) r → ∃ r1 r2, asgT tg d r = .ok r1 ∧ body r1 = .ok (.nx, r2) ∧ I (k + j + 1) r2) → I k r → ∃ r', forO tg body items r = .ok (.nx, r') ∧ I (k + items.length) r'
  | [], k, r, _, h => ⟨r, rfl, h⟩
  | d :: items, k, r, hb, h => by
    obtain ⟨r1, r2, h1, h2, h3⟩ := hb 0 d r rfl h
    obtain ⟨r', q1, q2⟩ := for_inv I items (k + 1) r2 (fun j d r e i => by
      have := hb (j + 1) d r (by simpa using e) (by rw [show k + (j + 1) = k + 1 + j by omega]; exact i)
      rw [show k + (j + 1) + 1 = k + 1 + j + 1 by omega] at this
      exact this) h3
    refine ⟨r', ?_, by rw [show k + (d :: items).length = k + 1 + items.length by simp; omega]; exact q2⟩
    simp only [forO, h1, Out.bind_ok, h2]
    exact q1
end Pv
end
section
/-! M1: rows of texts in order; sorted(set(..)) of them. -/
namespace Pv
open PySem PySem.W
def adj : List Str → Bool
  | x :: y :: r => strLt x y && adj (y :: r)
  | _ => true
theorem lt_iff {x y : Str} : strLt x y = true ↔ x.cps.toList < y.cps.toList := by
  unfold strLt
  exact decide_eq_true_iff
theorem lt_trans {x y z : Str} (h : strLt x y = true) (k : strLt y z = true) : strLt x z = true := by
  rw [lt_iff] at *
  exact List.lt_trans h k
theorem lt_irr (x : Str) : strLt x x = false := by
  cases h : strLt x x with
  | false => rfl
  | true =>
    rw [lt_iff] at h
    exact absurd h (List.lt_irrefl _)
theorem le_str (x y : Str) : dataLe false id (.str x) (.str y) = decide (x.cps.toList ≤ y.cps.toList) := by
  have := dataLe_str (fun b : Str => b)
  exact congrFun (congrFun this x) y
theorem adj_pair : ∀ {xs : List Str}, adj xs = true → xs.Pairwise (fun x y => strLt x y = true)
  | [], _ => .nil
  | [x], _ => by simp
  | x :: y :: r, h => by
    simp only [adj, Bool.and_eq_true] at h
    have ih := adj_pair h.2
    refine List.pairwise_cons.mpr ⟨fun z hz => ?_, ih⟩
    rcases List.mem_cons.mp hz with rfl | hz
    · exact h.1
    · exact lt_trans h.1 ((List.pairwise_cons.mp ih).1 z hz)
theorem pair_adj : ∀ {xs : List Str}, xs.Pairwise (fun x y => strLt x y = true) → adj xs = true
  | [], _ => rfl
  | [x], _ => rfl
  | x :: y :: r, h => by
    simp only [adj, Bool.and_eq_true]
    have h' := List.pairwise_cons.mp h
    exact ⟨h'.1 y List.mem_cons_self, pair_adj h'.2⟩
theorem pair_nodup {xs : List Str} (h : xs.Pairwise (fun x y => strLt x y = true)) : xs.Nodup := by
  refine h.imp fun {a b} hab e => ?_
  subst e
  rw [lt_irr] at hab
  cases hab
theorem str_le_lt {x y : Str} (h : x.cps.toList ≤ y.cps.toList) (n : x ≠ y) : strLt x y = true := by
  rw [lt_iff]
  rcases List.le_iff_lt_or_eq.mp h with h | h
  · exact h
  · exact absurd (str_of_cps h) n
theorem lt_le {x y : Str} (h : strLt x y = true) : x.cps.toList ≤ y.cps.toList := by
  rw [lt_iff] at h
  exact List.le_of_lt h
/-! sorted -/
theorem sort_strs (xs : List Str) : sortL (xs.map PyData.str) = (xs.mergeSort (fun a b => decide (a.cps.toList ≤ b.cps.toList))).map PyData.str := by
  unfold sortL
  have := W.sort_maps (r := fun a b : Str => decide (a.cps.toList ≤ b.cps.toList)) (s := dataLe false id) PyData.str (l := xs) fun a _ b _ => (le_str a b).symm
  exact this.symm
abbrev leS (a b : Str) : Bool := decide (a.cps.toList ≤ b.cps.toList)
theorem leS_trans (a b c : Str) (h : leS a b = true) (k : leS b c = true) : leS a c = true := by
  have h := of_decide_eq_true h
  have k := of_decide_eq_true k
  exact decide_eq_true (List.le_trans h k)
theorem leS_total (a b : Str) : (leS a b || leS b a) = true := by
  rw [Bool.or_eq_true, decide_eq_true_eq, decide_eq_true_eq]
  exact List.le_total _ _
theorem sort_pair (xs : List Str) : (xs.mergeSort leS).Pairwise (fun a b => leS a b = true) := List.pairwise_mergeSort leS_trans leS_total xs
theorem sort_adj {xs : List Str} (h : xs.Nodup) : adj (xs.mergeSort leS) = true := by
  refine pair_adj ?_
  have p := sort_pair xs
  have n : (xs.mergeSort leS).Nodup := (List.mergeSort_perm xs leS).nodup_iff.mpr h
  exact (p.and n).imp fun {a b} hab => str_le_lt (of_decide_eq_true hab.1) hab.2
/-! each once -/
def onceS (xs : List Str) : List Str := xs.foldl (fun a x => if decide (x ∈ a) then a else a ++ [x]) []
theorem eqv_str (x y : Str) : (PyData.str x).eqv (.str y) = decide (x = y) := by
  simp only [PyData.eqv]
  by_cases h : x = y
  · simp [h]
  · simp [h]
theorem any_eqv (acc : List Str) (k : Str) : (acc.map PyData.str).any (fun y => y.eqv (.str k)) = decide (k ∈ acc) := by
  rw [List.any_map, Bool.eq_iff_iff]
  simp only [List.any_eq_true, Function.comp, eqv_str, decide_eq_true_eq]
  exact ⟨fun ⟨x, m, e⟩ => e ▸ m, fun m => ⟨k, m, rfl⟩⟩
theorem once_go : ∀ (xs acc : List Str), (xs.map PyData.str).foldl (fun a x => if a.any (fun y => y.eqv x) then a else a ++ [x]) (acc.map PyData.str) = (xs.foldl (fun a x => if decide (x ∈ a) then a else a ++ [x]) acc).map PyData.str
  | [], acc => rfl
  | k :: xs, acc => by
    simp only [List.map_cons, List.foldl_cons, any_eqv]
    by_cases c : k ∈ acc
    · simp only [c, decide_true, if_true]
      exact once_go xs acc
    · simp only [c, decide_false, Bool.false_eq_true, if_false]
      have := once_go xs (acc ++ [k])
      rw [List.map_append] at this
      exact this
theorem once_eq (xs : List Str) : onceL (xs.map PyData.str) = (onceS xs).map PyData.str := once_go xs []
theorem once_spec : ∀ (xs acc : List Str), acc.Nodup → (xs.foldl (fun a x => if decide (x ∈ a) then a else a ++ [x]) acc).Nodup ∧ ∀ k, k ∈ xs.foldl (fun a x => if decide (x ∈ a) then a else a ++ [x]) acc ↔ k ∈ acc ∨ k ∈ xs
  | [], acc, h => ⟨h, fun k => by simp⟩
  | x :: xs, acc, h => by
    simp only [List.foldl_cons]
    by_cases c : x ∈ acc
    · simp only [c, decide_true, if_true]
      obtain ⟨h1, h2⟩ := once_spec xs acc h
      refine ⟨h1, fun k => (h2 k).trans ?_⟩
      simp only [List.mem_cons]
      exact ⟨fun z => z.imp id .inr, fun z => z.elim .inl fun z => z.elim (fun e => .inl (e ▸ c)) .inr⟩
    · simp only [c, decide_false, Bool.false_eq_true, if_false]
      obtain ⟨h1, h2⟩ := once_spec xs (acc ++ [x]) (by
        rw [List.nodup_append]
        exact ⟨h, by simp, fun a ha b hb e => by simp at hb; subst hb; subst e; exact c ha⟩)
      refine ⟨h1, fun k => (h2 k).trans ?_⟩
      simp only [List.mem_append, List.mem_cons, List.not_mem_nil, or_false]
      exact or_assoc
theorem once_nodup (xs : List Str) : (onceS xs).Nodup := (once_spec xs [] List.nodup_nil).1
theorem mem_once {xs : List Str} {k : Str} : k ∈ onceS xs ↔ k ∈ xs := ((once_spec xs [] List.nodup_nil).2 k).trans (by simp)
theorem eqvAll_str : ∀ (xs ys : List Str), PyData.eqvAll (xs.map PyData.str) (ys.map PyData.str) = decide (xs = ys)
  | [], [] => by simp [PyData.eqvAll]
  | [], _ :: _ => by simp [PyData.eqvAll]
  | _ :: _, [] => by simp [PyData.eqvAll]
  | x :: xs, y :: ys => by
    simp only [List.map_cons, PyData.eqvAll, eqv_str, eqvAll_str xs ys, List.cons.injEq, Bool.decide_and]
/-- sorted(set(xs)) == xs, of texts -/
theorem sset_adj (xs : List Str) : decide ((onceS xs).mergeSort leS = xs) = adj xs := by
  rw [Bool.eq_iff_iff, decide_eq_true_eq]
  constructor
  · intro h
    rw [← h]
    exact sort_adj (once_nodup xs)
  · intro h
    have p := adj_pair h
    have nd := pair_nodup p
    have pm : (onceS xs).Perm xs := (List.perm_ext_iff_of_nodup (once_nodup xs) nd).mpr fun k => mem_once
    refine List.Perm.eq_of_pairwise (le := fun a b => leS a b = true) (fun a b _ _ h1 h2 => ?_) (sort_pair _) (p.imp fun {a b} h => decide_eq_true (lt_le h)) ((List.mergeSort_perm _ _).trans pm)
    exact str_of_cps (List.le_antisymm (of_decide_eq_true h1) (of_decide_eq_true h2))
end Pv
end
section
/-! the table of the law (written by pv.py) -/
namespace Lw
open PySem Pv
def b_is_key : List S := [.ifs (.or (.not (.isa (.v 0) [.str])) (.not (.cmp2 .le .le (.k (.int 1)) (.bi .len [(.v 0)]) (.gl "MOST_LETTERS")))) [.ret (.k (.bool false))] [], .ret (.bi .all [(.lc (.cmp .in_ (.v 1) (.gl "LETTERS")) (.n 1) .seq [(.v 0)] [] [1])])]
def f_is_key : Fd := ⟨2, 1, [], [], b_is_key⟩
def g_is_key : Sig := ⟨["thing"], [0], [], 0, []⟩
def e_is_key : Ent := ⟨f_is_key, g_is_key, ["thing", "letter"], [0, 0]⟩
def b_is_transaction : List S := [.ifs (.or (.not (.isa (.v 0) [.tuple])) (.not (.cmp2 .le .le (.k (.int 1)) (.bi .len [(.v 0)]) (.gl "MOST_IN_TRANSACTION")))) [.ret (.k (.bool false))] [], .ret (.and (.bi .all [(.lc (.call "is_key" 0 [(.v 1)] [] [] false) (.n 1) .seq [(.v 0)] [] [1])]) (.bi .all [(.lc (.cmp .lt (.v 2) (.v 3)) (.t [2, 3]) .zip [(.v 0), (.sl 0 (.v 0) (.k (.int 1)) (.k .none))] [] [2, 3])]))]
def f_is_transaction : Fd := ⟨4, 1, [], [], b_is_transaction⟩
def g_is_transaction : Sig := ⟨["thing"], [0], [], 0, []⟩
def e_is_transaction : Ent := ⟨f_is_transaction, g_is_transaction, ["thing", "key", "one", "other"], [0, 0, 0, 0]⟩
def b_last_in : List S := [.asg (.n 1) (.dn 0 (.dc2 (.v 2) (.v 3) (.t [3, 4]) .enum [(.v 0)] [] (.n 2) .seq [(.v 4)] [] [3, 4, 2] [2])), .ret (.dc (.v 2) (.ix (.v 1) (.v 2)) (.n 2) .seq [(.bi .sorted [(.v 1)])] [] [2])]
def f_last_in : Fd := ⟨5, 1, [], [], b_last_in⟩
def g_last_in : Sig := ⟨["log"], [0], [], 1, []⟩
def e_last_in : Ent := ⟨f_last_in, g_last_in, ["log", "found", "key", "index", "transaction"], [0, 0, 0, 0, 0]⟩
def b_is_log : List S := [.ifs (.or (.not (.isa (.v 0) [.list])) (.cmp .gt (.bi .len [(.v 0)]) (.gl "MOST_TRANSACTIONS"))) [.ret (.k (.bool false))] [], .ret (.and (.bi .all [(.lc (.call "is_transaction" 0 [(.v 1)] [] [] false) (.n 1) .seq [(.v 0)] [] [1])]) (.cmp .le (.bi .len [(.call "last_in" 1 [(.v 0)] [] [] false)]) (.gl "MOST_KEYS")))]
def f_is_log : Fd := ⟨2, 1, [], [], b_is_log⟩
def g_is_log : Sig := ⟨["thing"], [0], [], 0, []⟩
def e_is_log : Ent := ⟨f_is_log, g_is_log, ["thing", "transaction"], [0, 0]⟩
def b_last_writes : List S := [.ifs (.not (.call "is_log" 0 [(.v 0)] [] [] false)) [.bad] [], .ret (.call "last_in" 1 [(.v 0)] [] [] false)]
def f_last_writes : Fd := ⟨1, 1, [], [], b_last_writes⟩
def g_last_writes : Sig := ⟨["log"], [0], [], 1, [(["log"], [0])]⟩
def e_last_writes : Ent := ⟨f_last_writes, g_last_writes, ["log"], [0]⟩
def b_law_source : List S := [.asg (.n 2) (.ite (.cmp .lt (.v 1) (.bi .len [(.v 0)])) (.ix (.v 0) (.v 1)) (.k (.int 0))), .ret (.lst [(.bi .max [(.k (.int 0)), (.bin .sub (.bi .abs [(.v 2)]) (.bin .pow (.k (.int 10)) (.k (.int 18))))]), (.bin .add (.bin .add (.bin .mul (.bin .mod (.bi .abs [(.v 2)]) (.bin .add (.bin .pow (.k (.int 10)) (.k (.int 36))) (.k (.int 67)))) (.k (.int 128))) (.v 1)) (.k (.int 5))), (.k (.int 0))])]
def f_law_source : Fd := ⟨3, 2, [], [], b_law_source⟩
def g_law_source : Sig := ⟨["_law_script", "_law_k"], [0, 0], [], 1, []⟩
def e_law_source : Ent := ⟨f_law_source, g_law_source, ["_law_script", "_law_k", "_law_cell"], [0, 0, 0]⟩
def b_law_pick : List S := [.ifs (.cmp .gt (.ix (.v 0) (.k (.int 0))) (.k (.int 0))) [.asg (.n 3) (.bin .mod (.ix (.v 0) (.k (.int 0))) (.v 1)), .put 0 (.k (.int 0)) (.bin .fdiv (.ix (.v 0) (.k (.int 0))) (.v 1)), .ret (.v 3)] [], .put 0 (.k (.int 2)) (.bin .add (.ix (.v 0) (.k (.int 2))) (.k (.int 1))), .asg (.n 2) (.bin .mod (.bin .pow (.bin .add (.ix (.v 0) (.k (.int 1))) (.bin .mul (.k (.int 49979687)) (.ix (.v 0) (.k (.int 2))))) (.k (.int 3))) (.bin .add (.bin .pow (.k (.int 10)) (.k (.int 38))) (.k (.int 133)))), .asg (.n 2) (.bin .mod (.bin .pow (.bin .add (.v 2) (.bin .mul (.k (.int 32452843)) (.ix (.v 0) (.k (.int 2))))) (.k (.int 3))) (.bin .add (.bin .pow (.k (.int 10)) (.k (.int 37))) (.k (.int 43)))), .ret (.bin .mod (.bin .fdiv (.v 2) (.k (.int 131071))) (.v 1))]
def f_law_pick : Fd := ⟨4, 2, [0], [1], b_law_pick⟩
def g_law_pick : Sig := ⟨["_law_source_here", "_law_count"], [1, 0], [0], 0, []⟩
def e_law_pick : Ent := ⟨f_law_pick, g_law_pick, ["_law_source_here", "_law_count", "_law_mixed", "_law_found"], [1, 0, 0, 0]⟩
def b_law_shuffled : List S := [.asg (.n 2) (.bi .list [(.v 1)]), .ret (.lc (.mu .pop 2 [(.call "_law_pick" 0 [(.io 0), (.bi .len [(.v 2)])] [] [(0, 0)] false)]) (.n 3) .rng [(.bi .len [(.v 1)])] [] [3])]
def f_law_shuffled : Fd := ⟨4, 2, [0], [1], b_law_shuffled⟩
def g_law_shuffled : Sig := ⟨["_law_source_here", "_law_row"], [1, 0], [0], 1, []⟩
def e_law_shuffled : Ent := ⟨f_law_shuffled, g_law_shuffled, ["_law_source_here", "_law_row", "_law_left", "_law_k"], [1, 0, 1, 0]⟩
def b_law_names : List S := [.asg (.n 2) (.k (.str "abcdefghijklmnopqrstuvwxyz")), .asg (.n 3) (.call "_law_pick" 0 [(.io 0), (.k (.int 3))] [] [(0, 0)] false), .asg (.n 4) (.lst []), .for (.n 5) .rng [(.v 1)] [.asg (.n 6) (.bin .add (.ix (.v 2) (.bin .fdiv (.v 5) (.k (.int 26)))) (.ix (.v 2) (.bin .mod (.v 5) (.k (.int 26))))), .ex (.mu .append 4 [(.ix (.lst [(.v 6), (.bin .add (.k (.str "abcdef")) (.v 6)), (.bin .mul (.ix (.v 2) (.bin .mod (.v 5) (.k (.int 26)))) (.bin .add (.k (.int 1)) (.bin .fdiv (.v 5) (.k (.int 26)))))]) (.v 3))])], .ret (.dn 0 (.call "_law_shuffled" 1 [(.io 0), (.v 4)] [] [(0, 0)] true))]
def f_law_names : Fd := ⟨7, 2, [0], [1], b_law_names⟩
def g_law_names : Sig := ⟨["_law_source_here", "_law_size"], [1, 0], [0], 0, []⟩
def e_law_names : Ent := ⟨f_law_names, g_law_names, ["_law_source_here", "_law_size", "_law_letters", "_law_style", "_law_found", "_law_k", "_law_tail"], [1, 0, 0, 0, 1, 0, 0]⟩
def b_law_written : List S := [.asg (.n 4) (.lst []), .for (.n 5) .rng [(.v 2)] [.asg (.n 6) (.bin .add (.k (.int 1)) (.call "_law_pick" 0 [(.io 0), (.v 3)] [] [(0, 0)] false)), .ex (.mu .append 4 [(.bi .tuple [(.bi .sorted [(.sl 0 (.call "_law_shuffled" 1 [(.io 0), (.v 1)] [] [(0, 0)] false) (.k .none) (.v 6))])])])], .ret (.mv 4)]
def f_law_written : Fd := ⟨7, 4, [0], [1], b_law_written⟩
def g_law_written : Sig := ⟨["_law_source_here", "_law_names_here", "_law_size", "_law_wide"], [1, 0, 0, 0], [0], 1, []⟩
def e_law_written : Ent := ⟨f_law_written, g_law_written, ["_law_source_here", "_law_names_here", "_law_size", "_law_wide", "_law_found", "_law_k", "_law_width"], [1, 0, 0, 0, 1, 0, 0]⟩
def b_law_logs : List S := [.asg (.n 2) (.dn 0 (.lst [(.bin .add (.k (.int 1)) (.call "_law_pick" 0 [(.io 0), (.k (.int 4))] [] [(0, 0)] false)), (.bin .add (.k (.int 1)) (.call "_law_pick" 0 [(.io 0), (.k (.int 12))] [] [(0, 0)] false)), (.k (.int 60))])), .asg (.n 3) (.call "_law_names" 0 [(.io 0), (.ix (.v 2) (.call "_law_pick" 0 [(.io 0), (.k (.int 3))] [] [(0, 0)] false))] [] [(0, 0)] false), .asg (.n 4) (.dn 0 (.lst [(.k (.int 0)), (.k (.int 1)), (.bin .add (.k (.int 1)) (.call "_law_pick" 0 [(.io 0), (.bi .min [(.v 1), (.k (.int 6))])] [] [(0, 0)] false)), (.bin .add (.k (.int 1)) (.call "_law_pick" 0 [(.io 0), (.v 1)] [] [(0, 0)] false)), (.v 1)])), .par [7, 8] [(.ix (.v 4) (.call "_law_pick" 0 [(.io 0), (.k (.int 5))] [] [(0, 0)] false)), (.ix (.v 4) (.call "_law_pick" 0 [(.io 0), (.k (.int 5))] [] [(0, 0)] false))], .asg (.n 5) (.dn 0 (.lst [(.k (.int 1)), (.k (.int 2)), (.k (.int 10))])), .asg (.n 6) (.bi .min [(.bi .len [(.v 3)]), (.ix (.v 5) (.call "_law_pick" 0 [(.io 0), (.k (.int 3))] [] [(0, 0)] false))]), .ifs (.cmp .eq (.call "_law_pick" 0 [(.io 0), (.k (.int 3))] [] [(0, 0)] false) (.k (.int 0))) [.par [9, 10] [(.sl 0 (.call "_law_shuffled" 1 [(.io 0), (.v 3)] [] [(0, 0)] false) (.k .none) (.v 7)), (.sl 0 (.call "_law_shuffled" 1 [(.io 0), (.v 3)] [] [(0, 0)] false) (.k .none) (.v 8))], .ret (.lst [(.lc (.tup [(.v 11)]) (.n 11) .seq [(.v 9)] [] [11]), (.lc (.tup [(.v 11)]) (.n 11) .seq [(.v 10)] [] [11])])] [], .ret (.lst [(.call "_law_written" 1 [(.io 0), (.v 3), (.v 7), (.v 6)] [] [(0, 0)] false), (.call "_law_written" 1 [(.io 0), (.v 3), (.v 8), (.v 6)] [] [(0, 0)] false)])]
def f_law_logs : Fd := ⟨12, 2, [0], [1], b_law_logs⟩
def g_law_logs : Sig := ⟨["_law_source_here", "_law_top"], [1, 0], [0], 2, []⟩
def e_law_logs : Ent := ⟨f_law_logs, g_law_logs, ["_law_source_here", "_law_top", "_law_counts", "_law_names_here", "_law_sizes", "_law_widths", "_law_wide", "_law_first_size", "_law_second_size", "_law_ours", "_law_theirs", "_law_name"], [1, 0, 0, 0, 0, 0, 0, 0, 0, 0, 0, 0]⟩
def b_law_same : List S := [.ifs (.isa (.v 1) [.list, .tuple]) [.ifs (.or (.not (.isa (.v 0) [.list, .tuple])) (.cmp .ne (.isa (.v 0) [.list]) (.isa (.v 1) [.list]))) [.ret (.k (.bool false))] [], .ret (.and (.cmp .eq (.bi .len [(.v 0)]) (.bi .len [(.v 1)])) (.bi .all [(.lc (.call "_law_same" 0 [(.v 2), (.v 3)] [] [] false) (.t [2, 3]) .zip [(.v 0), (.v 1)] [] [2, 3])]))] [], .ifs (.isa (.v 1) [.dict]) [.ifs (.or (.not (.isa (.v 0) [.dict])) (.not (.call "_law_same" 0 [(.dn 0 (.bi .list [(.v 0)])), (.dn 0 (.bi .list [(.v 1)]))] [] [] false))) [.ret (.k (.bool false))] [], .ret (.bi .all [(.lc (.call "_law_same" 0 [(.ix (.v 0) (.v 2)), (.ix (.v 1) (.v 2))] [] [] false) (.n 2) .dk [(.v 1)] [] [2])])] [], .ifs (.or (.cmp .isN (.v 1) (.k .none)) (.cmp .isN (.v 0) (.k .none))) [.ret (.and (.cmp .isN (.v 1) (.k .none)) (.cmp .isN (.v 0) (.k .none)))] [], .ifs (.or (.cmp .ne (.isa (.v 0) [.bool]) (.isa (.v 1) [.bool])) (.cmp .ne (.isa (.v 0) [.str]) (.isa (.v 1) [.str]))) [.ret (.k (.bool false))] [], .ret (.cmp .eq (.v 0) (.v 1))]
def f_law_same : Fd := ⟨4, 2, [], [], b_law_same⟩
def g_law_same : Sig := ⟨["_law_found", "_law_due"], [0, 0], [], 0, []⟩
def e_law_same : Ent := ⟨f_law_same, g_law_same, ["_law_found", "_law_due", "_law_one", "_law_two"], [0, 0, 0, 0]⟩
def b_law_last : List S := [.asg (.n 1) (.dct []), .for (.n 2) .rng [(.bin .sub (.bi .len [(.v 0)]) (.k (.int 1))), (.neg (.k (.int 1))), (.neg (.k (.int 1)))] [.for (.n 3) .seq [(.ix (.v 0) (.v 2))] [.ifs (.cmp .nin (.v 3) (.v 1)) [.putd 1 (.v 3) (.v 2)] []]], .ret (.bi .dict [(.lc (.tup [(.v 3), (.ix (.v 1) (.v 3))]) (.n 3) .seq [(.bi .sorted [(.v 1)])] [] [3])])]
def f_law_last : Fd := ⟨4, 1, [], [], b_law_last⟩
def g_law_last : Sig := ⟨["_law_rows"], [0], [], 1, []⟩
def e_law_last : Ent := ⟨f_law_last, g_law_last, ["_law_rows", "_law_found", "_law_place", "_law_key"], [0, 1, 0, 0]⟩
def b_law_right : List S := [.asg (.n 1) (.bi .repr [(.v 0)]), .asg (.n 2) (.dn 0 (.call "_law_last" 1 [(.v 0)] [] [] false)), .par [3, 4] [(.call "last_writes" 1 [(.v 0)] [] [] false), (.dn 0 (.call "last_writes" 1 [(.v 0)] [0] [] false))], .ifs (.or (.not (.call "_law_same" 0 [(.lo (.lst [(.v 3), (.v 4)])), (.dn 0 (.lst [(.v 2), (.v 2)]))] [] [] true)) (.cmp .ne (.bi .repr [(.v 0)]) (.v 1))) [.ret (.k (.bool false))] [], .putd 3 (.k (.str "zz")) (.k (.int 0)), .ex (.dclr 3), .ret (.call "_law_same" 0 [(.dn 0 (.lst [(.v 4), (.dn 0 (.call "last_writes" 1 [(.v 0)] [] [] false))])), (.dn 0 (.lst [(.v 2), (.v 2)]))] [] [] false)]
def f_law_right : Fd := ⟨5, 1, [], [], b_law_right⟩
def g_law_right : Sig := ⟨["_law_rows"], [0], [], 0, []⟩
def e_law_right : Ent := ⟨f_law_right, g_law_right, ["_law_rows", "_law_kept", "_law_due", "_law_found", "_law_again"], [0, 0, 0, 1, 0]⟩
def b_law_changes_right : List S := [.par [4, 5] [(.dn 0 (.call "last_writes" 1 [(.v 1)] [] [] true)), (.dn 0 (.call "_law_last" 1 [(.v 1)] [] [] true))], .for (.n 3) .rng [(.k (.int 6))] [.par [7, 8] [(.call "_law_pick" 0 [(.io 0), (.bin .add (.bi .len [(.v 1)]) (.k (.int 1)))] [] [(0, 0)] false), (.call "_law_pick" 0 [(.io 0), (.k (.int 3))] [] [(0, 0)] false)], .asg (.n 6) (.bi .tuple [(.bi .sorted [(.sl 0 (.call "_law_shuffled" 1 [(.io 0), (.v 2)] [] [(0, 0)] false) (.k .none) (.k (.int 3)))])]), .ifs (.and (.cmp .eq (.v 8) (.k (.int 0))) (.cmp .lt (.bi .len [(.v 1)]) (.k (.int 60)))) [.ex (.mu .insert 1 [(.v 7), (.v 6)])] [.ifs (.and (.cmp .eq (.v 8) (.k (.int 1))) (.cmp .ne (.v 1) (.lst []))) [.ex (.mu .pop 1 [(.bi .min [(.v 7), (.bin .sub (.bi .len [(.v 1)]) (.k (.int 1)))])])] [.ex (.mu .reverse 1 [])]], .ifs (.not (.call "_law_right" 0 [(.v 1)] [] [] true)) [.ret (.k (.bool false))] []], .ret (.call "_law_same" 0 [(.v 4), (.v 5)] [] [] false)]
def f_law_changes_right : Fd := ⟨9, 3, [0, 1], [1, 1], b_law_changes_right⟩
def g_law_changes_right : Sig := ⟨["_law_source_here", "_law_rows", "_law_names_here"], [1, 1, 0], [0, 1], 0, []⟩
def e_law_changes_right : Ent := ⟨f_law_changes_right, g_law_changes_right, ["_law_source_here", "_law_rows", "_law_names_here", "_law_turn", "_law_earlier", "_law_due", "_law_row", "_law_spot", "_law_way"], [1, 1, 0, 0, 0, 0, 0, 0, 0]⟩
def b_law : List S := [.for (.n 1) .rng [(.bi .max [(.k (.int 1)), (.bi .min [(.k (.int 3)), (.bi .len [(.v 0)])])])] [.asg (.n 2) (.call "_law_source" 1 [(.v 0), (.v 1)] [] [] false), .for (.n 3) .rng [(.k (.int 4))] [.each 4 (.call "_law_logs" 2 [(.io 2), (.ix (.lst [(.k (.int 6)), (.k (.int 60))]) (.bin .mod (.v 3) (.k (.int 2))))] [] [(0, 2)] false) [.asg (.n 5) (.bin .add (.bi .sorted [(.call "_law_last" 1 [(.v 4)] [] [] true)]) (.bin .rep (.lst [(.k (.str "abcdefgh"))]) (.bi .int [(.cmp .lt (.bi .len [(.call "_law_last" 1 [(.v 4)] [] [] true)]) (.k (.int 60)))]))), .ifs (.or (.not (.call "_law_right" 0 [(.v 4)] [] [] true)) (.not (.call "_law_changes_right" 0 [(.io 2), (.io 4), (.v 5)] [] [(0, 2), (1, 4)] false))) [.ret (.k (.bool false))] []]]], .ret (.and (.cmp .eq (.call "last_writes" 1 [(.dn 0 (.lst [(.tup [(.k (.str "x")), (.k (.str "y"))]), (.tup [(.k (.str "x"))])]))] [] [] false) (.dct [(.k (.str "x")), (.k (.int 1)), (.k (.str "y")), (.k (.int 0))])) (.cmp .eq (.call "last_writes" 1 [(.dn 0 (.lst []))] [] [] false) (.dct [])))]
def f_law : Fd := ⟨6, 1, [], [], b_law⟩
def g_law : Sig := ⟨["_law_script"], [0], [], 0, []⟩
def e_law : Ent := ⟨f_law, g_law, ["_law_script", "_law_k", "_law_source_here", "_law_turn", "_law_rows", "_law_names_here"], [0, 0, 1, 0, 1, 0]⟩
def tbl (x : Str) : Option Ent :=
  if x = "is_key" then some e_is_key else
  if x = "is_transaction" then some e_is_transaction else
  if x = "last_in" then some e_last_in else
  if x = "is_log" then some e_is_log else
  if x = "last_writes" then some e_last_writes else
  if x = "_law_source" then some e_law_source else
  if x = "_law_pick" then some e_law_pick else
  if x = "_law_shuffled" then some e_law_shuffled else
  if x = "_law_names" then some e_law_names else
  if x = "_law_written" then some e_law_written else
  if x = "_law_logs" then some e_law_logs else
  if x = "_law_same" then some e_law_same else
  if x = "_law_last" then some e_law_last else
  if x = "_law_right" then some e_law_right else
  if x = "_law_changes_right" then some e_law_changes_right else
  if x = "law" then some e_law else
  none
def gl (x : Str) : Option D :=
  if x = "LETTERS" then some (.str "abcdefghijklmnopqrstuvwxyz") else
  if x = "MOST_LETTERS" then some (.int 8) else
  if x = "MOST_KEYS" then some (.int 60) else
  if x = "MOST_TRANSACTIONS" then some (.int 60) else
  if x = "MOST_IN_TRANSACTION" then some (.int 10) else
  none
end Lw
end
section
namespace Lw
open PySem Pv
def fuel : Nat := 4000
abbrev C (n : Nat) : Str → List D → Out (D × List D) := evOf tbl gl fuel n
abbrev Fn (n : Nat) : Fns := Fo tbl gl fuel n
/-- the source of draws after at most m of them -/
def Src (m : Int) (d : D) : Prop := ∃ a b c : Int, d = .list [.int a, .int b, .int c] ∧ 0 ≤ b ∧ b < 2 ^ 200 ∧ 0 ≤ c ∧ c ≤ m
theorem Src.mono {m k : Int} {d : D} (h : Src m d) (hk : m ≤ k) : Src k d := by
  obtain ⟨a, b, c, h1, h2, h3, h4, h5⟩ := h
  exact ⟨a, b, c, h1, h2, h3, h4, Int.le_trans h5 hk⟩
theorem pick_pos {n : Nat} {a b c k : Int} (ha : 0 < a) (h0 : 0 < k) (kl : k < 2 ^ 60) : C (n + 1) "_law_pick" [.list [.int a, .int b, .int c], .int k] = .ok (.int (a % k), [.list [.int (a / k), .int b, .int c]]) := by
  unfold C
  rw [ev_succ (e := e_law_pick) (by rfl)]
  have h1 := fun i : Int => b_fdiv (i := i) (j := k) (k := 60) h0 (by omega) (by omega)
  have h2 := fun i : Int => b_mod (i := i) (j := k) h0
  simp [runFd, e_law_pick, f_law_pick, b_law_pick, evSs, evS, evE, getD, ixD, cmpD, truD, ha, asgT, h1, h2, setL, outsD]
theorem pick_e1 : binD .pow (.int 10) (.int 38) = .ok (.int (10 ^ 38)) := b_pow (k := 4) (by decide) (by decide) (by decide)
theorem pick_e2 : binD .pow (.int 10) (.int 37) = .ok (.int (10 ^ 37)) := b_pow (k := 4) (by decide) (by decide) (by decide)
theorem pick_neg {n : Nat} {a b c k P Q x1 x2 : Int} (ha : ¬ 0 < a) (h0 : 0 < k) (e1 : binD .pow (.int 10) (.int 38) = .ok (.int P)) (e2 : binD .pow (.int 10) (.int 37) = .ok (.int Q)) (hP : 0 < P + 133) (hQ : 0 < Q + 43)
    (p1 : binD .pow (.int (b + 49979687 * (c + 1))) (.int 3) = .ok (.int x1)) (p2 : binD .pow (.int (x1 % (P + 133) + 32452843 * (c + 1))) (.int 3) = .ok (.int x2)) :
    C (n + 1) "_law_pick" [.list [.int a, .int b, .int c], .int k] = .ok (.int (x2 % (Q + 43) / 131071 % k), [.list [.int a, .int b, .int (c + 1)]]) := by
  unfold C
  rw [ev_succ (e := e_law_pick) (by rfl)]
  have h2 := fun i : Int => b_mod (i := i) (j := k) h0
  have h3 := fun i : Int => b_mod (i := i) hP
  have h4 := fun i : Int => b_mod (i := i) hQ
  have h5 := fun j : Int => b_mul (i := 49979687) (j := j) (k := 26) (by omega) (by omega)
  have h6 := fun j : Int => b_mul (i := 32452843) (j := j) (k := 26) (by omega) (by omega)
  have h7 := fun i : Int => b_fdiv (i := i) (j := 131071) (k := 17) (by omega) (by omega) (by omega)
  simp [runFd, e_law_pick, f_law_pick, b_law_pick, evSs, evS, evE, getD, ixD, cmpD, truD, ha, asgT, setL, outsD, b_add, p1, p2, e1, e2, h2, h3, h4, h5, h6, h7]
theorem pick_ok {n : Nat} {m : Int} {src : D} {k : Int} (hs : Src m src) (hm : m ≤ 2 ^ 60) (h0 : 0 < k) (h1 : k < 2 ^ 60) : ∃ i src', C (n + 1) "_law_pick" [src, .int k] = .ok (.int i, [src']) ∧ 0 ≤ i ∧ i < k ∧ Src (m + 1) src' := by
  obtain ⟨a, b, c, rfl, b0, b1, c0, c1⟩ := hs
  by_cases ha : 0 < a
  · exact ⟨_, _, pick_pos ha h0 h1, Int.emod_nonneg _ (by omega), Int.emod_lt_of_pos _ h0, a / k, b, c, rfl, b0, b1, c0, by omega⟩
  · have q0 := Int.emod_nonneg ((b + 49979687 * (c + 1)) ^ (3 : Int).toNat) (b := 10 ^ 38 + 133) (by decide +kernel)
    have q1 := Int.emod_lt_of_pos ((b + 49979687 * (c + 1)) ^ (3 : Int).toNat) (b := 10 ^ 38 + 133) (by decide +kernel)
    exact ⟨_, _, pick_neg ha h0 pick_e1 pick_e2 (by decide +kernel) (by decide +kernel) (b_pow (k := 300) (by omega) (by omega) (by omega)) (b_pow (k := 300) (by omega) (by omega) (by omega)), Int.emod_nonneg _ (by omega), Int.emod_lt_of_pos _ h0, a, b, c + 1, rfl, b0, b1, by omega, by omega⟩
end Lw
end
section
namespace Lw
open PySem Pv
theorem source_gen {F : Fns} {ns : List Int} {k c P P2 : Int} (e1 : binD .pow (.int 10) (.int 18) = .ok (.int P)) (e2 : binD .pow (.int 10) (.int 36) = .ok (.int P2)) (hP : 0 < P2 + 67) (h : evE F (.ite (.cmp .lt (.v 1) (.bi .len [(.v 0)])) (.ix (.v 0) (.v 1)) (.k (.int 0))) [some (.list (ns.map .int)), some (.int k), none] = .ok (.int c, [some (.list (ns.map .int)), some (.int k), none])) :
    ∃ a : Int, runFd F fuel f_law_source [.list (ns.map .int), .int k] = .ok (.list [.int a, .int ((if c < 0 then -c else c) % (P2 + 67) * 128 + k + 5), .int 0], []) := by
  have h3 := fun i : Int => b_mod (i := i) hP
  have h4 := fun i : Int => b_mulR (i := i) (j := 128) (k := 8) (by omega) (by omega)
  refine ⟨if 0 < (if c < 0 then -c else c) - P then (if c < 0 then -c else c) - P else 0, ?_⟩
  refine run_out (r := [some (.list (ns.map .int)), some (.int k), some (.int c)]) rfl (ss_nx (s_asg h rfl) (ss_retP (s_ret ?_))) rfl rfl
  simp [evE, evL, biD, b_add, b_sub, e1, e2, h3, h4]
theorem source_ok {n : Nat} {ns : List Int} {k : Nat} (hk : k < 100) : ∃ src, C (n + 1) "_law_source" [.list (ns.map .int), .int k] = .ok (src, []) ∧ Src 0 src := by
  unfold C
  rw [ev_succ (e := e_law_source) (by rfl)]
  have cell : ∃ c, evE (Fo tbl gl fuel n) (.ite (.cmp .lt (.v 1) (.bi .len [(.v 0)])) (.ix (.v 0) (.v 1)) (.k (.int 0))) [some (.list (ns.map .int)), some (.int k), none] = .ok (.int c, [some (.list (ns.map .int)), some (.int k), none]) := by
    by_cases h : k < ns.length
    · refine ⟨ns[k], ?_⟩
      simp [evE, evL, biD, lenD, cmpD, truD, h, getD, ixD]
    · refine ⟨0, ?_⟩
      simp [evE, evL, biD, lenD, cmpD, truD, h]
  obtain ⟨c, hc⟩ := cell
  obtain ⟨a, ha⟩ := source_gen (b_pow (k := 4) (by decide) (by decide) (by decide)) (b_pow (k := 4) (by decide) (by decide) (by decide)) (by decide +kernel) hc
  have q0 := Int.emod_nonneg (if c < 0 then -c else c) (b := 10 ^ (36 : Int).toNat + 67) (by decide +kernel)
  have q1 := Int.emod_lt_of_pos (if c < 0 then -c else c) (b := 10 ^ (36 : Int).toNat + 67) (by decide +kernel)
  have q2 : (10 : Int) ^ (36 : Int).toNat + 67 < 2 ^ 180 := by decide +kernel
  exact ⟨_, ha, _, _, _, rfl, by omega, by omega, by omega, by omega⟩
/-- one draw of a list -/
theorem pop_ok {left : List D} {i : Int} (h0 : 0 ≤ i) (h1 : i < left.length) (hl : left.length < 2 ^ 20) : ∃ d, left[i.toNat]? = some d ∧ muD .pop (.list left) [.int i] = .ok (d, .list (left.eraseIdx i.toNat)) := by
  have hi : i.toNat < left.length := by omega
  refine ⟨left[i.toNat], List.getElem?_eq_getElem hi, ?_⟩
  have s : small i = true := decide_eq_true (by omega)
  simp only [muD, s, if_true, ixD, h0, h1, List.getElem?_eq_getElem hi]
theorem shuf_fold {n : Nat} {xs : List D} : ∀ (items left acc : List D) (m : Int) (src : D) (o3 : Option D), items.length = left.length → Src m src → m + left.length ≤ 2 ^ 59 → left.length < 2 ^ 20 →
    ∃ src' ys o3', foldO (fun d (a : List D × Pv.Env) => (asgT (.n 3) d (wipeE a.2 [3])).bind fun r1 => (evIfs (Fn (n + 1)) [] r1).bind fun b => if b.1 then (evE (Fn (n + 1)) (.mu .pop 2 [(.call "_law_pick" 0 [(.io 0), (.bi .len [(.v 2)])] [] [(0, 0)] false)]) b.2).bind fun y => .ok (a.1 ++ [y.1], y.2) else .ok (a.1, b.2)) items (acc, [some src, some (.list xs), some (.list left), o3]) = .ok (acc ++ ys, [some src', some (.list xs), some (.list []), o3']) ∧ ys.Perm left ∧ Src (m + left.length) src'
  | [], left, acc, m, src, o3, hl, hs, hm, hb => by
    have : left = [] := List.eq_nil_of_length_eq_zero hl.symm
    subst this
    exact ⟨src, [], o3, by simp, .nil, by simpa using hs⟩
  | d :: items, left, acc, m, src, o3, hl, hs, hm, hb => by
    have hpos : 0 < left.length := by rw [← hl]; simp
    obtain ⟨i, src1, e1, i0, i1, s1⟩ := pick_ok (n := n) (k := (left.length : Nat)) hs (by omega) (by omega) (by omega)
    obtain ⟨x, ex, e2⟩ := pop_ok i0 i1 hb
    have hi : i.toNat < left.length := by omega
    have he : (left.eraseIdx i.toNat).length = left.length - 1 := List.length_eraseIdx_of_lt hi
    obtain ⟨src2, ys, o4, f1, f2, f3⟩ := shuf_fold (n := n) (xs := xs) items (left.eraseIdx i.toNat) (acc ++ [x]) (m + 1) src1 (some d) (by rw [he]; simp at hl; omega) s1 (by omega) (by omega)
    refine ⟨src2, x :: ys, o4, ?_, ?_, by rw [he] at f3; exact f3.mono (by omega)⟩
    · simp only [foldO_cons]
      have step : ((asgT (.n 3) d (wipeE [some src, some (.list xs), some (.list left), o3] [3])).bind fun r1 => (evIfs (Fn (n + 1)) [] r1).bind fun b => if b.1 then (evE (Fn (n + 1)) (.mu .pop 2 [(.call "_law_pick" 0 [(.io 0), (.bi .len [(.v 2)])] [] [(0, 0)] false)]) b.2).bind fun y => .ok (acc ++ [y.1], y.2) else .ok (acc, b.2)) = (.ok (acc ++ [x], [some src1, some (.list xs), some (.list (left.eraseIdx i.toNat)), some d]) : Out (List D × Pv.Env)) := by
        simp [asgT, wipeE, evIfs, evE, evL, isListD, biD, lenD, hasIo, permD, fillIo, backIo, e1, e2]
      rw [step]
      simp only [Out.bind_ok]
      rw [f1]
      simp
    · obtain ⟨hh, ee⟩ := List.getElem?_eq_some_iff.mp ex
      have : (x :: left.eraseIdx i.toNat).Perm left := by
        rw [← ee]
        exact cons_erase _ _ hh
      exact (List.Perm.cons x f2).trans this
theorem shuffled_ok {n : Nat} {xs : List D} {m : Int} {src : D} (hs : Src m src) (hm : m ≤ 2 ^ 58) (hl : xs.length < 2 ^ 20) : ∃ ys src', C (n + 2) "_law_shuffled" [src, .list xs] = .ok (.list ys, [src']) ∧ ys.Perm xs ∧ Src (m + xs.length) src' := by
  unfold C
  rw [ev_succ (e := e_law_shuffled) (by rfl)]
  have hi : itD .rng [.int (xs.length : Nat)] = .ok ((List.range xs.length).map fun k => .int (k : Nat)) := by
    have s1 : small 0 = true := by decide
    have s2 : small (xs.length : Nat) = true := decide_eq_true (by omega)
    simp [itD, rngL, s1, s2]
  obtain ⟨src', ys, o3, f1, f2, f3⟩ := shuf_fold (n := n) (xs := xs) ((List.range xs.length).map fun k => .int (k : Nat)) xs [] m src none (by simp) hs (by omega) hl
  refine ⟨ys, src', ?_, f2, f3⟩
  have hf : fits xs.length = true := decide_eq_true (by rw [sizeLine_eq]; omega)
  have hil : evL (Fn (n + 1)) [.bi .len [(.v 1)]] [some src, some (.list xs), some (.list xs), none] = .ok ([.int (xs.length : Nat)], [some src, some (.list xs), some (.list xs), none]) := by simp [evL, evE, biD, lenD]
  have hlc : evE (Fn (n + 1)) (.lc (.mu .pop 2 [(.call "_law_pick" 0 [(.io 0), (.bi .len [(.v 2)])] [] [(0, 0)] false)]) (.n 3) .rng [(.bi .len [(.v 1)])] [] [3]) [some src, some (.list xs), some (.list xs), none] = .ok (.list ys, [some src', some (.list xs), some (.list []), none]) := by
    simp only [evE, hil, Out.bind_ok, hi, List.length_map, List.length_range, hf, Out.when_true]
    rw [show wipeE [some src, some (.list xs), some (.list xs), none] [3] = [some src, some (.list xs), some (.list xs), none] from rfl]
    simp only [evE] at f1
    rw [f1]
    simp [backE]
  have h1 : evE (Fn (n + 1)) (.bi .list [(.v 1)]) [some src, some (.list xs), none, none] = .ok (.list xs, [some src, some (.list xs), none, none]) := by simp [evE, evL, biD]
  exact run_out rfl (ss_nx (s_asg h1 rfl) (ss_retP (s_ret hlc))) rfl rfl
end Lw
end
section
namespace Lw
open PySem Pv
abbrev letters : Str := "abcdefghijklmnopqrstuvwxyz"
def ch (j : Nat) : Str := ⟨#[97 + j]⟩
def tl (k : Nat) : Str := ch (k / 26) ++ ch (k % 26)
/-- the k-th name of a style -/
def nmS : Nat → Nat → Str
  | 0, k => tl k
  | 1, k => "abcdef" ++ tl k
  | 2, k => ⟨(List.replicate (1 + k / 26) (ch (k % 26)).cps.toList).flatten.toArray⟩
  | _, k => ⟨(("pqrst" : Str).cps.toList.take (2 + k % 4)).toArray⟩ ++ tl k
theorem letter_nat : ∀ (j : Nat), j < 26 → getD (.str letters) (.int j) = .ok (.str (ch j))
  | 0, _ => rfl
  | 1, _ => rfl
  | 2, _ => rfl
  | 3, _ => rfl
  | 4, _ => rfl
  | 5, _ => rfl
  | 6, _ => rfl
  | 7, _ => rfl
  | 8, _ => rfl
  | 9, _ => rfl
  | 10, _ => rfl
  | 11, _ => rfl
  | 12, _ => rfl
  | 13, _ => rfl
  | 14, _ => rfl
  | 15, _ => rfl
  | 16, _ => rfl
  | 17, _ => rfl
  | 18, _ => rfl
  | 19, _ => rfl
  | 20, _ => rfl
  | 21, _ => rfl
  | 22, _ => rfl
  | 23, _ => rfl
  | 24, _ => rfl
  | 25, _ => rfl
  | n + 26, h => absurd h (by omega)
theorem letter_at {j : Int} (h0 : 0 ≤ j) (h1 : j < 26) : getD (.str letters) (.int j) = .ok (.str (ch j.toNat)) := by
  have := letter_nat j.toNat (by omega)
  rwa [Int.toNat_of_nonneg h0] at this
theorem add_str {x y : Str} (h : x.length + y.length ≤ 1000) : binD .add (.str x) (.str y) = .ok (.str (x ++ y)) := by
  show Out.when _ _ = _
  rw [show fits (x.length + y.length) = true from decide_eq_true (by rw [sizeLine_eq]; omega)]
  rfl
theorem ch_len (j : Nat) : (ch j).length = 1 := rfl
theorem tl_len (k : Nat) : (tl k).length = 2 := by
  unfold tl
  rw [strLen_append]
  rfl
theorem mul_ch {k : Nat} (h : k < 60) : binD .mul (.str (ch (k % 26))) (.int ((1 + k / 26 : Nat) : Int)) = .ok (.str (nmS 2 k)) := by
  show Out.when _ _ = _
  have h1 : small ((1 + k / 26 : Nat) : Int) = true := decide_eq_true (by omega)
  have h2 : fits ((ch (k % 26)).length * (((1 + k / 26 : Nat) : Int)).toNat) = true := decide_eq_true (by rw [ch_len, sizeLine_eq]; omega)
  rw [h1, h2]
  rfl
theorem cut_p : ∀ (j : Nat), j < 4 → sliceD (.str ("pqrst" : Str)) none (some ((2 + j : Nat) : Int)) = .ok (.str ⟨(("pqrst" : Str).cps.toList.take (2 + j)).toArray⟩)
  | 0, _ => rfl
  | 1, _ => rfl
  | 2, _ => rfl
  | 3, _ => rfl
  | n + 4, h => absurd h (by omega)
/-- the loop's body -/
theorem names_step {F : Fns} {k st : Nat} {src s : D} {acc : List D} {o6 : Option D} (hk : k < 60) (hs : st < 3) (ha : acc.length ≤ 100) :
    evSs F fuel [.asg (.n 6) (.bin .add (.ix (.v 2) (.bin .fdiv (.v 5) (.k (.int 26)))) (.ix (.v 2) (.bin .mod (.v 5) (.k (.int 26))))), .ex (.mu .append 4 [(.ix (.lst [(.v 6), (.bin .add (.k (.str "abcdef")) (.v 6)), (.bin .mul (.ix (.v 2) (.bin .mod (.v 5) (.k (.int 26)))) (.bin .add (.k (.int 1)) (.bin .fdiv (.v 5) (.k (.int 26)))))]) (.v 3))])] [some src, some s, some (.str letters), some (.int st), some (.list acc), some (.int k), o6] = .ok (.nx, [some src, some s, some (.str letters), some (.int st), some (.list (acc ++ [.str (nmS st k)])), some (.int k), some (.str (tl k))]) := by
  have f1 : binD .fdiv (.int (k : Int)) (.int 26) = .ok (.int ((k / 26 : Nat) : Int)) := b_fdiv (k := 5) (by omega) (by omega) (by omega)
  have m1 : binD .mod (.int (k : Int)) (.int 26) = .ok (.int ((k % 26 : Nat) : Int)) := b_mod (by omega)
  have g1 := letter_nat (k / 26) (by omega)
  have g2 := letter_nat (k % 26) (by omega)
  have a1 : binD .add (.str (ch (k / 26))) (.str (ch (k % 26))) = .ok (.str (tl k)) := add_str (by rw [ch_len, ch_len]; omega)
  have a2 : binD .add (.str "abcdef") (.str (tl k)) = .ok (.str (nmS 1 k)) := add_str (by rw [tl_len]; decide)
  have a3 : binD .add (.int 1) (.int ((k / 26 : Nat) : Int)) = .ok (.int ((1 + k / 26 : Nat) : Int)) := by rw [b_add]; simp
  have u1 := mul_ch hk
  have e6 : evE F (.bin .add (.ix (.v 2) (.bin .fdiv (.v 5) (.k (.int 26)))) (.ix (.v 2) (.bin .mod (.v 5) (.k (.int 26))))) [some src, some s, some (.str letters), some (.int st), some (.list acc), some (.int k), o6] = .ok (.str (tl k), [some src, some s, some (.str letters), some (.int st), some (.list acc), some (.int k), o6]) := by
    simp only [evE, List.getElem?_cons_succ, List.getElem?_cons_zero, Out.bind_ok, f1, m1, g1, g2, a1]
  have e7 : evE F (.lst [(.v 6), (.bin .add (.k (.str "abcdef")) (.v 6)), (.bin .mul (.ix (.v 2) (.bin .mod (.v 5) (.k (.int 26)))) (.bin .add (.k (.int 1)) (.bin .fdiv (.v 5) (.k (.int 26)))))]) [some src, some s, some (.str letters), some (.int st), some (.list acc), some (.int k), some (.str (tl k))] = .ok (.list [.str (nmS 0 k), .str (nmS 1 k), .str (nmS 2 k)], [some src, some s, some (.str letters), some (.int st), some (.list acc), some (.int k), some (.str (tl k))]) := by
    simp only [evE, evL, List.getElem?_cons_succ, List.getElem?_cons_zero, Out.bind_ok, f1, m1, g1, g2, a1, a2, a3, u1]
    rfl
  have g7 : getD (.list [.str (nmS 0 k), .str (nmS 1 k), .str (nmS 2 k)]) (.int (st : Int)) = .ok (.str (nmS st k)) := by
    match st, hs with
    | 0, _ => rfl
    | 1, _ => rfl
    | 2, _ => rfl
    | n + 3, h => exact absurd h (by omega)
  exact ss_nx (s_asg e6 rfl) (ss_nx (s_ex (e_app rfl (e_ix e7 rfl g7) rfl (by omega))) ss_nilP)
end Lw
end
section
namespace Lw
open PySem Pv
theorem src_imm {m : Int} {d : D} (h : Src m d) : immAt 1 d = true := by
  obtain ⟨a, b, c, rfl, _⟩ := h
  rfl
theorem strs_imm {xs : List Str} {ys : List D} (h : ys.Perm (xs.map .str)) : immAt 1 (.list ys) = true := by
  show ys.all (immAt 0) = true
  rw [List.all_eq_true]
  intro y hy
  obtain ⟨x, _, rfl⟩ := List.mem_map.mp (h.mem_iff.mp hy)
  rfl
def nmL (st s : Nat) : List Str := (List.range s).map (nmS st)
theorem names_loop {F : Fns} {st s : Nat} {src sd : D} {o5 o6 : Option D} (hs : s ≤ 60) (hst : st < 3) :
    ∃ p5 p6, forO (.n 5) (evSs F fuel [.asg (.n 6) (.bin .add (.ix (.v 2) (.bin .fdiv (.v 5) (.k (.int 26)))) (.ix (.v 2) (.bin .mod (.v 5) (.k (.int 26))))), .ex (.mu .append 4 [(.ix (.lst [(.v 6), (.bin .add (.k (.str "abcdef")) (.v 6)), (.bin .mul (.ix (.v 2) (.bin .mod (.v 5) (.k (.int 26)))) (.bin .add (.k (.int 1)) (.bin .fdiv (.v 5) (.k (.int 26)))))]) (.v 3))])]) ((List.range s).map fun k => .int (k : Nat)) [some src, some sd, some (.str letters), some (.int st), some (.list []), o5, o6] =
      .ok (.nx, [some src, some sd, some (.str letters), some (.int st), some (.list ((nmL st s).map .str)), p5, p6]) := by
  obtain ⟨r', h1, p5, p6, h2⟩ := for_inv (tg := .n 5) (body := evSs F fuel _) (fun j r => ∃ p5 p6, r = [some src, some sd, some (.str letters), some (.int st), some (.list ((nmL st j).map .str)), p5, p6]) ((List.range s).map fun k => .int (k : Nat)) 0 [some src, some sd, some (.str letters), some (.int st), some (.list []), o5, o6] (fun j d r e ⟨p5, p6, hr⟩ => by
    have hj : j < s := by
      have := (List.getElem?_eq_some_iff.mp e).1
      simpa using this
    rw [List.getElem?_map, List.getElem?_range hj] at e
    simp at e
    subst e hr
    refine ⟨_, _, rfl, names_step (k := j) (by omega) hst ?_, some (.int j), some (.str (tl j)), ?_⟩
    · simp [nmL]
      omega
    · have : nmL st (0 + j + 1) = nmL st (0 + j) ++ [nmS st j] := by
        simp [nmL, List.range_succ]
      rw [this, List.map_append]
      rfl) ⟨o5, o6, rfl⟩
  refine ⟨p5, p6, ?_⟩
  rw [h1, h2]
  simp
theorem names_ok {n s : Nat} {m : Int} {src : D} (hs : Src m src) (hm : m ≤ 2 ^ 57) (h1 : s ≤ 60) : ∃ st ys src', C (n + 3) "_law_names" [src, .int (s : Nat)] = .ok (.list ys, [src']) ∧ st < 4 ∧ ys.Perm ((nmL st s).map .str) ∧ Src (m + 1 + s) src' := by
  unfold C
  rw [ev_succ (e := e_law_names) (by rfl)]
  obtain ⟨i, src1, e1, i0, i1, s1⟩ := pick_ok (n := n + 1) (k := 3) hs (by omega) (by omega) (by omega)
  obtain ⟨st, rfl⟩ : ∃ st : Nat, i = st := ⟨i.toNat, by omega⟩
  obtain ⟨p5, p6, lp⟩ := names_loop (F := Fn (n + 2)) (st := st) (s := s) (src := src1) (sd := .int (s : Nat)) (o5 := none) (o6 := none) h1 (by omega)
  have hlen : ((nmL st s).map PyData.str).length = s := by simp [nmL]
  obtain ⟨ys, src2, e2, hp, s2⟩ := shuffled_ok (n := n) (xs := (nmL st s).map .str) s1 (by omega) (by rw [hlen]; omega)
  rw [hlen] at s2
  refine ⟨st, ys, src2, ?_, by omega, hp, s2⟩
  have c1 : evE (Fn (n + 2)) (.call "_law_pick" 0 [(.io 0), (.k (.int 3))] [] [(0, 0)] false) [some src, some (.int (s : Nat)), some (.str letters), none, none, none, none] = .ok (.int st, [some src1, some (.int (s : Nat)), some (.str letters), none, none, none, none]) := e_call (xs := [.none, .int 3]) rfl rfl rfl e1 rfl rfl
  have c2 : evE (Fn (n + 2)) (.call "_law_shuffled" 1 [(.io 0), (.v 4)] [] [(0, 0)] true) [some src1, some (.int (s : Nat)), some (.str letters), some (.int st), some (.list ((nmL st s).map .str)), p5, p6] = .ok (.list ys, [some src2, some (.int (s : Nat)), some (.str letters), some (.int st), some (.list ((nmL st s).map .str)), p5, p6]) :=
    e_call (xs := [.none, .list ((nmL st s).map .str)]) rfl rfl rfl e2 (by
      show (false || (immAt 1 (.list ys) && (immAt 1 src2 && true))) = true
      rw [strs_imm hp, src_imm s2]
      rfl) rfl
  exact run_out rfl (ss_nx (s_asg rfl rfl) (ss_nx (s_asg c1 rfl) (ss_nx (s_asg rfl rfl) (ss_nx (s_for rfl (rng_ok (by omega)) lp) (ss_retP (s_ret (e_dn c2))))))) rfl rfl
end Lw
end
section
namespace Lw
open PySem Pv
/-- a row of a list of transactions over the names nm -/
def Row (nm : List Str) (d : D) : Prop := ∃ xs : List Str, d = .tuple (xs.map .str) ∧ adj xs = true ∧ 1 ≤ xs.length ∧ xs.length ≤ 10 ∧ ∀ x ∈ xs, x ∈ nm
theorem row_of {nm ws : List Str} {w : Nat} (hn : nm.Nodup) (hp : ws.Perm nm) (h0 : 1 ≤ w) (h1 : w ≤ 10) (h2 : 1 ≤ nm.length) : biD .sorted [.list ((ws.map PyData.str).take w)] = .ok (.list (((ws.take w).mergeSort leS).map .str)) ∧ Row nm (.tuple (((ws.take w).mergeSort leS).map .str)) := by
  have e : (ws.map PyData.str).take w = (ws.take w).map .str := by rw [List.map_take]
  refine ⟨?_, (ws.take w).mergeSort leS, rfl, ?_, ?_, ?_, fun x hx => ?_⟩
  · rw [e]
    show Out.when _ _ = _
    rw [sortOk_strs, sort_strs]
    rfl
  · exact sort_adj ((List.take_sublist w ws).nodup (hp.nodup_iff.mpr hn))
  · rw [List.length_mergeSort, List.length_take, hp.length_eq]
    omega
  · rw [List.length_mergeSort, List.length_take]
    omega
  · exact hp.mem_iff.mp (List.mem_of_mem_take ((List.mergeSort_perm _ _).mem_iff.mp hx))
theorem written_step {n k : Nat} {nm : List Str} {ys acc : List D} {wide : Nat} {m : Int} {src size : D} {o6 : Option D} (hs : Src m src) (hm : m ≤ 2 ^ 50) (hn : nm.Nodup) (hp : ys.Perm (nm.map .str)) (hl : nm.length ≤ 100) (h0 : 1 ≤ wide) (h1 : wide ≤ 10) (h2 : 1 ≤ nm.length) (ha : acc.length ≤ 1000) :
    ∃ row src' p6, evSs (Fn (n + 2)) fuel [.asg (.n 6) (.bin .add (.k (.int 1)) (.call "_law_pick" 0 [(.io 0), (.v 3)] [] [(0, 0)] false)), .ex (.mu .append 4 [(.bi .tuple [(.bi .sorted [(.sl 0 (.call "_law_shuffled" 1 [(.io 0), (.v 1)] [] [(0, 0)] false) (.k .none) (.v 6))])])])]
      [some src, some (.list ys), some size, some (.int (wide : Nat)), some (.list acc), some (.int (k : Nat)), o6] = .ok (.nx, [some src', some (.list ys), some size, some (.int (wide : Nat)), some (.list (acc ++ [row])), some (.int (k : Nat)), p6]) ∧ Row nm row ∧ Src (m + 1 + nm.length) src' := by
  obtain ⟨i, src1, e1, i0, i1, s1⟩ := pick_ok (n := n + 1) (k := (wide : Nat)) hs (by omega) (by omega) (by omega)
  obtain ⟨w, rfl⟩ : ∃ w : Nat, i = w := ⟨i.toNat, by omega⟩
  have hy : ys.length = nm.length := by rw [hp.length_eq, List.length_map]
  obtain ⟨zs, src2, e2, hz, s2⟩ := shuffled_ok (n := n) (xs := ys) s1 (by omega) (by omega)
  obtain ⟨ws, rfl, hw⟩ := strs_of_perm (hz.trans hp)
  obtain ⟨r1, r2⟩ := row_of (w := w + 1) hn hw (by omega) (by omega) h2
  refine ⟨_, src2, some (.int ((w + 1 : Nat) : Int)), ?_, r2, by rw [hy] at s2; exact s2⟩
  have c1 : evE (Fn (n + 2)) (.call "_law_pick" 0 [(.io 0), (.v 3)] [] [(0, 0)] false) [some src, some (.list ys), some size, some (.int (wide : Nat)), some (.list acc), some (.int (k : Nat)), o6] = .ok (.int (w : Nat), [some src1, some (.list ys), some size, some (.int (wide : Nat)), some (.list acc), some (.int (k : Nat)), o6]) := e_call (xs := [.none, .int (wide : Nat)]) rfl rfl rfl e1 rfl rfl
  have b1 : binD .add (.int 1) (.int (w : Nat)) = .ok (.int ((w + 1 : Nat) : Int)) := by
    rw [b_add]
    have : (1 : Int) + (w : Nat) = ((w + 1 : Nat) : Int) := by omega
    rw [this]
  have c2 : evE (Fn (n + 2)) (.call "_law_shuffled" 1 [(.io 0), (.v 1)] [] [(0, 0)] false) [some src1, some (.list ys), some size, some (.int (wide : Nat)), some (.list acc), some (.int (k : Nat)), some (.int ((w + 1 : Nat) : Int))] = .ok (.list (ws.map .str), [some src2, some (.list ys), some size, some (.int (wide : Nat)), some (.list acc), some (.int (k : Nat)), some (.int ((w + 1 : Nat) : Int))]) := e_call (xs := [.none, .list ys]) rfl rfl rfl e2 rfl rfl
  have sl : sliceD (.list (ws.map .str)) none (some ((w + 1 : Nat) : Int)) = .ok (.list ((ws.map PyData.str).take (w + 1))) := by
    show Out.ok (PyData.list (cutL _ _ _)) = _
    rw [cut_hi]
  exact ss_nx (s_asg (e_bin rfl c1 b1) rfl) (ss_nx (s_ex (e_app rfl (e_bi1 (e_bi1 (e_hi c2 rfl rfl sl) r1) rfl) rfl (by omega))) ss_nilP)
theorem written_ok {n size wide : Nat} {nm : List Str} {ys : List D} {m : Int} {src : D} (hs : Src m src) (hm : m ≤ 2 ^ 49) (hn : nm.Nodup) (hp : ys.Perm (nm.map .str)) (hl : nm.length ≤ 60) (h0 : 1 ≤ wide) (h1 : wide ≤ 10) (h2 : 1 ≤ nm.length) (h3 : size ≤ 60) :
    ∃ rows src', C (n + 3) "_law_written" [src, .list ys, .int (size : Nat), .int (wide : Nat)] = .ok (.list rows, [src']) ∧ rows.length = size ∧ (∀ r ∈ rows, Row nm r) ∧ Src (m + 61 * size) src' := by
  unfold C
  rw [ev_succ (e := e_law_written) (by rfl)]
  obtain ⟨r', f1, rows, src', o5, o6, f2, f3, f4, f5⟩ := for_inv (tg := .n 5) (body := evSs (Fn (n + 2)) fuel [.asg (.n 6) (.bin .add (.k (.int 1)) (.call "_law_pick" 0 [(.io 0), (.v 3)] [] [(0, 0)] false)), .ex (.mu .append 4 [(.bi .tuple [(.bi .sorted [(.sl 0 (.call "_law_shuffled" 1 [(.io 0), (.v 1)] [] [(0, 0)] false) (.k .none) (.v 6))])])])])
    (fun j r => ∃ rows src' o5 o6, r = [some src', some (.list ys), some (.int (size : Nat)), some (.int (wide : Nat)), some (.list rows), o5, o6] ∧ rows.length = j ∧ (∀ r ∈ rows, Row nm r) ∧ Src (m + 61 * j) src') ((List.range size).map fun k => .int (k : Nat)) 0 [some src, some (.list ys), some (.int (size : Nat)), some (.int (wide : Nat)), some (.list []), none, none] (fun j d r e ⟨rows, src', o5, o6, g1, g2, g3, g4⟩ => by
      have hj : j < size := by
        have := (List.getElem?_eq_some_iff.mp e).1
        simpa using this
      rw [List.getElem?_map, List.getElem?_range hj] at e
      simp at e
      subst e g1
      obtain ⟨row, src2, p6, q1, q2, q3⟩ := written_step (n := n) (k := j) (size := .int (size : Nat)) (o6 := o6) (acc := rows) g4 (by omega) hn hp (by omega) h0 h1 h2 (by omega)
      refine ⟨_, _, rfl, q1, rows ++ [row], src2, _, _, rfl, by simp [g2], fun r hr => ?_, q3.mono (by omega)⟩
      rcases List.mem_append.mp hr with hr | hr
      · exact g3 r hr
      · rw [List.mem_singleton.mp hr]
        exact q2) ⟨[], src, none, none, rfl, rfl, by simp, by simpa using hs⟩
  subst f2
  have hz : (0 + ((List.range size).map fun k => PyData.int (k : Nat)).length) = size := by simp
  rw [hz] at f3 f5
  exact ⟨rows, src', run_out rfl (ss_nx (s_asg rfl rfl) (ss_nx (s_for rfl (rng_ok (by omega)) f1) (ss_retP (s_ret rfl)))) rfl rfl, f3, f4, f5⟩
end Lw
end
section
namespace Lw
open PySem Pv
theorem pk {n : Nat} {r : Pv.Env} {src : D} {e : E} {k : Nat} {m : Int} (hs : Src m src) (h0 : r[0]? = some (some src)) (he : evE (Fn (n + 1)) e r = .ok (.int (k : Nat), r)) (hm : m ≤ 2 ^ 60) (hk : 0 < k) (hk2 : k < 2 ^ 50) :
    ∃ i src', i < k ∧ Src (m + 1) src' ∧ evE (Fn (n + 1)) (.call "_law_pick" 0 [(.io 0), e] [] [(0, 0)] false) r = .ok (.int (i : Nat), r.set 0 (some src')) := by
  obtain ⟨i, src1, e1, i0, i1, s1⟩ := pick_ok (n := n) (k := (k : Nat)) hs hm (by omega) (by omega)
  obtain ⟨w, rfl⟩ : ∃ w : Nat, i = w := ⟨i.toNat, by omega⟩
  refine ⟨w, src1, by omega, s1, ?_⟩
  have hio : evE (Fn (n + 1)) (.io 0) r = .ok (.none, r) := by simp only [evE, h0]
  refine e_call (xs := [.none, .int (k : Nat)]) (ys := [src, .int (k : Nat)]) (outs := [src1]) (l_cons hio (l_cons he l_nil)) ?_ ?_ e1 rfl rfl
  · unfold hasIo
    simp only [List.all_cons, h0, List.all_nil, Bool.and_true]
  · simp only [fillIo, h0]
    rfl
/-- a list of numbers -/
def nl (l : List Nat) : D := .list (l.map fun x => .int (x : Nat))
theorem get_nl {l : List Nat} {j : Nat} (h : j < l.length) : ∃ x ∈ l, getD (nl l) (.int (j : Nat)) = .ok (.int (x : Nat)) := by
  refine ⟨l[j], List.getElem_mem h, ?_⟩
  have h2 : (l.map fun x => PyData.int (x : Nat))[j]? = some (.int (l[j] : Nat)) := by
    rw [List.getElem?_map, List.getElem?_eq_getElem h]
    rfl
  simp only [nl, getD, ixD, List.length_map]
  rw [if_pos (by omega), if_pos (by omega)]
  simp only [Int.toNat_natCast, Option.bind_some, h2]
theorem add1 (i : Nat) : binD .add (.int 1) (.int (i : Nat)) = .ok (.int ((i + 1 : Nat) : Int)) := by
  rw [b_add]
  have : (1 : Int) + (i : Nat) = ((i + 1 : Nat) : Int) := by omega
  rw [this]
theorem minN (i j : Nat) : biD .min [.int (i : Nat), .int (j : Nat)] = .ok (.int ((min i j : Nat) : Int)) := by
  show Out.ok (PyData.int (if (j : Int) < i then j else i)) = _
  by_cases h : j < i
  · rw [if_pos (by omega), Nat.min_eq_right (by omega)]
  · rw [if_neg (by omega), Nat.min_eq_left (by omega)]
theorem nm_nodup {st s : Nat} (h : st < 4) (hs : s ≤ 60) : (nmL st s).Nodup := by
  have h60 : (nmL st 60).Nodup := by
    match st, h with
    | 0, _ => decide +kernel
    | 1, _ => decide +kernel
    | 2, _ => decide +kernel
    | 3, _ => decide +kernel
    | n + 4, h => exact absurd h (by omega)
  have : (nmL st s).Sublist (nmL st 60) := by
    unfold nmL
    exact (List.range_sublist.mpr hs).map _
  exact this.nodup h60
/-- the singletons of a list of names -/
theorem ones_ok {F : Fns} {i : Nat} {r : Pv.Env} {zs : List Str} (hr : r[i]? = some (some (.list (zs.map .str)))) (hi : i ≠ 11) (hl : r.length = 12) (hz : zs.length ≤ 100) (h11 : r[11]? = some none) :
    evE F (.lc (.tup [(.v 11)]) (.n 11) .seq [(.v i)] [] [11]) r = .ok (.list (zs.map fun z => .tuple [.str z]), r) := by
  have w : wipeE r [11] = r := by
    apply List.ext_getElem?
    intro j
    rw [wipe_at]
    by_cases c : j = 11
    · subst c
      rw [if_pos (by simp), hl, if_pos (by decide), h11]
    · rw [if_neg (by simpa using c)]
  have := lc_map (F := F) (e := .tup [(.v 11)]) (tg := .n 11) (ik := .seq) (il := [(.v i)]) (ifs := []) (own := [11]) (r := r) (xs := [.list (zs.map .str)]) (items := zs.map .str) (fun d => .tuple [d]) (fun _ => true) (by simp only [evL, evE, hr, Out.bind_ok]) rfl (decide_eq_true (by rw [sizeLine_eq, List.length_map]; omega)) (fun d hd => by
    refine ⟨r.set 11 (some d), ?_, ?_, rfl, fun _ => ?_⟩
    · rw [w]
      simp only [asgT, hl]
      rfl
    · rw [w]
      apply List.ext_getElem?
      intro j
      rw [wipe_at]
      by_cases c : j = 11
      · subst c
        rw [if_pos (by simp), List.length_set, hl, if_pos (by decide), h11]
      · simp only [List.mem_singleton, c, if_false]
        rw [List.getElem?_set_ne (fun z => c z.symm)]
    · have : (r.set 11 (some d))[11]? = some (some d) := List.getElem?_set_self (by rw [hl]; decide)
      simp only [evE, evL, this, Out.bind_ok])
  rw [this, List.filter_eq_self.mpr (fun _ _ => rfl), List.map_map]
  rfl
end Lw
end
section
namespace Lw
open PySem Pv
theorem lenL {xs : List D} : biD .len [.list xs] = .ok (.int (xs.length : Nat)) := rfl
theorem adj_one (x : Str) : adj [x] = true := rfl
/-- two lists of rows -/
def Logs (nm : List Str) (d : D) : Prop := ∃ a b : List D, d = .list [.list a, .list b] ∧ (a.length ≤ 60 ∧ ∀ r ∈ a, Row nm r) ∧ (b.length ≤ 60 ∧ ∀ r ∈ b, Row nm r)
theorem ones_rows {nm zs ws : List Str} {k : Nat} (hp : ws.Perm nm) (hz : zs = ws.take k) (hk : k ≤ 60) : (zs.map fun z => PyData.tuple [.str z]).length ≤ 60 ∧ ∀ r ∈ (zs.map fun z => PyData.tuple [.str z]), Row nm r := by
  subst hz
  refine ⟨by rw [List.length_map, List.length_take]; omega, fun r hr => ?_⟩
  obtain ⟨z, hz, rfl⟩ := List.mem_map.mp hr
  refine ⟨[z], rfl, rfl, by simp, by simp, fun x hx => ?_⟩
  rw [List.mem_singleton.mp hx]
  exact hp.mem_iff.mp (List.mem_of_mem_take hz)
theorem shuf_at {n : Nat} {r : Pv.Env} {src : D} {nm : List Str} {ys : List D} {m : Int} (hs : Src m src) (h0 : r[0]? = some (some src)) (h3 : r[3]? = some (some (.list ys))) (hp : ys.Perm (nm.map .str)) (hl : nm.length ≤ 60) (hm : m ≤ 2 ^ 50) :
    ∃ (ws : List Str) (src' : D), ws.Perm nm ∧ Src (m + 60) src' ∧ evE (Fn (n + 2)) (.call "_law_shuffled" 1 [(.io 0), (.v 3)] [] [(0, 0)] false) r = .ok (.list (ws.map .str), r.set 0 (some src')) := by
  have hy : ys.length = nm.length := by rw [hp.length_eq, List.length_map]
  obtain ⟨zs, src2, e2, hz, s2⟩ := shuffled_ok (n := n) (xs := ys) hs (by omega) (by omega)
  obtain ⟨ws, rfl, hw⟩ := strs_of_perm (hz.trans hp)
  refine ⟨ws, src2, hw, s2.mono (by omega), ?_⟩
  have hio : evE (Fn (n + 2)) (.io 0) r = .ok (.none, r) := by simp only [evE, h0]
  have hv : evE (Fn (n + 2)) (.v 3) r = .ok (.list ys, r) := by simp only [evE, h3]
  refine e_call (xs := [.none, .list ys]) (ys := [src, .list ys]) (outs := [src2]) (l_cons hio (l_cons hv l_nil)) ?_ ?_ e2 rfl rfl
  · unfold hasIo
    simp only [List.all_cons, h0, List.all_nil, Bool.and_true]
  · simp only [fillIo, h0]
    rfl
theorem writ_at {n size wide j : Nat} {r : Pv.Env} {src : D} {nm : List Str} {ys : List D} {m : Int} (hs : Src m src) (h0 : r[0]? = some (some src)) (h3 : r[3]? = some (some (.list ys))) (hj : r[j]? = some (some (.int (size : Nat)))) (h6 : r[6]? = some (some (.int (wide : Nat)))) (hn : nm.Nodup) (hp : ys.Perm (nm.map .str)) (hl : nm.length ≤ 60) (hl1 : 1 ≤ nm.length) (hm : m ≤ 2 ^ 49) (w0 : 1 ≤ wide) (w1 : wide ≤ 10) (hsz : size ≤ 60) :
    ∃ rows src', (rows.length ≤ 60 ∧ ∀ r ∈ rows, Row nm r) ∧ Src (m + 4000) src' ∧ evE (Fn (n + 3)) (.call "_law_written" 1 [(.io 0), (.v 3), (.v j), (.v 6)] [] [(0, 0)] false) r = .ok (.list rows, r.set 0 (some src')) := by
  obtain ⟨rows, src2, e2, g1, g2, s2⟩ := written_ok (n := n) hs hm hn hp hl w0 w1 hl1 hsz
  refine ⟨rows, src2, ⟨by omega, g2⟩, s2.mono (by omega), ?_⟩
  have hio : evE (Fn (n + 3)) (.io 0) r = .ok (.none, r) := by simp only [evE, h0]
  have hv : evE (Fn (n + 3)) (.v 3) r = .ok (.list ys, r) := by simp only [evE, h3]
  have hv2 : evE (Fn (n + 3)) (.v j) r = .ok (.int (size : Nat), r) := by simp only [evE, hj]
  have hv3 : evE (Fn (n + 3)) (.v 6) r = .ok (.int (wide : Nat), r) := by simp only [evE, h6]
  refine e_call (xs := [.none, .list ys, .int (size : Nat), .int (wide : Nat)]) (ys := [src, .list ys, .int (size : Nat), .int (wide : Nat)]) (outs := [src2]) (l_cons hio (l_cons hv (l_cons hv2 (l_cons hv3 l_nil)))) ?_ ?_ e2 rfl rfl
  · unfold hasIo
    simp only [List.all_cons, h0, List.all_nil, Bool.and_true]
  · simp only [fillIo, h0]
    rfl
theorem logs_ok {n top : Nat} {m : Int} {src : D} (hs : Src m src) (hm : m ≤ 2 ^ 40) (ht0 : 1 ≤ top) (ht : top ≤ 60) : ∃ d st s src', C (n + 4) "_law_logs" [src, .int (top : Nat)] = .ok (d, [src']) ∧ st < 4 ∧ s ≤ 60 ∧ Logs (nmL st s) d ∧ Src (m + 10000) src' := by
  unfold C
  rw [ev_succ (e := e_law_logs) (by rfl)]
  -- the numbers of names
  obtain ⟨i1, x1, b1, s1, p1⟩ := pk (n := n + 2) (r := [some src, some (.int (top : Nat)), none, none, none, none, none, none, none, none, none, none]) (e := .k (.int 4)) (k := 4) hs rfl rfl (by omega) (by omega) (by omega)
  obtain ⟨i2, x2, b2, s2, p2⟩ := pk (n := n + 2) (r := [some x1, some (.int (top : Nat)), none, none, none, none, none, none, none, none, none, none]) (e := .k (.int 12)) (k := 12) s1 rfl rfl (by omega) (by omega) (by omega)
  have q1 : evE (Fn (n + 3)) (.lst [(.bin .add (.k (.int 1)) (.call "_law_pick" 0 [(.io 0), (.k (.int 4))] [] [(0, 0)] false)), (.bin .add (.k (.int 1)) (.call "_law_pick" 0 [(.io 0), (.k (.int 12))] [] [(0, 0)] false)), (.k (.int 60))]) [some src, some (.int (top : Nat)), none, none, none, none, none, none, none, none, none, none] = .ok (nl [i1 + 1, i2 + 1, 60], [some x2, some (.int (top : Nat)), none, none, none, none, none, none, none, none, none, none]) := e_lst (l_cons (e_bin rfl p1 (add1 i1)) (l_cons (e_bin rfl p2 (add1 i2)) (l_cons rfl l_nil)))
  -- the names
  obtain ⟨i3, x3, b3, s3, p3⟩ := pk (n := n + 2) (r := [some x2, some (.int (top : Nat)), some (nl [i1 + 1, i2 + 1, 60]), none, none, none, none, none, none, none, none, none]) (e := .k (.int 3)) (k := 3) s2 rfl rfl (by omega) (by omega) (by omega)
  obtain ⟨s, hsm, g3⟩ := get_nl (l := [i1 + 1, i2 + 1, 60]) (j := i3) b3
  have sb : 1 ≤ s ∧ s ≤ 60 := by
    simp at hsm
    omega
  obtain ⟨st, ys, x4, e4, hst, hp, s4⟩ := names_ok (n := n) (s := s) s3 (by omega) sb.2
  have q2 : evE (Fn (n + 3)) (.call "_law_names" 0 [(.io 0), (.ix (.v 2) (.call "_law_pick" 0 [(.io 0), (.k (.int 3))] [] [(0, 0)] false))] [] [(0, 0)] false) [some x2, some (.int (top : Nat)), some (nl [i1 + 1, i2 + 1, 60]), none, none, none, none, none, none, none, none, none] = .ok (.list ys, [some x4, some (.int (top : Nat)), some (nl [i1 + 1, i2 + 1, 60]), none, none, none, none, none, none, none, none, none]) :=
    e_call (xs := [.none, .int (s : Nat)]) (ys := [x3, .int (s : Nat)]) (outs := [x4]) (l_cons rfl (l_cons (e_ix rfl p3 g3) l_nil)) rfl rfl e4 rfl rfl
  have hn : (nmL st s).Nodup := nm_nodup hst sb.2
  have hnl : (nmL st s).length = s := by simp [nmL]
  have hy : ys.length = s := by rw [hp.length_eq, List.length_map, hnl]
  -- the sizes
  obtain ⟨i5, x5, b5, s5, p5⟩ := pk (n := n + 2) (r := [some x4, some (.int (top : Nat)), some (nl [i1 + 1, i2 + 1, 60]), some (.list ys), none, none, none, none, none, none, none, none]) (e := .bi .min [(.v 1), (.k (.int 6))]) (k := min top 6) s4 rfl (e_bi2 rfl rfl (minN top 6)) (by omega) (by omega) (by omega)
  obtain ⟨i6, x6, b6, s6, p6⟩ := pk (n := n + 2) (r := [some x5, some (.int (top : Nat)), some (nl [i1 + 1, i2 + 1, 60]), some (.list ys), none, none, none, none, none, none, none, none]) (e := .v 1) (k := top) s5 rfl rfl (by omega) (by omega) (by omega)
  have q3 : evE (Fn (n + 3)) (.lst [(.k (.int 0)), (.k (.int 1)), (.bin .add (.k (.int 1)) (.call "_law_pick" 0 [(.io 0), (.bi .min [(.v 1), (.k (.int 6))])] [] [(0, 0)] false)), (.bin .add (.k (.int 1)) (.call "_law_pick" 0 [(.io 0), (.v 1)] [] [(0, 0)] false)), (.v 1)]) [some x4, some (.int (top : Nat)), some (nl [i1 + 1, i2 + 1, 60]), some (.list ys), none, none, none, none, none, none, none, none] = .ok (nl [0, 1, i5 + 1, i6 + 1, top], [some x6, some (.int (top : Nat)), some (nl [i1 + 1, i2 + 1, 60]), some (.list ys), none, none, none, none, none, none, none, none]) := e_lst (l_cons rfl (l_cons rfl (l_cons (e_bin rfl p5 (add1 i5)) (l_cons (e_bin rfl p6 (add1 i6)) (l_cons rfl l_nil)))))
  obtain ⟨i7, x7, b7, s7, p7⟩ := pk (n := n + 2) (r := [some x6, some (.int (top : Nat)), some (nl [i1 + 1, i2 + 1, 60]), some (.list ys), some (nl [0, 1, i5 + 1, i6 + 1, top]), none, none, none, none, none, none, none]) (e := .k (.int 5)) (k := 5) s6 rfl rfl (by omega) (by omega) (by omega)
  obtain ⟨i8, x8, b8, s8, p8⟩ := pk (n := n + 2) (r := [some x7, some (.int (top : Nat)), some (nl [i1 + 1, i2 + 1, 60]), some (.list ys), some (nl [0, 1, i5 + 1, i6 + 1, top]), none, none, none, none, none, none, none]) (e := .k (.int 5)) (k := 5) s7 rfl rfl (by omega) (by omega) (by omega)
  obtain ⟨z1, hz1, g7⟩ := get_nl (l := [0, 1, i5 + 1, i6 + 1, top]) (j := i7) b7
  obtain ⟨z2, hz2, g8⟩ := get_nl (l := [0, 1, i5 + 1, i6 + 1, top]) (j := i8) b8
  have zb1 : z1 ≤ 60 := by
    simp at hz1
    omega
  have zb2 : z2 ≤ 60 := by
    simp at hz2
    omega
  have q4 : evL (Fn (n + 3)) [(.ix (.v 4) (.call "_law_pick" 0 [(.io 0), (.k (.int 5))] [] [(0, 0)] false)), (.ix (.v 4) (.call "_law_pick" 0 [(.io 0), (.k (.int 5))] [] [(0, 0)] false))] [some x6, some (.int (top : Nat)), some (nl [i1 + 1, i2 + 1, 60]), some (.list ys), some (nl [0, 1, i5 + 1, i6 + 1, top]), none, none, none, none, none, none, none] = .ok ([.int (z1 : Nat), .int (z2 : Nat)], [some x8, some (.int (top : Nat)), some (nl [i1 + 1, i2 + 1, 60]), some (.list ys), some (nl [0, 1, i5 + 1, i6 + 1, top]), none, none, none, none, none, none, none]) := l_cons (e_ix rfl p7 g7) (l_cons (e_ix rfl p8 g8) l_nil)
  -- the widths
  have q5 : evE (Fn (n + 3)) (.lst [(.k (.int 1)), (.k (.int 2)), (.k (.int 10))]) [some x8, some (.int (top : Nat)), some (nl [i1 + 1, i2 + 1, 60]), some (.list ys), some (nl [0, 1, i5 + 1, i6 + 1, top]), none, none, some (.int (z1 : Nat)), some (.int (z2 : Nat)), none, none, none] = .ok (nl [1, 2, 10], [some x8, some (.int (top : Nat)), some (nl [i1 + 1, i2 + 1, 60]), some (.list ys), some (nl [0, 1, i5 + 1, i6 + 1, top]), none, none, some (.int (z1 : Nat)), some (.int (z2 : Nat)), none, none, none]) := rfl
  obtain ⟨i9, x9, b9, s9, p9⟩ := pk (n := n + 2) (r := [some x8, some (.int (top : Nat)), some (nl [i1 + 1, i2 + 1, 60]), some (.list ys), some (nl [0, 1, i5 + 1, i6 + 1, top]), some (nl [1, 2, 10]), none, some (.int (z1 : Nat)), some (.int (z2 : Nat)), none, none, none]) (e := .k (.int 3)) (k := 3) s8 rfl rfl (by omega) (by omega) (by omega)
  obtain ⟨w, hw, g9⟩ := get_nl (l := [1, 2, 10]) (j := i9) b9
  have wb : 1 ≤ w ∧ w ≤ 10 := by
    simp at hw
    omega
  have hmin : biD .min [.int (ys.length : Nat), .int (w : Nat)] = .ok (.int ((min s w : Nat) : Int)) := by rw [minN, hy]
  have q6 : evE (Fn (n + 3)) (.bi .min [(.bi .len [(.v 3)]), (.ix (.v 5) (.call "_law_pick" 0 [(.io 0), (.k (.int 3))] [] [(0, 0)] false))]) [some x8, some (.int (top : Nat)), some (nl [i1 + 1, i2 + 1, 60]), some (.list ys), some (nl [0, 1, i5 + 1, i6 + 1, top]), some (nl [1, 2, 10]), none, some (.int (z1 : Nat)), some (.int (z2 : Nat)), none, none, none] = .ok (.int ((min s w : Nat) : Int), [some x9, some (.int (top : Nat)), some (nl [i1 + 1, i2 + 1, 60]), some (.list ys), some (nl [0, 1, i5 + 1, i6 + 1, top]), some (nl [1, 2, 10]), none, some (.int (z1 : Nat)), some (.int (z2 : Nat)), none, none, none]) := e_bi2 (e_bi1 rfl lenL) (e_ix rfl p9 g9) hmin
  obtain ⟨i10, x10, b10, s10, p10⟩ := pk (n := n + 2) (r := [some x9, some (.int (top : Nat)), some (nl [i1 + 1, i2 + 1, 60]), some (.list ys), some (nl [0, 1, i5 + 1, i6 + 1, top]), some (nl [1, 2, 10]), some (.int ((min s w : Nat) : Int)), some (.int (z1 : Nat)), some (.int (z2 : Nat)), none, none, none]) (e := .k (.int 3)) (k := 3) s9 rfl rfl (by omega) (by omega) (by omega)
  have eqz : cmpD .eq (.int (i10 : Nat)) (.int 0) = .ok (decide (i10 = 0)) := by
    show Out.ok ((PyData.int (i10 : Nat)).eqv (.int 0)) = _
    simp only [PyData.eqv]
    by_cases c : i10 = 0
    · subst c
      rfl
    · have : ((i10 : Nat) : Int) ≠ 0 := by omega
      simp [c]
  have sl : ∀ (ws : List Str) (z : Nat), sliceD (.list (ws.map .str)) none (some (z : Nat)) = .ok (.list ((ws.take z).map .str)) := fun ws z => by
    show Out.ok (PyData.list (cutL _ _ _)) = _
    rw [cut_hi, List.map_take]
  by_cases c : i10 = 0
  · obtain ⟨ws, y1, h1, t1, v1⟩ := shuf_at (n := n + 1) (r := [some x10, some (.int (top : Nat)), some (nl [i1 + 1, i2 + 1, 60]), some (.list ys), some (nl [0, 1, i5 + 1, i6 + 1, top]), some (nl [1, 2, 10]), some (.int ((min s w : Nat) : Int)), some (.int (z1 : Nat)), some (.int (z2 : Nat)), none, none, none]) s10 rfl rfl hp (by omega) (by omega)
    obtain ⟨us, y2, h2, t2, v2⟩ := shuf_at (n := n + 1) (r := [some y1, some (.int (top : Nat)), some (nl [i1 + 1, i2 + 1, 60]), some (.list ys), some (nl [0, 1, i5 + 1, i6 + 1, top]), some (nl [1, 2, 10]), some (.int ((min s w : Nat) : Int)), some (.int (z1 : Nat)), some (.int (z2 : Nat)), none, none, none]) t1 rfl rfl hp (by omega) (by omega)
    have l1 : ∀ z, (ws.take z).length ≤ 100 := fun z => by rw [List.length_take, h1.length_eq, hnl]; omega
    have l2 : ∀ z, (us.take z).length ≤ 100 := fun z => by rw [List.length_take, h2.length_eq, hnl]; omega
    have w1 := ones_ok (F := Fn (n + 3)) (i := 9) (r := [some y2, some (.int (top : Nat)), some (nl [i1 + 1, i2 + 1, 60]), some (.list ys), some (nl [0, 1, i5 + 1, i6 + 1, top]), some (nl [1, 2, 10]), some (.int ((min s w : Nat) : Int)), some (.int (z1 : Nat)), some (.int (z2 : Nat)), some (.list ((ws.take z1).map .str)), some (.list ((us.take z2).map .str)), none]) (zs := ws.take z1) rfl (by decide) rfl (l1 z1) rfl
    have w2 := ones_ok (F := Fn (n + 3)) (i := 10) (r := [some y2, some (.int (top : Nat)), some (nl [i1 + 1, i2 + 1, 60]), some (.list ys), some (nl [0, 1, i5 + 1, i6 + 1, top]), some (nl [1, 2, 10]), some (.int ((min s w : Nat) : Int)), some (.int (z1 : Nat)), some (.int (z2 : Nat)), some (.list ((ws.take z1).map .str)), some (.list ((us.take z2).map .str)), none]) (zs := us.take z2) rfl (by decide) rfl (l2 z2) rfl
    have k1 := ss_nx (fu := fuel) (s_par (l := [9, 10]) (l_cons (e_hi (b := .v 7) v1 rfl rfl (sl ws z1)) (l_cons (e_hi (b := .v 8) v2 rfl rfl (sl us z2)) l_nil)) rfl) (ss_retP (l := []) (s_ret (e_lst (l_cons w1 (l_cons w2 l_nil)))))
    exact ⟨_, st, s, y2, run_out rfl (ss_nx (s_asg (e_dn q1) rfl) (ss_nx (s_asg q2 rfl) (ss_nx (s_asg (e_dn q3) rfl) (ss_nx (s_par q4 rfl) (ss_nx (s_asg (e_dn q5) rfl) (ss_nx (s_asg q6 rfl) (ss_retP (s_if (e_cmp p10 rfl eqz) rfl ((if_pos (decide_eq_true c)).trans k1))))))))) rfl rfl, hst, sb.2, ⟨_, _, rfl, ones_rows h1 rfl zb1, ones_rows h2 rfl zb2⟩, t2.mono (by omega)⟩
  · obtain ⟨ra, y1, h1, t1, v1⟩ := writ_at (n := n) (j := 7) (size := z1) (wide := min s w) (r := [some x10, some (.int (top : Nat)), some (nl [i1 + 1, i2 + 1, 60]), some (.list ys), some (nl [0, 1, i5 + 1, i6 + 1, top]), some (nl [1, 2, 10]), some (.int ((min s w : Nat) : Int)), some (.int (z1 : Nat)), some (.int (z2 : Nat)), none, none, none]) s10 rfl rfl rfl rfl hn hp (by omega) (by omega) (by omega) (by omega) (by omega) zb1
    obtain ⟨rb, y2, h2, t2, v2⟩ := writ_at (n := n) (j := 8) (size := z2) (wide := min s w) (r := [some y1, some (.int (top : Nat)), some (nl [i1 + 1, i2 + 1, 60]), some (.list ys), some (nl [0, 1, i5 + 1, i6 + 1, top]), some (nl [1, 2, 10]), some (.int ((min s w : Nat) : Int)), some (.int (z1 : Nat)), some (.int (z2 : Nat)), none, none, none]) t1 rfl rfl rfl rfl hn hp (by omega) (by omega) (by omega) (by omega) (by omega) zb2
    refine ⟨_, st, s, y2, run_out rfl (ss_nx (s_asg (e_dn q1) rfl) (ss_nx (s_asg q2 rfl) (ss_nx (s_asg (e_dn q3) rfl) (ss_nx (s_par q4 rfl) (ss_nx (s_asg (e_dn q5) rfl) (ss_nx (s_asg q6 rfl) (ss_nx (s_if (e_cmp p10 rfl eqz) rfl ?_) (ss_retP (s_ret (e_lst (l_cons v1 (l_cons v2 l_nil)))))))))))) rfl rfl, hst, sb.2, ⟨_, _, rfl, h1, h2⟩, t2.mono (by omega)⟩
    rw [if_neg (by simpa using c)]
    exact ss_nilP
end Lw
end
section
namespace Lw
open PySem Pv
abbrev lets : Str := "abcdefghijklmnopqrstuvwxyz"
def inL (d : D) : Bool := match d with | .str y => inStr y lets | _ => false
def chs (x : Str) : List D := x.cps.toList.map fun c => .str ⟨#[c]⟩
/-- a key -/
def nameB (d : D) : Bool := match d with | .str x => decide (1 ≤ x.length) && decide (x.length ≤ 8) && (chs x).all inL | _ => false
def FitS (d : D) : Prop := ∀ x, d = .str x → x.length ≤ 2 ^ 20
theorem le_int {a b : Nat} : cmpD .le (.int (a : Nat)) (.int (b : Nat)) = .ok (decide (a ≤ b)) := by
  show Out.ok (decide ((a : Int) ≤ b)) = _
  congr 1
  simp
theorem lt_int {a b : Nat} : cmpD .lt (.int (a : Nat)) (.int (b : Nat)) = .ok (decide (a < b)) := by
  show Out.ok (decide ((a : Int) < b)) = _
  congr 1
  simp
theorem gt_int {a b : Nat} : cmpD .gt (.int (a : Nat)) (.int (b : Nat)) = .ok (decide (b < a)) := by
  show Out.ok (decide ((b : Int) < a)) = _
  congr 1
  simp
theorem eq_nil (xs : List D) : cmpD .eq (.list xs) (.list []) = .ok xs.isEmpty := by
  cases xs with
  | nil => rfl
  | cons x xs => rfl
theorem ne_nil (xs : List D) : cmpD .ne (.list xs) (.list []) = .ok (!xs.isEmpty) := by
  cases xs with
  | nil => rfl
  | cons x xs => rfl
theorem len_str {x : Str} (h : x.length ≤ 2 ^ 20) : biD .len [.str x] = .ok (.int (x.length : Nat)) := by
  show Out.when _ _ = _
  rw [show fits x.length = true from decide_eq_true (by rw [sizeLine_eq]; omega)]
  rfl
theorem chs_len (x : Str) : (chs x).length = x.length := by
  unfold chs
  rw [List.length_map]
  rfl
theorem all_bools (xs : List D) (f : D → Bool) : biD .all [.list (xs.map fun d => .bool (f d))] = .ok (.bool (xs.all f)) := by
  show Out.when _ _ = _
  have h1 : (xs.map fun d => PyData.bool (f d)).all isBool = true := by
    rw [List.all_map]
    exact List.all_eq_true.mpr fun _ _ => rfl
  have h2 : (xs.map fun d => PyData.bool (f d)).all bOf = xs.all f := by
    rw [List.all_map]
    rfl
  rw [h1, h2]
  rfl
theorem is_key_ok {n : Nat} {d : D} (hf : FitS d) : C (n + 1) "is_key" [d] = .ok (.bool (nameB d), []) := by
  unfold C
  rw [ev_succ (e := e_is_key) (by rfl)]
  cases d with
  | str x =>
    have hx := hf x rfl
    have g1 : evE (Fn n) (.not (.isa (.v 0) [.str])) [some (.str x), none] = .ok (.bool false, [some (.str x), none]) := rfl
    have g2 : evE (Fn n) (.not (.cmp2 .le .le (.k (.int 1)) (.bi .len [(.v 0)]) (.gl "MOST_LETTERS"))) [some (.str x), none] = .ok (.bool (!(decide (1 ≤ x.length) && decide (x.length ≤ 8))), [some (.str x), none]) := e_not (e_cmp2 rfl (e_bi1 rfl (len_str hx)) (le_int (a := 1)) rfl (le_int (b := 8)) rfl) rfl
    by_cases c : (decide (1 ≤ x.length) && decide (x.length ≤ 8)) = true
    · rw [c] at g2
      have c' := c
      simp only [Bool.and_eq_true, decide_eq_true_eq] at c'
      have lc := lc_map (F := Fn n) (e := .cmp .in_ (.v 1) (.gl "LETTERS")) (tg := .n 1) (ik := .seq) (il := [(.v 0)]) (ifs := []) (own := [1]) (r := [some (.str x), none]) (xs := [.str x]) (items := chs x) (fun d => .bool (inL d)) (fun _ => true) rfl rfl (decide_eq_true (by rw [sizeLine_eq, chs_len]; omega)) (fun d hd => by
        obtain ⟨c, _, rfl⟩ := List.mem_map.mp hd
        exact ⟨_, rfl, rfl, rfl, fun _ => e_cmp rfl rfl rfl⟩)
      rw [List.filter_eq_self.mpr (fun _ _ => rfl)] at lc
      have : nameB (.str x) = (chs x).all inL := by
        show (decide (1 ≤ x.length) && decide (x.length ≤ 8) && (chs x).all inL) = _
        rw [c, Bool.true_and]
      rw [this]
      exact run_out rfl (ss_nx (s_if (e_or g1 g2) rfl (ss_nilP (F := Fn n) (fu := fuel))) (ss_retP (s_ret (e_bi1 lc (all_bools _ _))))) rfl rfl
    · have c : (decide (1 ≤ x.length) && decide (x.length ≤ 8)) = false := by simpa using c
      rw [c] at g2
      have : nameB (.str x) = false := by
        show (decide (1 ≤ x.length) && decide (x.length ≤ 8) && (chs x).all inL) = _
        rw [c, Bool.false_and]
      rw [this]
      exact run_out rfl (ss_retP (s_if (e_or g1 g2) rfl (ss_retP (s_ret rfl)))) rfl rfl
  | _ => rfl
end Lw
end
section
namespace Lw
open PySem Pv
def rowS (d : D) : List Str := match d with | .tuple es => es.map strOf | _ => []
/-- a transaction -/
def rowB (d : D) : Bool := match d with | .tuple es => decide (1 ≤ es.length) && decide (es.length ≤ 10) && es.all nameB && adj (es.map strOf) | _ => false
def FitR (d : D) : Prop := ∀ es, d = .tuple es → ∀ e ∈ es, FitS e
theorem name_str {d : D} (h : nameB d = true) : d = .str (strOf d) := by
  cases d <;> first | rfl | cases h
theorem names_strs {es : List D} (h : es.all nameB = true) : es = (es.map strOf).map .str := by
  rw [List.map_map]
  refine (List.map_id es).symm.trans (List.map_congr_left fun d hd => ?_)
  exact name_str (List.all_eq_true.mp h d hd)
theorem zip_adj : ∀ (xs : List Str), (zipL (xs.map .str) ((xs.map PyData.str).drop 1)).all (fun d => match d with | .tuple [.str a, .str b] => strLt a b | _ => false) = adj xs
  | [] => rfl
  | [x] => rfl
  | x :: y :: r => by
    have ih := zip_adj (y :: r)
    simp only [List.map_cons, List.drop_succ_cons, List.drop_zero, zipL, List.all_cons, adj] at ih ⊢
    rw [ih]
theorem zip_mem : ∀ {xs ys : List Str} {d : D}, d ∈ zipL (xs.map .str) (ys.map .str) → ∃ a b : Str, d = .tuple [.str a, .str b]
  | [], ys, d, h => by simp [zipL] at h
  | x :: xs, [], d, h => by simp [zipL] at h
  | x :: xs, y :: ys, d, h => by
    simp only [List.map_cons, zipL] at h
    rcases List.mem_cons.mp h with rfl | h
    · exact ⟨x, y, rfl⟩
    · exact zip_mem h
theorem zip_len : ∀ (xs ys : List D), (zipL xs ys).length ≤ xs.length
  | [], ys => by simp [zipL]
  | x :: xs, [] => by simp [zipL]
  | x :: xs, y :: ys => by
    have := zip_len xs ys
    simp [zipL]
    omega
theorem len_tup (es : List D) : biD .len [.tuple es] = .ok (.int (es.length : Nat)) := rfl
def ltD (d : D) : Bool := match d with | .tuple [.str a, .str b] => strLt a b | _ => false
theorem is_transaction_ok {n : Nat} {d : D} (hf : FitR d) : C (n + 2) "is_transaction" [d] = .ok (.bool (rowB d), []) := by
  unfold C
  rw [ev_succ (e := e_is_transaction) (by rfl)]
  cases d with
  | tuple es =>
    have g1 : evE (Fn (n + 1)) (.not (.isa (.v 0) [.tuple])) [some (.tuple es), none, none, none] = .ok (.bool false, [some (.tuple es), none, none, none]) := rfl
    have g2 : evE (Fn (n + 1)) (.not (.cmp2 .le .le (.k (.int 1)) (.bi .len [(.v 0)]) (.gl "MOST_IN_TRANSACTION"))) [some (.tuple es), none, none, none] = .ok (.bool (!(decide (1 ≤ es.length) && decide (es.length ≤ 10))), [some (.tuple es), none, none, none]) := e_not (e_cmp2 rfl (e_bi1 rfl (len_tup es)) (le_int (a := 1)) rfl (le_int (b := 10)) rfl) rfl
    by_cases c : (decide (1 ≤ es.length) && decide (es.length ≤ 10)) = true
    · rw [c] at g2
      have c' := c
      simp only [Bool.and_eq_true, decide_eq_true_eq] at c'
      have lc := lc_map (F := Fn (n + 1)) (e := .call "is_key" 0 [(.v 1)] [] [] false) (tg := .n 1) (ik := .seq) (il := [(.v 0)]) (ifs := []) (own := [1]) (r := [some (.tuple es), none, none, none]) (xs := [.tuple es]) (items := es) (fun d => .bool (nameB d)) (fun _ => true) rfl rfl (decide_eq_true (by rw [sizeLine_eq]; omega)) (fun d hd => by
        exact ⟨[some (.tuple es), some d, none, none], rfl, rfl, rfl, fun _ => e_call (xs := [d]) (ys := [d]) (outs := []) rfl rfl rfl (is_key_ok (hf es rfl d hd)) rfl rfl⟩)
      rw [List.filter_eq_self.mpr (fun _ _ => rfl)] at lc
      have a1 := e_bi1 lc (all_bools es nameB)
      have hr : rowB (.tuple es) = (es.all nameB && adj (es.map strOf)) := by
        show (decide (1 ≤ es.length) && decide (es.length ≤ 10) && es.all nameB && adj (es.map strOf)) = _
        rw [c, Bool.true_and]
      rw [hr]
      by_cases c2 : es.all nameB = true
      · have ee := names_strs c2
        rw [c2] at a1
        have sl : evE (Fn (n + 1)) (.sl 0 (.v 0) (.k (.int 1)) (.k .none)) [some (.tuple es), none, none, none] = .ok (.tuple (es.drop 1), [some (.tuple es), none, none, none]) := e_lo rfl rfl rfl (by
          show Out.ok (PyData.tuple (cutL _ _ _)) = _
          rw [show (1 : Int) = ((1 : Nat) : Int) from rfl, cut_lo])
        have lc2 := lc_map (F := Fn (n + 1)) (e := .cmp .lt (.v 2) (.v 3)) (tg := .t [2, 3]) (ik := .zip) (il := [(.v 0), (.sl 0 (.v 0) (.k (.int 1)) (.k .none))]) (ifs := []) (own := [2, 3]) (r := [some (.tuple es), none, none, none]) (xs := [.tuple es, .tuple (es.drop 1)]) (items := zipL es (es.drop 1)) (fun d => .bool (ltD d)) (fun _ => true) (l_cons rfl (l_cons sl l_nil)) rfl (decide_eq_true (by
          rw [sizeLine_eq]
          have := zip_len es (es.drop 1)
          omega)) (fun d hd => by
          rw [ee, ← List.map_drop] at hd
          obtain ⟨a, b, rfl⟩ := zip_mem hd
          exact ⟨[some (.tuple es), none, some (.str a), some (.str b)], rfl, rfl, rfl, fun _ => e_cmp rfl rfl rfl⟩)
        rw [List.filter_eq_self.mpr (fun _ _ => rfl)] at lc2
        have a2 := e_bi1 lc2 (all_bools (zipL es (es.drop 1)) ltD)
        have hz : (zipL es (es.drop 1)).all ltD = adj (es.map strOf) := by
          have := zip_adj (es.map strOf)
          rw [← ee] at this
          exact this
        rw [hz] at a2
        rw [c2, Bool.true_and]
        exact run_out rfl (ss_nx (s_if (e_or g1 g2) rfl (ss_nilP (F := Fn (n + 1)) (fu := fuel))) (ss_retP (s_ret (e_and a1 a2)))) rfl rfl
      · have c2 : es.all nameB = false := by simpa using c2
        rw [c2] at a1
        rw [c2, Bool.false_and]
        exact run_out rfl (ss_nx (s_if (e_or g1 g2) rfl (ss_nilP (F := Fn (n + 1)) (fu := fuel))) (ss_retP (s_ret (e_and a1 rfl)))) rfl rfl
    · have c : (decide (1 ≤ es.length) && decide (es.length ≤ 10)) = false := by simpa using c
      rw [c] at g2
      have : rowB (.tuple es) = false := by
        show (decide (1 ≤ es.length) && decide (es.length ≤ 10) && es.all nameB && adj (es.map strOf)) = _
        rw [c, Bool.false_and, Bool.false_and]
      rw [this]
      exact run_out rfl (ss_retP (s_if (e_or g1 g2) rfl (ss_retP (s_ret rfl)))) rfl rfl
  | _ => rfl
theorem plain_strs (xs : List Str) : plainDepth (.list (xs.map .str)) = true := by
  have h1 : PyData.plainAll (xs.map .str) = true := by
    induction xs with
    | nil => rfl
    | cons x xs ih => simpa [PyData.plainAll, PyData.plain] using ih
  have h2 : PyData.depthAll (xs.map .str) = 0 := by
    clear h1
    induction xs with
    | nil => rfl
    | cons x xs ih => simpa [PyData.depthAll, PyData.depth] using ih
  unfold plainDepth
  simp only [PyData.plain, PyData.depth, h1, h2]
  rfl
theorem eq_strs (us vs : List Str) : cmpD .eq (.list (us.map .str)) (.list (vs.map .str)) = .ok (decide (us = vs)) := by
  show eqD _ _ = _
  unfold eqD
  rw [show eqDD (.list (us.map .str)) (.list (vs.map .str)) = false from rfl]
  by_cases c : us.length = vs.length
  · have : lenNe (.list (us.map .str)) (.list (vs.map .str)) = false := by
      simp [lenNe, c]
    rw [this, plain_strs, plain_strs]
    simp only [Bool.false_eq_true, if_false, Bool.and_self, Out.when_true, PyData.eqv, eqvAll_str]
  · have : lenNe (.list (us.map .str)) (.list (vs.map .str)) = true := by
      simp [lenNe, c]
    rw [this, if_pos rfl, decide_eq_false (fun e => c (by rw [e]))]
theorem sset_strs {xs : List Str} (h : xs.length ≤ 100) : biD .sset [.tuple (xs.map .str)] = .ok (.list (((onceS xs).mergeSort leS).map .str)) := by
  show Out.when _ _ = _
  have h1 : (xs.map PyData.str).all keyS = true := by
    rw [List.all_map]
    exact List.all_eq_true.mpr fun _ _ => rfl
  rw [sortOk_strs, h1, decide_eq_true (show (xs.map PyData.str).length < 4000 by rw [List.length_map]; omega), once_eq, sort_strs]
  rfl
end Lw
end
section
namespace Lw
open PySem Pv
/-- the dict's keys, in a row -/
def St (kvs : List (D × D)) (ks : List Str) : Prop := kvs.map (·.1) = ks.map .str
abbrev stepS (a : List Str) (x : Str) : List Str := if decide (x ∈ a) then a else a ++ [x]
theorem St.any {kvs : List (D × D)} {ks : List Str} (h : St kvs ks) (k : Str) : kvs.any (fun p => p.1.eqv (.str k)) = decide (k ∈ ks) := by
  have := any_eqv ks k
  rw [← h, List.any_map] at this
  exact this
theorem St.store {kvs : List (D × D)} {ks : List Str} (h : St kvs ks) (k : Str) (v : D) : St (storeD (.str k) v kvs) (stepS ks k) := by
  unfold storeD stepS
  rw [h.any k]
  by_cases c : k ∈ ks
  · simp only [c, decide_true, if_true]
    unfold St
    rw [List.map_map, ← h]
    refine List.map_congr_left fun p _ => ?_
    simp only [Function.comp]
    split <;> rfl
  · simp only [c, decide_false, Bool.false_eq_true, if_false]
    unfold St
    rw [List.map_append, List.map_append, h]
    rfl
theorem St.keys {kvs : List (D × D)} {ks : List Str} (h : St kvs ks) : (kvs.all fun p => keyS p.1) = true := by
  have : (kvs.map (·.1)).all keyS = true := by
    rw [h, List.all_map]
    exact List.all_eq_true.mpr fun _ _ => rfl
  rw [List.all_map] at this
  exact this
theorem St.len {kvs : List (D × D)} {ks : List Str} (h : St kvs ks) : kvs.length = ks.length := by
  have := congrArg List.length h
  simpa using this
theorem St.look : ∀ {kvs : List (D × D)} {ks : List Str} {k : Str}, St kvs ks → k ∈ ks → ∃ v, lookD (.str k) kvs = some v
  | [], ks, k, h, m => by
    have := h.len
    rw [List.eq_nil_of_length_eq_zero this.symm] at m
    cases m
  | (x, v) :: kvs, [], k, h, m => by cases m
  | (x, v) :: kvs, y :: ks, k, h, m => by
    unfold St at h
    simp only [List.map_cons, List.cons.injEq] at h
    obtain ⟨h1, h2⟩ := h
    subst h1
    simp only [lookD, eqv_str]
    by_cases c : y = k
    · exact ⟨v, by simp [c]⟩
    · simp only [c, decide_false, Bool.false_eq_true, if_false]
      refine St.look (ks := ks) h2 ?_
      rcases List.mem_cons.mp m with e | m
      · exact absurd e.symm c
      · exact m
theorem stepS_len (xs : List Str) : ∀ (ks : List Str), (xs.foldl stepS ks).length ≤ ks.length + xs.length := by
  induction xs with
  | nil => intro ks; simp
  | cons x xs ih =>
    intro ks
    have := ih (stepS ks x)
    have h : (stepS ks x).length ≤ ks.length + 1 := by
      unfold stepS
      split <;> simp
    simp only [List.foldl_cons, List.length_cons]
    omega
theorem small_len {n : Nat} (h : n ≤ 10 ^ 6) : decide (n < sizeLine) = true := decide_eq_true (by rw [sizeLine_eq]; omega)
abbrev inner (F : Fns) (d2 : D) (a2 : List (D × D) × Pv.Env) : Out (List (D × D) × Pv.Env) :=
  (asgT (.n 2) d2 (wipeE a2.2 [2])).bind fun r2 => (evIfs F [] r2).bind fun b2 => if b2.1 then
    (evE F (.v 2) b2.2).bind fun y => (evE F (.v 3) y.2).bind fun z => .when (keyS y.1 && (a2.1.all fun p => keyS p.1) && decide (a2.1.length < sizeLine)) (storeD y.1 z.1 a2.1, z.2)
  else .ok (a2.1, b2.2)
theorem inner_fold {F : Fns} {L : D} {f1 : Option D} {i row : D} : ∀ (xs : List Str) (kvs : List (D × D)) (ks : List Str) (o2 : Option D), St kvs ks → ks.length + xs.length ≤ 10 ^ 6 →
    ∃ kvs' o2', foldO (inner F) (xs.map .str) (kvs, [some L, f1, o2, some i, some row]) = .ok (kvs', [some L, f1, o2', some i, some row]) ∧ St kvs' (xs.foldl stepS ks)
  | [], kvs, ks, o2, h, _ => ⟨kvs, o2, rfl, h⟩
  | x :: xs, kvs, ks, o2, h, hl => by
    have g : (keyS (.str x) && (kvs.all fun p => keyS p.1) && decide (kvs.length < sizeLine)) = true := by
      rw [h.keys, small_len (by rw [h.len]; simp at hl; omega)]
      rfl
    have st : inner F (.str x) (kvs, [some L, f1, o2, some i, some row]) = .ok (storeD (.str x) i kvs, [some L, f1, some (.str x), some i, some row]) := by
      show Out.when (keyS (.str x) && (kvs.all fun p => keyS p.1) && decide (kvs.length < sizeLine)) _ = _
      rw [g]
      rfl
    obtain ⟨kvs', o2', h1, h2⟩ := inner_fold (F := F) (L := L) (f1 := f1) (i := i) (row := row) xs (storeD (.str x) i kvs) (stepS ks x) (some (.str x)) (h.store x i) (by
      have := stepS_len [x] ks
      simp at this hl
      omega)
    refine ⟨kvs', o2', ?_, h2⟩
    simp only [List.map_cons, foldO_cons]
    rw [st]
    exact h1
abbrev outer (F : Fns) (d : D) (a : List (D × D) × Pv.Env) : Out (List (D × D) × Pv.Env) :=
  (asgT (.t [3, 4]) d (wipeE a.2 [3, 4, 2])).bind fun r1 => (evIfs F [] r1).bind fun b => if b.1 then
    (evL F [(.v 4)] b.2).bind fun x2 => (itD .seq x2.1).bind fun items2 => foldO (inner F) items2 (a.1, x2.2)
  else .ok (a.1, b.2)
theorem rowB_tup {d : D} (h : rowB d = true) : d = .tuple ((rowS d).map .str) ∧ (rowS d).length ≤ 10 ∧ adj (rowS d) = true := by
  cases d <;> first | (cases h; done) | skip
  rename_i es
  have h : (decide (1 ≤ es.length) && decide (es.length ≤ 10) && es.all nameB && adj (es.map strOf)) = true := h
  simp only [Bool.and_eq_true, decide_eq_true_eq] at h
  refine ⟨?_, by show (es.map strOf).length ≤ 10; rw [List.length_map]; exact h.1.1.2, h.2⟩
  show PyData.tuple es = .tuple ((es.map strOf).map .str)
  rw [← names_strs h.1.2]
theorem outer_fold {F : Fns} {L : D} {f1 : Option D} : ∀ (ps : List (D × Nat)) (kvs : List (D × D)) (ks : List Str) (o2 o3 o4 : Option D), (∀ p ∈ ps, rowB p.1 = true) → St kvs ks → ks.length + 10 * ps.length ≤ 10 ^ 6 →
    ∃ kvs' o2' o3' o4', foldO (outer F) (ps.map fun p => .tuple [.int (p.2 : Nat), p.1]) (kvs, [some L, f1, o2, o3, o4]) = .ok (kvs', [some L, f1, o2', o3', o4']) ∧ St kvs' ((ps.map fun p => rowS p.1).flatten.foldl stepS ks)
  | [], kvs, ks, o2, o3, o4, _, h, _ => ⟨kvs, o2, o3, o4, rfl, h⟩
  | (r, j) :: ps, kvs, ks, o2, o3, o4, hb, h, hl => by
    have hbr : rowB r = true := hb (r, j) List.mem_cons_self
    obtain ⟨e, hr, _⟩ := rowB_tup hbr
    obtain ⟨kvs1, p2, h1, h2⟩ := inner_fold (F := F) (L := L) (f1 := f1) (i := .int (j : Nat)) (row := r) (rowS r) kvs ks none h (by simp at hl; omega)
    have st : outer F (.tuple [.int (j : Nat), r]) (kvs, [some L, f1, o2, o3, o4]) = .ok (kvs1, [some L, f1, p2, some (.int (j : Nat)), some r]) := by
      have it : itD .seq [r] = .ok ((rowS r).map .str) := by
        conv => lhs; rw [e]
        rfl
      show ((evL F [(.v 4)] [some L, f1, none, some (.int (j : Nat)), some r]).bind fun x2 => (itD .seq x2.1).bind fun items2 => foldO (inner F) items2 (kvs, x2.2)) = _
      rw [show evL F [(.v 4)] [some L, f1, none, some (.int (j : Nat)), some r] = .ok ([r], [some L, f1, none, some (.int (j : Nat)), some r]) from rfl]
      simp only [Out.bind_ok, it]
      exact h1
    have hlen := stepS_len (rowS r) ks
    obtain ⟨kvs', q2, q3, q4, g1, g2⟩ := outer_fold (F := F) (L := L) (f1 := f1) ps kvs1 ((rowS r).foldl stepS ks) p2 (some (.int (j : Nat))) (some r) (fun p hp => hb p (List.mem_cons_of_mem _ hp)) h2 (by simp at hl; omega)
    refine ⟨kvs', q2, q3, q4, ?_, ?_⟩
    · simp only [List.map_cons, foldO_cons]
      rw [st]
      exact g1
    · simp only [List.map_cons, List.flatten_cons, List.foldl_append]
      exact g2
def flat (rs : List D) : List Str := (rs.map rowS).flatten
theorem zipIdx_rows : ∀ (rs : List D) (k : Nat), ((rs.zipIdx k).map fun p => rowS p.1) = rs.map rowS
  | [], k => rfl
  | r :: rs, k => by
    simp only [List.zipIdx_cons, List.map_cons, zipIdx_rows rs (k + 1)]
theorem dc2_ok {F : Fns} {rs : List D} (hb : ∀ r ∈ rs, rowB r = true) (hl : rs.length ≤ 60) : ∃ kvs, evE F (.dc2 (.v 2) (.v 3) (.t [3, 4]) .enum [(.v 0)] [] (.n 2) .seq [(.v 4)] [] [3, 4, 2] [2]) [some (.list rs), none, none, none, none] = .ok (.dict kvs, [some (.list rs), none, none, none, none]) ∧ St kvs (onceS (flat rs)) := by
  obtain ⟨kvs, o2, o3, o4, h1, h2⟩ := outer_fold (F := F) (L := .list rs) (f1 := none) rs.zipIdx [] [] none none none (fun p hp => hb p.1 (by
    have := List.mem_zipIdx' hp
    rw [this.2]
    exact List.getElem_mem _)) rfl (by simp; omega)
  rw [zipIdx_rows] at h2
  refine ⟨kvs, ?_, h2⟩
  have it : itD .enum [.list rs] = .ok (rs.zipIdx.map fun p => .tuple [.int (p.2 : Nat), p.1]) := rfl
  have h1' : foldO (outer F) (rs.zipIdx.map fun p => .tuple [.int (p.2 : Nat), p.1]) ([], wipeE [some (.list rs), none, none, none, none] [3, 4, 2]) = .ok (kvs, [some (.list rs), none, o2, o3, o4]) := h1
  show ((evL F [(.v 0)] [some (.list rs), none, none, none, none]).bind fun x => (itD .enum x.1).bind fun items => Out.bind (Out.noX (foldO (outer F) items ([], wipeE x.2 [3, 4, 2]))) fun a => .ok (PyData.dict a.1, backE x.2 a.2 [3, 4, 2])) = _
  rw [show evL F [(.v 0)] [some (.list rs), none, none, none, none] = .ok ([.list rs], [some (.list rs), none, none, none, none]) from rfl]
  simp only [Out.bind_ok, it, h1', Out.noX_ok]
  rfl
abbrev dstep (F : Fns) (d : D) (a : List (D × D) × Pv.Env) : Out (List (D × D) × Pv.Env) :=
  (asgT (.n 2) d (wipeE a.2 [2])).bind fun r1 => (evIfs F [] r1).bind fun b => if b.1 then
    (evE F (.v 2) b.2).bind fun y => (evE F (.ix (.v 1) (.v 2)) y.2).bind fun z => .when (keyS y.1 && (a.1.all fun p => keyS p.1)) (storeD y.1 z.1 a.1, z.2)
  else .ok (a.1, b.2)
theorem get_dict {kvs : List (D × D)} {ks : List Str} {k : Str} (h : St kvs ks) (m : k ∈ ks) : ∃ v, getD (.dict kvs) (.str k) = .ok v := by
  obtain ⟨v, hv⟩ := h.look m
  refine ⟨v, ?_⟩
  have g : (keyD (.str k) && (kvs.all fun p => keyS p.1 == keyS (.str k))) = true := by
    have := h.keys
    rw [List.all_eq_true] at this
    rw [show keyD (.str k) = true from rfl, Bool.true_and, List.all_eq_true]
    intro p hp
    rw [this p hp]
    rfl
  simp only [getD, g, hv]
theorem dstep_fold {F : Fns} {L : D} {kv0 : List (D × D)} {ks0 : List Str} (h0 : St kv0 ks0) : ∀ (xs : List Str) (kvs : List (D × D)) (ks : List Str) (o2 o3 o4 : Option D), (∀ x ∈ xs, x ∈ ks0) → St kvs ks →
    ∃ kvs' o2', foldO (dstep F) (xs.map .str) (kvs, [some L, some (.dict kv0), o2, o3, o4]) = .ok (kvs', [some L, some (.dict kv0), o2', o3, o4]) ∧ St kvs' (xs.foldl stepS ks)
  | [], kvs, ks, o2, o3, o4, _, h => ⟨kvs, o2, rfl, h⟩
  | x :: xs, kvs, ks, o2, o3, o4, hm, h => by
    obtain ⟨v, hv⟩ := get_dict h0 (hm x List.mem_cons_self)
    have g : (keyS (.str x) && (kvs.all fun p => keyS p.1)) = true := by
      rw [h.keys]
      rfl
    have e1 : evE F (.ix (.v 1) (.v 2)) [some L, some (.dict kv0), some (.str x), o3, o4] = .ok (v, [some L, some (.dict kv0), some (.str x), o3, o4]) := e_ix rfl rfl hv
    have st : dstep F (.str x) (kvs, [some L, some (.dict kv0), o2, o3, o4]) = .ok (storeD (.str x) v kvs, [some L, some (.dict kv0), some (.str x), o3, o4]) := by
      show ((evE F (.ix (.v 1) (.v 2)) [some L, some (.dict kv0), some (.str x), o3, o4]).bind fun z => .when (keyS (.str x) && (kvs.all fun p => keyS p.1)) (storeD (.str x) z.1 kvs, z.2)) = _
      rw [e1, g]
      rfl
    obtain ⟨kvs', o2', h1, h2⟩ := dstep_fold (F := F) (L := L) h0 xs (storeD (.str x) v kvs) (stepS ks x) (some (.str x)) o3 o4 (fun y hy => hm y (List.mem_cons_of_mem _ hy)) (h.store x v)
    refine ⟨kvs', o2', ?_, h2⟩
    simp only [List.map_cons, foldO_cons]
    rw [st]
    exact h1
theorem last_in_ok {n : Nat} {rs : List D} (hb : ∀ r ∈ rs, rowB r = true) (hl : rs.length ≤ 60) : ∃ kvs, C (n + 1) "last_in" [.list rs] = .ok (.dict kvs, []) ∧ kvs.length = (onceS (flat rs)).length ∧ ∃ ks, St kvs ks ∧ ∀ k, k ∈ ks ↔ k ∈ flat rs := by
  unfold C
  rw [ev_succ (e := e_last_in) (by rfl)]
  obtain ⟨kv0, h1, h2⟩ := dc2_ok (F := Fn n) hb hl
  have hs : biD .sorted [.dict kv0] = .ok (.list (((onceS (flat rs)).mergeSort leS).map .str)) := by
    show Out.when _ _ = _
    rw [h2.keys, h2, sortOk_strs, sort_strs]
    rfl
  obtain ⟨kvs, o2, h3, h4⟩ := dstep_fold (F := Fn n) (L := .list rs) h2 ((onceS (flat rs)).mergeSort leS) [] [] none none none (fun x hx => (List.mergeSort_perm _ _).mem_iff.mp hx) rfl
  have hln : (onceS (flat rs)).length ≤ 600 := by
    have h5 := stepS_len (flat rs) []
    have h6 : (flat rs).length ≤ 10 * rs.length := by
      unfold flat
      clear h1 h2 h3 h4 hs h5 hl
      induction rs with
      | nil => simp
      | cons r rs ih =>
        have := (rowB_tup (hb r List.mem_cons_self)).2.1
        have := ih fun r hr => hb r (List.mem_cons_of_mem _ hr)
        simp only [List.map_cons, List.flatten_cons, List.length_append, List.length_cons]
        omega
    show ((flat rs).foldl stepS []).length ≤ 600
    simp at h5
    omega
  have e2 : evE (Fn n) (.dc (.v 2) (.ix (.v 1) (.v 2)) (.n 2) .seq [(.bi .sorted [(.v 1)])] [] [2]) [some (.list rs), some (.dict kv0), none, none, none] = .ok (.dict kvs, [some (.list rs), some (.dict kv0), none, none, none]) := by
    have e1 : evL (Fn n) [(.bi .sorted [(.v 1)])] [some (.list rs), some (.dict kv0), none, none, none] = .ok ([.list (((onceS (flat rs)).mergeSort leS).map .str)], [some (.list rs), some (.dict kv0), none, none, none]) := l_cons (e_bi1 rfl hs) l_nil
    have h3' : foldO (dstep (Fn n)) (((onceS (flat rs)).mergeSort leS).map .str) ([], wipeE [some (.list rs), some (.dict kv0), none, none, none] [2]) = .ok (kvs, [some (.list rs), some (.dict kv0), o2, none, none]) := h3
    show ((evL (Fn n) [(.bi .sorted [(.v 1)])] [some (.list rs), some (.dict kv0), none, none, none]).bind fun x => (itD .seq x.1).bind fun items => Out.bind (Out.when (fits items.length) ()) fun _ => Out.bind (Out.noX (foldO (dstep (Fn n)) items ([], wipeE x.2 [2]))) fun a => .ok (PyData.dict a.1, backE x.2 a.2 [2])) = _
    rw [e1]
    have hf : fits (((onceS (flat rs)).mergeSort leS).map PyData.str).length = true := decide_eq_true (by rw [List.length_map, List.length_mergeSort, sizeLine_eq]; omega)
    simp only [Out.bind_ok, itD, hf, Out.when_true, h3', Out.noX_ok]
    rfl
  refine ⟨kvs, run_out rfl (ss_nx (s_asg (e_dn h1) rfl) (ss_retP (s_ret e2))) rfl rfl, ?_, _, h4, fun k => mem_once.trans ((List.mergeSort_perm _ _).mem_iff.trans mem_once)⟩
  rw [h4.len]
  have nd : ((onceS (flat rs)).mergeSort leS).Nodup := (List.mergeSort_perm _ _).nodup_iff.mpr (once_nodup _)
  have p1 : (onceS ((onceS (flat rs)).mergeSort leS)).Perm ((onceS (flat rs)).mergeSort leS) := (List.perm_ext_iff_of_nodup (once_nodup _) nd).mpr fun k => mem_once
  have := p1.length_eq
  rw [List.length_mergeSort] at this
  exact this
end Lw
end
section
namespace Lw
open PySem Pv
def logB (d : D) : Bool := match d with | .list rs => decide (rs.length ≤ 60) && rs.all rowB && decide ((onceS (flat rs)).length ≤ 60) | _ => false
/-- every text within its rows is short -/
def FitL (d : D) : Prop := ∀ rs, d = .list rs → ∀ r ∈ rs, FitR r
theorem len_list (es : List D) : biD .len [.list es] = .ok (.int (es.length : Nat)) := rfl
theorem is_log_ok {n : Nat} {d : D} (hf : FitL d) : C (n + 3) "is_log" [d] = .ok (.bool (logB d), []) := by
  unfold C
  rw [ev_succ (e := e_is_log) (by rfl)]
  cases d with
  | list rs =>
    have g1 : evE (Fn (n + 2)) (.not (.isa (.v 0) [.list])) [some (.list rs), none] = .ok (.bool false, [some (.list rs), none]) := rfl
    have g2 : evE (Fn (n + 2)) (.cmp .gt (.bi .len [(.v 0)]) (.gl "MOST_TRANSACTIONS")) [some (.list rs), none] = .ok (.bool (decide (60 < rs.length)), [some (.list rs), none]) := e_cmp (e_bi1 rfl (len_list rs)) rfl (gt_int (b := 60))
    by_cases c : 60 < rs.length
    · rw [decide_eq_true c] at g2
      have : logB (.list rs) = false := by
        show (decide (rs.length ≤ 60) && rs.all rowB && decide ((onceS (flat rs)).length ≤ 60)) = _
        rw [decide_eq_false (show ¬ rs.length ≤ 60 by omega)]
        rfl
      rw [this]
      exact run_out rfl (ss_retP (s_if (e_or g1 g2) rfl (ss_retP (s_ret rfl)))) rfl rfl
    · rw [decide_eq_false c] at g2
      have lc := lc_map (F := Fn (n + 2)) (e := .call "is_transaction" 0 [(.v 1)] [] [] false) (tg := .n 1) (ik := .seq) (il := [(.v 0)]) (ifs := []) (own := [1]) (r := [some (.list rs), none]) (xs := [.list rs]) (items := rs) (fun d => .bool (rowB d)) (fun _ => true) rfl rfl (decide_eq_true (by rw [sizeLine_eq]; omega)) (fun d hd => by
        exact ⟨[some (.list rs), some d], rfl, rfl, rfl, fun _ => e_call (xs := [d]) (ys := [d]) (outs := []) rfl rfl rfl (is_transaction_ok (hf rs rfl d hd)) rfl rfl⟩)
      rw [List.filter_eq_self.mpr (fun _ _ => rfl)] at lc
      have a1 := e_bi1 lc (all_bools rs rowB)
      have hr : logB (.list rs) = (rs.all rowB && decide ((onceS (flat rs)).length ≤ 60)) := by
        show (decide (rs.length ≤ 60) && rs.all rowB && decide ((onceS (flat rs)).length ≤ 60)) = _
        rw [decide_eq_true (show rs.length ≤ 60 by omega), Bool.true_and]
      rw [hr]
      by_cases c2 : rs.all rowB = true
      · rw [c2] at a1
        obtain ⟨kvs, e1, e2, _⟩ := last_in_ok (n := n + 1) (rs := rs) (fun r hr => List.all_eq_true.mp c2 r hr) (by omega)
        have hl : biD .len [.dict kvs] = .ok (.int ((onceS (flat rs)).length : Nat)) := by
          rw [← e2]
          rfl
        have a2 : evE (Fn (n + 2)) (.cmp .le (.bi .len [(.call "last_in" 1 [(.v 0)] [] [] false)]) (.gl "MOST_KEYS")) [some (.list rs), none] = .ok (.bool (decide ((onceS (flat rs)).length ≤ 60)), [some (.list rs), none]) := e_cmp (e_bi1 (e_call (xs := [.list rs]) (ys := [.list rs]) (outs := []) rfl rfl rfl e1 rfl rfl) hl) rfl (le_int (b := 60))
        rw [c2, Bool.true_and]
        exact run_out rfl (ss_nx (s_if (e_or g1 g2) rfl (ss_nilP (F := Fn (n + 2)) (fu := fuel))) (ss_retP (s_ret (e_and a1 a2)))) rfl rfl
      · have c2 : rs.all rowB = false := by simpa using c2
        rw [c2] at a1
        rw [c2, Bool.false_and]
        exact run_out rfl (ss_nx (s_if (e_or g1 g2) rfl (ss_nilP (F := Fn (n + 2)) (fu := fuel))) (ss_retP (s_ret (e_and a1 rfl)))) rfl rfl
  | _ => rfl
end Lw
end
section
namespace Lw
open PySem Pv
theorem e_callK {F : Fns} {f : Str} {n : Nat} {l : List E} {pm : List Nat} {r r1 : Pv.Env} {xs ys outs : List D} {d : D} {bo : Bool} (hl : evL F l r = .ok (xs, r1)) (hf : permD pm xs = ys) (hc : F.call f ys = .ok (d, outs)) (hb : (!bo || (immAt n d && immIo (F.lv f) outs)) = true) : evE F (.call f n l pm [] bo) r = .ok (d, r1) := by
  subst hf
  simp only [evE, hl, Out.bind_ok]
  rw [show hasIo r1 [] = true from rfl, show fillIo r1 [] xs = xs from rfl, hc]
  simp only [if_true, Out.bind_ok, hb, Out.when_true, backIo]
theorem repr_ok {d : D} (h : bigTxt d = true) : biD .repr [d] = .ok (.str d.shown) := by
  show Out.when _ _ = _
  rw [h]
  rfl
theorem eq_str (x : Str) : cmpD .eq (.str x) (.str x) = .ok true := by
  show eqD _ _ = _
  unfold eqD
  rw [show lenNe (.str x) (.str x) = false from rfl, show eqDD (.str x) (.str x) = false from rfl, show plainDepth (.str x) = true from rfl]
  simp only [Bool.false_eq_true, if_false, Bool.and_self, Out.when_true, eqv_str, decide_true]
theorem two_big (b : Bool) : bigTxt (.list [.bool b, .bool b]) = true := by
  cases b <;> decide +kernel
end Lw
end
section
namespace Lw
open PySem Pv
mutual
def wt : D → Nat
  | .none => 4
  | .bool _ => 5
  | .int _ => 80
  | .str x => 10 * x.length + 2
  | .list xs => 2 + wtL xs
  | .tuple xs => 3 + wtL xs
  | .dict kvs => 2 + wtP kvs
def wtL : List D → Nat
  | [] => 0
  | d :: ds => wt d + 2 + wtL ds
def wtP : List (D × D) → Nat
  | [] => 0
  | (k, d) :: r => wt k + wt d + 4 + wtP r
end
mutual
def nice : D → Bool
  | .none => true
  | .bool _ => true
  | .int i => decide (i.natAbs < 10 ^ 70)
  | .str x => x.cps.toList.all fun c => decide (c < 16 ^ 8)
  | .list xs => niceL xs
  | .tuple xs => niceL xs
  | .dict kvs => niceP kvs
def niceL : List D → Bool
  | [] => true
  | d :: ds => nice d && niceL ds
def niceP : List (D × D) → Bool
  | [] => true
  | (k, d) :: r => keyS k && nice k && nice d && niceP r
end
theorem listText_le : ∀ (ts : List Str), (listText ts).length ≤ 2 + piled ts
  | [] => by
    rw [listText_nil]
    decide
  | t :: r => by
    have h : listText (t :: r) = textFrom 1 (("[" : Str) ++ (if (0 : Nat) > 0 then ", " else "" : String) ++ t) r ++ "]" := rfl
    rw [h, strLen_append, textFrom_length_pos r 1 _ (Nat.succ_pos 0), strLen_append, strLen_append, piled_cons]
    show 1 + 0 + t.length + piled r + 1 ≤ _
    omega
theorem join_le (ts : List Str) : (Str.join ", " ts).length ≤ piled ts := by
  by_cases h : ts = []
  · subst h
    exact Nat.zero_le _
  · have := join_length_add ts h
    omega
theorem tupleText_le (ts : List Str) : (tupleText ts).length ≤ 3 + piled ts := by
  unfold tupleText
  rw [strLen_append, strLen_append]
  have := join_le ts
  have h2 : ((if ts.length == 1 then ",)" else ")" : String) : Str).length ≤ 2 := by
    split <;> decide
  have h3 : ("(" : Str).length = 1 := rfl
  omega
theorem dictText_le (ts : List Str) : (dictText ts).length ≤ 2 + piled ts := by
  unfold dictText
  rw [strLen_append, strLen_append]
  have := join_le ts
  have h3 : ("{" : Str).length = 1 := rfl
  have h4 : ("}" : Str).length = 1 := rfl
  omega
theorem int_log {i : Int} (h : i.natAbs < 10 ^ 70) : i.natAbs.log2 < 1920 := by
  have h2 : i.natAbs < 2 ^ 240 := Nat.lt_of_lt_of_le h (by decide +kernel)
  have := log2_le h2
  omega
theorem nat_len {m : Nat} (h : m < 10 ^ 70) : (Nat.repr m).length ≤ 70 := (Nat.length_repr_le_iff (n := m) (by decide : 0 < 70)).mpr h
theorem int_len {i : Int} (h : i.natAbs < 10 ^ 70) : (PyData.int i).shown.length ≤ 80 := by
  show (Str.ofString (toString i)).length ≤ 80
  rw [PyProof.Rows.ofString_len]
  cases i with
  | ofNat m =>
    have := nat_len (m := m) h
    show (Nat.repr m).length ≤ 80
    omega
  | negSucc m =>
    have := nat_len (m := m + 1) h
    show ("-" ++ Nat.repr (m + 1)).length ≤ 80
    rw [String.length_append]
    have : ("-" : String).length = 1 := rfl
    omega
mutual
theorem shown_wt : ∀ (d : D), nice d = true → d.shown.length ≤ wt d ∧ d.showable = true ∧ txK d = true
  | .none, _ => ⟨by decide, rfl, rfl⟩
  | .bool b, _ => ⟨by cases b <;> decide, rfl, rfl⟩
  | .int i, h => by
    have h : i.natAbs < 10 ^ 70 := of_decide_eq_true (by simpa only [nice] using h)
    exact ⟨int_len h, decide_eq_true (int_log h), rfl⟩
  | .str x, h => by
    refine ⟨?_, rfl, rfl⟩
    simp only [nice, List.all_eq_true, decide_eq_true_eq] at h
    exact StrLaws.reprText_len x h
  | .list xs, h => by
    obtain ⟨h1, h2, h3⟩ := shown_wtL xs (by simpa [nice] using h)
    refine ⟨?_, by simpa [PyData.showable] using h2, by simpa [txK] using h3⟩
    simp only [PyData.shown, wt]
    have := listText_le (PyData.shownAll xs)
    omega
  | .tuple xs, h => by
    obtain ⟨h1, h2, h3⟩ := shown_wtL xs (by simpa [nice] using h)
    refine ⟨?_, by simpa [PyData.showable] using h2, by simpa [txK] using h3⟩
    simp only [PyData.shown, wt]
    have := tupleText_le (PyData.shownAll xs)
    omega
  | .dict kvs, h => by
    obtain ⟨h1, h2, h3⟩ := shown_wtP kvs (by simpa [nice] using h)
    refine ⟨?_, by simpa [PyData.showable] using h2, by simpa [txK] using h3⟩
    simp only [PyData.shown, wt]
    have := dictText_le (PyData.shownKv kvs)
    omega
theorem shown_wtL : ∀ (ds : List D), niceL ds = true → piled (PyData.shownAll ds) ≤ wtL ds ∧ PyData.showableAll ds = true ∧ txL ds = true
  | [], _ => ⟨by decide, rfl, rfl⟩
  | d :: ds, h => by
    simp only [niceL, Bool.and_eq_true] at h
    obtain ⟨h1, h2, h3⟩ := shown_wt d h.1
    obtain ⟨g1, g2, g3⟩ := shown_wtL ds h.2
    simp only [PyData.shownAll, piled_cons, wtL, PyData.showableAll, txL, h2, h3, g2, g3, Bool.and_self, and_true]
    omega
theorem shown_wtP : ∀ (kvs : List (D × D)), niceP kvs = true → piled (PyData.shownKv kvs) ≤ wtP kvs ∧ PyData.showableKv kvs = true ∧ txP kvs = true
  | [], _ => ⟨by decide, rfl, rfl⟩
  | (k, d) :: r, h => by
    simp only [niceP, Bool.and_eq_true] at h
    obtain ⟨k1, k2, k3⟩ := shown_wt k h.1.1.2
    obtain ⟨h1, h2, h3⟩ := shown_wt d h.1.2
    obtain ⟨g1, g2, g3⟩ := shown_wtP r h.2
    simp only [PyData.shownKv, piled_cons, wtP, PyData.showableKv, txP, h2, h3, k2, h.1.1.1, g2, g3, Bool.and_self, and_true]
    rw [strLen_append, strLen_append]
    have : (": " : Str).length = 2 := rfl
    omega
end
/-- small data -/
def Vv (k w : Nat) (d : D) : Prop := nice d = true ∧ d.depth ≤ k ∧ wt d ≤ w
theorem Vv.mono {k w k' w' : Nat} {d : D} (h : Vv k w d) (hk : k ≤ k') (hw : w ≤ w') : Vv k' w' d := ⟨h.1, Nat.le_trans h.2.1 hk, Nat.le_trans h.2.2 hw⟩
theorem wtL_mem : ∀ {ds : List D} {d : D}, d ∈ ds → wt d ≤ wtL ds
  | x :: ds, d, h => by
    simp only [wtL]
    rcases List.mem_cons.mp h with rfl | h
    · omega
    · have := wtL_mem h
      omega
theorem rows_of {k w : Nat} : ∀ {xs : List D}, (∀ d ∈ xs, Vv k w d) → niceL xs = true ∧ PyData.depthAll xs ≤ k ∧ wtL xs ≤ xs.length * (w + 2)
  | [], _ => ⟨rfl, by simp [PyData.depthAll], by simp [wtL]⟩
  | d :: xs, h => by
    obtain ⟨h1, h2, h3⟩ := h d List.mem_cons_self
    obtain ⟨g1, g2, g3⟩ := rows_of fun e he => h e (List.mem_cons_of_mem _ he)
    refine ⟨by simp only [niceL, h1, g1, Bool.and_self], by simp only [PyData.depthAll]; omega, ?_⟩
    simp only [wtL, List.length_cons]
    rw [Nat.add_mul]
    omega
theorem v_list {k w n : Nat} {xs : List D} (h : ∀ d ∈ xs, Vv k w d) (hn : xs.length ≤ n) : Vv (k + 1) (2 + n * (w + 2)) (.list xs) := by
  obtain ⟨h1, h2, h3⟩ := rows_of h
  have := Nat.mul_le_mul_right (w + 2) hn
  exact ⟨h1, by simp only [PyData.depth]; omega, by simp only [wt]; omega⟩
theorem v_tup {k w n : Nat} {xs : List D} (h : ∀ d ∈ xs, Vv k w d) (hn : xs.length ≤ n) : Vv (k + 1) (3 + n * (w + 2)) (.tuple xs) := by
  obtain ⟨h1, h2, h3⟩ := rows_of h
  have := Nat.mul_le_mul_right (w + 2) hn
  exact ⟨h1, by simp only [PyData.depth]; omega, by simp only [wt]; omega⟩
theorem v_ok {k w : Nat} {d : D} (h : Vv k w d) (hk : k ≤ 40) (hw : w ≤ 10 ^ 7) : FitL d ∧ bigTxt d = true := by
  refine ⟨?_, ?_⟩
  · rintro rs rfl r hr es rfl e he x rfl
    have h1 := h.2.2
    simp only [wt] at h1
    have h2 := wtL_mem hr
    simp only [wt] at h2
    have h3 := wtL_mem he
    simp only [wt] at h3
    omega
  · obtain ⟨h1, h2, h3⟩ := shown_wt d h.1
    have := h.2.1
    have := h.2.2
    unfold bigTxt
    rw [h3, h2, decide_eq_true (show d.depth ≤ 40 by omega), decide_eq_true (show d.shown.length ≤ sizeLine by rw [sizeLine_eq]; omega)]
    rfl
end Lw
end
section
namespace Lw
open PySem Pv
def SS (x : Str) : Prop := x.length ≤ 8 ∧ nice (.str x) = true
/-- a tuple of one to ten short texts -/
def TR (d : D) : Prop := ∃ xs : List Str, d = .tuple (xs.map .str) ∧ 1 ≤ xs.length ∧ xs.length ≤ 10 ∧ ∀ x ∈ xs, SS x
theorem ss_v {x : Str} (h : SS x) : Vv 0 82 (.str x) := ⟨h.2, Nat.le_refl _, by simp only [wt]; have := h.1; omega⟩
theorem strs_v {xs : List Str} (h : ∀ x ∈ xs, SS x) : ∀ d ∈ xs.map PyData.str, Vv 0 82 d := fun d hd => by
  obtain ⟨x, hx, rfl⟩ := List.mem_map.mp hd
  exact ss_v (h x hx)
theorem tr_v {d : D} (h : TR d) : Vv 1 900 d := by
  obtain ⟨xs, rfl, _, h2, h3⟩ := h
  exact (v_tup (n := 10) (strs_v h3) (by rw [List.length_map]; exact h2)).mono (by omega) (by omega)
theorem add_list {xs ys : List D} (h : xs.length + ys.length ≤ 10 ^ 6) : binD .add (.list xs) (.list ys) = .ok (.list (xs ++ ys)) := by
  show Out.when _ _ = _
  rw [show fits (xs.length + ys.length) = true from decide_eq_true (by rw [sizeLine_eq]; omega)]
  rfl
theorem add_tup {xs ys : List D} (h : xs.length + ys.length ≤ 10 ^ 6) : binD .add (.tuple xs) (.tuple ys) = .ok (.tuple (xs ++ ys)) := by
  show Out.when _ _ = _
  rw [show fits (xs.length + ys.length) = true from decide_eq_true (by rw [sizeLine_eq]; omega)]
  rfl
theorem get_all {xs : List D} {P : D → Prop} {j : Nat} (h : ∀ d ∈ xs, P d) (hj : j < xs.length) : ∃ d, getD (.list xs) (.int (j : Nat)) = .ok d ∧ P d := by
  refine ⟨xs[j], ?_, h _ (List.getElem_mem hj)⟩
  simp only [getD, ixD]
  rw [if_pos (by omega), if_pos (by omega)]
  simp only [Int.toNat_natCast, Option.bind_some, List.getElem?_eq_getElem hj]
theorem get0 (d : D) (ds : List D) : getD (.tuple (d :: ds)) (.int 0) = .ok d := by
  simp [getD, ixD]
theorem sl_hi (xs : List D) (k : Nat) : sliceD (.list xs) none (some (k : Nat)) = .ok (.list (xs.take k)) := by
  show Out.ok (PyData.list (cutL _ _ _)) = _
  rw [cut_hi]
theorem sl_lo (xs : List D) (k : Nat) : sliceD (.list xs) (some (k : Nat)) none = .ok (.list (xs.drop k)) := by
  show Out.ok (PyData.list (cutL _ _ _)) = _
  rw [cut_lo]
theorem st_hi (xs : List D) (k : Nat) : sliceD (.tuple xs) none (some (k : Nat)) = .ok (.tuple (xs.take k)) := by
  show Out.ok (PyData.tuple (cutL _ _ _)) = _
  rw [cut_hi]
theorem st_lo (xs : List D) (k : Nat) : sliceD (.tuple xs) (some (k : Nat)) none = .ok (.tuple (xs.drop k)) := by
  show Out.ok (PyData.tuple (cutL _ _ _)) = _
  rw [cut_lo]
theorem addr1 (i : Nat) : binD .add (.int (i : Nat)) (.int 1) = .ok (.int ((i + 1 : Nat) : Int)) := by
  rw [b_add]
  rfl
theorem nice_app (x y : Str) : nice (.str (x ++ y)) = (nice (.str x) && nice (.str y)) := by
  show ((x.cps ++ y.cps).toList).all _ = _
  rw [Array.toList_append, List.all_append]
  rfl
theorem join_v : ∀ (xs : List Str), (∀ x ∈ xs, SS x) → nice (.str (Str.join "" xs)) = true ∧ (Str.join "" xs).length ≤ 8 * xs.length
  | [], _ => ⟨rfl, Nat.zero_le _⟩
  | [x], h => ⟨(h x List.mem_cons_self).2, (h x List.mem_cons_self).1⟩
  | x :: y :: r, h => by
    obtain ⟨h1, h2⟩ := join_v (y :: r) fun z hz => h z (List.mem_cons_of_mem _ hz)
    have hx := h x List.mem_cons_self
    have e : Str.join "" (x :: y :: r) = x ++ "" ++ Str.join "" (y :: r) := rfl
    rw [e, nice_app, nice_app, h1, hx.2, strLen_append, strLen_append]
    refine ⟨rfl, ?_⟩
    have h0 : ("" : Str).length = 0 := rfl
    have := hx.1
    simp only [List.length_cons] at h2 ⊢
    omega
theorem sum_le : ∀ (xs : List Str), (∀ x ∈ xs, SS x) → (xs.map fun x => x.length).sum ≤ 8 * xs.length
  | [], _ => Nat.zero_le _
  | x :: r, h => by
    have := sum_le r fun z hz => h z (List.mem_cons_of_mem _ hz)
    have hx := (h x List.mem_cons_self).1
    simp only [List.map_cons, List.sum_cons, List.length_cons]
    omega
theorem join_ok {F : Fns} {a : E} {r r1 : Pv.Env} {xs : List Str} (ha : evE F a r = .ok (.tuple (xs.map .str), r1)) (h : ∀ x ∈ xs, SS x) (hl : xs.length ≤ 100) : ∃ j : Str, evE F (.me .join (.k (.str "")) [a]) r = .ok (.str j, r1) ∧ nice (.str j) = true ∧ j.length ≤ 8 * xs.length := by
  obtain ⟨h1, h2⟩ := join_v xs h
  refine ⟨Str.join "" xs, ?_, h1, h2⟩
  have hm : meD .join (.str "") [.tuple (xs.map .str)] = .ok (.str (Str.join "" xs)) := by
    show Out.when _ _ = _
    have e1 : (xs.map PyData.str).all isStrD = true := by
      rw [List.all_map]
      exact List.all_eq_true.mpr fun _ _ => rfl
    have e2 : (xs.map PyData.str).map strOf = xs := by
      rw [List.map_map]
      exact (List.map_congr_left fun _ _ => rfl).trans (List.map_id xs)
    have e3 : ((xs.map PyData.str).map fun x => (strOf x).length) = xs.map fun x => x.length := by
      rw [List.map_map]
      rfl
    have e4 := sum_le xs h
    rw [e1, e2, e3, decide_eq_true (show (xs.map fun x => x.length).sum + (xs.map PyData.str).length * ("" : Str).length ≤ sizeLine by
      rw [sizeLine_eq, show ("" : Str).length = 0 from rfl]
      omega)]
    show Out.ok (PyData.str (PySem.Txt.join "" xs)) = _
    rw [show PySem.Txt.join "" xs = Str.join "" xs from StrLaws.glued_eq_join _ _]
  have he : evE F (.k (.str "")) r = .ok (.str "", r) := rfl
  simp only [evE, evL, ha, Out.bind_ok, hm]
theorem mem2 {P : D → Prop} {xs ys : List D} (h : ∀ d ∈ xs, P d) (k : ∀ d ∈ ys, P d) : ∀ d ∈ xs ++ ys, P d := fun d hd => (List.mem_append.mp hd).elim (h d) (k d)
theorem mem1 {P : D → Prop} {x : D} (h : P x) : ∀ d ∈ [x], P d := fun d hd => by
  rw [List.mem_singleton.mp hd]
  exact h
theorem allc {P : D → Prop} {x : D} {xs : List D} (h : P x) (k : ∀ d ∈ xs, P d) : ∀ d ∈ x :: xs, P d := fun d hd => (List.mem_cons.mp hd).elim (fun e => e ▸ h) (k d)
theorem alln {P : D → Prop} : ∀ d ∈ ([] : List D), P d := fun d hd => by cases hd
theorem ab_tr : TR (.tuple [.str "a", .str "b"]) := ⟨["a", "b"], rfl, by decide, by decide, fun x hx => by
  rcases List.mem_cons.mp hx with rfl | hx
  · exact ⟨by decide, by decide +kernel⟩
  · rw [List.mem_singleton.mp hx]
    exact ⟨by decide, by decide +kernel⟩⟩
theorem odd_v {x : Str} (hx : SS x) : ∀ d ∈ ([.str "", .str "A", .str "a1", .str "abcdefghi", .str "a b", .none, .int 0, .bool true, .tuple [.str "a"], .list [.str "a"], .str "zzzzzzzz", .str "a", .str x, .str (x ++ "a")] ++ [.str "`", .str "{"] : List D), Vv 1 200 d := by
  have c : ∀ d : D, (nice d && decide (d.depth ≤ 1) && decide (wt d ≤ 200)) = true → Vv 1 200 d := fun d h => by
    simp only [Bool.and_eq_true, decide_eq_true_eq] at h
    exact ⟨h.1.1, h.1.2, h.2⟩
  have hxa : Vv 1 200 (.str (x ++ "a")) := by
    refine ⟨by rw [nice_app, hx.2]; decide +kernel, Nat.zero_le _, ?_⟩
    simp only [wt]
    rw [strLen_append]
    have := hx.1
    have : ("a" : Str).length = 1 := rfl
    omega
  exact mem2 (allc (c _ (by decide +kernel)) (allc (c _ (by decide +kernel)) (allc (c _ (by decide +kernel)) (allc (c _ (by decide +kernel)) (allc (c _ (by decide +kernel)) (allc (c _ (by decide +kernel)) (allc (c _ (by decide +kernel)) (allc (c _ (by decide +kernel)) (allc (c _ (by decide +kernel)) (allc (c _ (by decide +kernel)) (allc (c _ (by decide +kernel)) (allc (c _ (by decide +kernel)) (allc ((ss_v hx).mono (by omega) (by omega)) (allc hxa alln)))))))))))))) (allc (c _ (by decide +kernel)) (allc (c _ (by decide +kernel)) alln))
theorem tup_v {ds : List D} (h : ∀ d ∈ ds, Vv 1 200 d) (hn : ds.length ≤ 30) : Vv 3 10000 (.tuple ds) := (v_tup (n := 30) h hn).mono (by omega) (by omega)
theorem es_v {xs : List Str} (h : ∀ x ∈ xs, SS x) : ∀ d ∈ xs.map PyData.str, Vv 1 200 d := fun d hd => (strs_v h d hd).mono (by omega) (by omega)
theorem take_all {P : D → Prop} {xs : List D} (h : ∀ d ∈ xs, P d) (k : Nat) : ∀ d ∈ xs.take k, P d := fun d hd => h d (List.mem_of_mem_take hd)
theorem drop_all {P : D → Prop} {xs : List D} (h : ∀ d ∈ xs, P d) (k : Nat) : ∀ d ∈ xs.drop k, P d := fun d hd => h d (List.mem_of_mem_drop hd)
end Lw
end
section
namespace Lw
open PySem Pv
/-- names are short -/
theorem nm_all {st : Nat} (h : st < 4) : ((nmL st 60).all fun x => decide (x.length ≤ 8) && nice (.str x) && nameB (.str x)) = true := by
  match st, h with
  | 0, _ => decide +kernel
  | 1, _ => decide +kernel
  | 2, _ => decide +kernel
  | 3, _ => decide +kernel
  | n + 4, h => exact absurd h (by omega)
theorem nm_sub {st s : Nat} (hs : s ≤ 60) : ∀ x ∈ nmL st s, x ∈ nmL st 60 := fun x hx => by
  unfold nmL at hx ⊢
  obtain ⟨k, hk, rfl⟩ := List.mem_map.mp hx
  exact List.mem_map.mpr ⟨k, List.mem_range.mpr (by have := List.mem_range.mp hk; omega), rfl⟩
theorem nm_ss {st s : Nat} (h : st < 4) (hs : s ≤ 60) : ∀ x ∈ nmL st s, SS x ∧ nameB (.str x) = true := fun x hx => by
  have := List.all_eq_true.mp (nm_all h) x (nm_sub hs x hx)
  simp only [Bool.and_eq_true, decide_eq_true_eq] at this
  exact ⟨⟨this.1.1, this.1.2⟩, this.2⟩
theorem row_tr {st s : Nat} (h : st < 4) (hs : s ≤ 60) {r : D} (hr : Row (nmL st s) r) : TR r ∧ rowB r = true := by
  obtain ⟨xs, rfl, h1, h2, h3, h4⟩ := hr
  refine ⟨⟨xs, rfl, h2, h3, fun x hx => (nm_ss h hs x (h4 x hx)).1⟩, ?_⟩
  have e1 : (xs.map PyData.str).all nameB = true := by
    rw [List.all_map, List.all_eq_true]
    exact fun x hx => (nm_ss h hs x (h4 x hx)).2
  have e2 : (xs.map PyData.str).map strOf = xs := by
    rw [List.map_map]
    exact (List.map_congr_left fun _ _ => rfl).trans (List.map_id xs)
  show (decide (1 ≤ (xs.map PyData.str).length) && decide ((xs.map PyData.str).length ≤ 10) && (xs.map PyData.str).all nameB && adj ((xs.map PyData.str).map strOf)) = true
  rw [e1, e2, h1, List.length_map, decide_eq_true h2, decide_eq_true h3]
  rfl
theorem sub_len : ∀ (xs ys : List Str), xs.Nodup → (∀ x ∈ xs, x ∈ ys) → xs.length ≤ ys.length
  | [], ys, _, _ => Nat.zero_le _
  | x :: xs, ys, nd, h => by
    have nd := List.nodup_cons.mp nd
    have hx : x ∈ ys := h x List.mem_cons_self
    have := sub_len xs (ys.erase x) nd.2 (fun y hy => by
      have hne : y ≠ x := fun e => nd.1 (e ▸ hy)
      exact (List.mem_erase_of_ne hne).mpr (h y (List.mem_cons_of_mem _ hy)))
    rw [List.length_erase_of_mem hx] at this
    have := List.length_pos_of_mem hx
    simp only [List.length_cons]
    omega
theorem log_log {st s : Nat} (h : st < 4) (hs : s ≤ 60) {a : List D} (ha : ∀ r ∈ a, Row (nmL st s) r) (hl : a.length ≤ 60) : logB (.list a) = true := by
  show (decide (a.length ≤ 60) && a.all rowB && decide ((onceS (flat a)).length ≤ 60)) = true
  have e1 : a.all rowB = true := List.all_eq_true.mpr fun r hr => (row_tr h hs (ha r hr)).2
  have e2 : (onceS (flat a)).length ≤ 60 := by
    have := sub_len (onceS (flat a)) (nmL st s) (once_nodup _) (fun x hx => by
      have hx := mem_once.mp hx
      unfold flat at hx
      obtain ⟨l, hl, hx⟩ := List.mem_flatten.mp hx
      obtain ⟨r, hr, rfl⟩ := List.mem_map.mp hl
      obtain ⟨xs, rfl, _, _, _, h4⟩ := ha r hr
      have e2 : rowS (.tuple (xs.map PyData.str)) = xs := by
        show (xs.map PyData.str).map strOf = xs
        rw [List.map_map]
        exact (List.map_congr_left fun _ _ => rfl).trans (List.map_id xs)
      rw [e2] at hx
      exact h4 x hx)
    have hn : (nmL st s).length = s := by simp [nmL]
    omega
  rw [decide_eq_true hl, e1, decide_eq_true e2]
  rfl
theorem rows_v {a : List D} (ha : ∀ r ∈ a, TR r) (hl : a.length ≤ 61) : Vv 2 100000 (.list a) := (v_list (n := 61) (fun d hd => tr_v (ha d hd)) hl).mono (by omega) (by omega)
end Lw
end
section
namespace Lw
open PySem Pv
/-- names of keys -/
def NmOk (nm : List Str) : Prop := nm.length ≤ 60 ∧ ∀ x ∈ nm, SS x ∧ nameB (.str x) = true
theorem nm_okL {st s : Nat} (h : st < 4) (hs : s ≤ 60) : NmOk (nmL st s) := ⟨by simp [nmL]; omega, nm_ss h hs⟩
theorem row_ok {nm : List Str} (h : NmOk nm) {r : D} (hr : Row nm r) : TR r ∧ rowB r = true := by
  obtain ⟨xs, rfl, h1, h2, h3, h4⟩ := hr
  refine ⟨⟨xs, rfl, h2, h3, fun x hx => (h.2 x (h4 x hx)).1⟩, ?_⟩
  show (decide (1 ≤ (xs.map PyData.str).length) && decide ((xs.map PyData.str).length ≤ 10) && (xs.map PyData.str).all nameB && adj ((xs.map PyData.str).map strOf)) = true
  have e : (xs.map PyData.str).map strOf = xs := by
    rw [List.map_map]
    exact (List.map_congr_left fun _ _ => rfl).trans (List.map_id xs)
  have e2 : (xs.map PyData.str).all nameB = true := by
    rw [List.all_map]
    exact List.all_eq_true.mpr fun x hx => (h.2 x (h4 x hx)).2
  rw [e, e2, h1, List.length_map, decide_eq_true h2, decide_eq_true h3]
  rfl
def LogP (nm : List Str) (a : List D) : Prop := a.length ≤ 60 ∧ ∀ r ∈ a, Row nm r
theorem flat_sub {nm : List Str} {a : List D} (ha : ∀ r ∈ a, Row nm r) : ∀ x ∈ flat a, x ∈ nm := fun x hx => by
  unfold flat at hx
  obtain ⟨l, hl, hx⟩ := List.mem_flatten.mp hx
  obtain ⟨r, hr, rfl⟩ := List.mem_map.mp hl
  obtain ⟨xs, rfl, _, _, _, h4⟩ := ha r hr
  have e2 : rowS (.tuple (xs.map PyData.str)) = xs := by
    show (xs.map PyData.str).map strOf = xs
    rw [List.map_map]
    exact (List.map_congr_left fun _ _ => rfl).trans (List.map_id xs)
  rw [e2] at hx
  exact h4 x hx
theorem logB_ok {nm : List Str} (h : NmOk nm) {a : List D} (ha : LogP nm a) : logB (.list a) = true := by
  show (decide (a.length ≤ 60) && a.all rowB && decide ((onceS (flat a)).length ≤ 60)) = true
  have e1 : a.all rowB = true := List.all_eq_true.mpr fun r hr => (row_ok h (ha.2 r hr)).2
  have e2 : (onceS (flat a)).length ≤ 60 := by
    have := sub_len (onceS (flat a)) nm (once_nodup _) fun x hx => flat_sub ha.2 x (mem_once.mp hx)
    have := h.1
    omega
  rw [decide_eq_true ha.1, e1, decide_eq_true e2]
  rfl
theorem log_v {nm : List Str} (h : NmOk nm) {a : List D} (ha : LogP nm a) : Vv 2 100000 (.list a) := rows_v (fun r hr => (row_ok h (ha.2 r hr)).1) (by have := ha.1; omega)
theorem is_log_true {n : Nat} {nm : List Str} (h : NmOk nm) {a : List D} (ha : LogP nm a) : C (n + 3) "is_log" [.list a] = .ok (.bool true, []) := by
  rw [is_log_ok (v_ok (log_v h ha) (by omega) (by omega)).1, logB_ok h ha]
end Lw
end
section
namespace Lw
open PySem Pv
/-! ### dicts of places -/
def dct (ks : List Str) (f : Str → Nat) : List (D × D) := ks.map fun k => (.str k, .int (f k : Nat))
theorem dct_st (ks : List Str) (f : Str → Nat) : St (dct ks f) ks := by
  unfold St dct
  rw [List.map_map]
  rfl
theorem dct_congr {ks : List Str} {f g : Str → Nat} (h : ∀ k ∈ ks, f k = g k) : dct ks f = dct ks g := by
  unfold dct
  exact List.map_congr_left fun k hk => by rw [h k hk]
theorem dct_store (ks : List Str) (f : Str → Nat) (k : Str) (i : Nat) : storeD (.str k) (.int (i : Nat)) (dct ks f) = dct (stepS ks k) (fun x => if x = k then i else f x) := by
  unfold storeD
  rw [(dct_st ks f).any k]
  unfold stepS
  by_cases c : k ∈ ks
  · rw [if_pos (by simpa using c), if_pos (by simpa using c)]
    unfold dct
    rw [List.map_map]
    refine List.map_congr_left fun x _ => ?_
    show (if (PyData.str x).eqv (.str k) = true then (PyData.str x, PyData.int (i : Nat)) else (PyData.str x, PyData.int (f x : Nat))) = _
    rw [eqv_str]
    by_cases e : x = k
    · simp [e]
    · simp [e]
  · rw [if_neg (by simpa using c), if_neg (by simpa using c)]
    unfold dct
    rw [List.map_append]
    congr 1
    · refine List.map_congr_left fun x hx => ?_
      have : x ≠ k := fun e => c (e ▸ hx)
      simp [this]
    · simp
theorem dct_look {ks : List Str} {f : Str → Nat} {k : Str} (m : k ∈ ks) : lookD (.str k) (dct ks f) = some (.int (f k : Nat)) := by
  induction ks with
  | nil => cases m
  | cons x ks ih =>
    show (if (PyData.str x).eqv (.str k) = true then some (PyData.int (f x : Nat)) else lookD (.str k) (dct ks f)) = _
    rw [eqv_str]
    by_cases e : x = k
    · simp [e]
    · simp only [e, decide_false, Bool.false_eq_true, if_false]
      exact ih ((List.mem_cons.mp m).resolve_left fun z => e z.symm)
theorem dct_some (ks : List Str) (f : Str → Nat) (k : Str) : (lookD (.str k) (dct ks f)).isSome = decide (k ∈ ks) := by
  by_cases m : k ∈ ks
  · rw [dct_look m, decide_eq_true m]
    rfl
  · rw [decide_eq_false m]
    induction ks with
    | nil => rfl
    | cons x ks ih =>
      show (if (PyData.str x).eqv (.str k) = true then some (PyData.int (f x : Nat)) else lookD (.str k) (dct ks f)).isSome = _
      rw [eqv_str]
      have : x ≠ k := fun e => m (e ▸ List.mem_cons_self)
      simp only [this, decide_false, Bool.false_eq_true, if_false]
      exact ih fun z => m (List.mem_cons_of_mem _ z)
theorem dct_keys (ks : List Str) (f : Str → Nat) (k : Str) : (keyD (.str k) && ((dct ks f).all fun p => keyS p.1 == keyS (.str k))) = true := by
  rw [show keyD (.str k) = true from rfl, Bool.true_and, List.all_eq_true]
  intro p hp
  obtain ⟨x, _, rfl⟩ := List.mem_map.mp hp
  rfl
theorem dct_get {ks : List Str} {f : Str → Nat} {k : Str} (m : k ∈ ks) : getD (.dict (dct ks f)) (.str k) = .ok (.int (f k : Nat)) := by
  simp only [getD, dct_keys, dct_look m]
theorem dct_nin (ks : List Str) (f : Str → Nat) (k : Str) : cmpD .nin (.str k) (.dict (dct ks f)) = .ok (!decide (k ∈ ks)) := by
  show ((inD (.str k) (.dict (dct ks f))).bind fun b => .ok (!b)) = _
  show ((Out.when (keyD (.str k) && ((dct ks f).all fun p => keyS p.1 == keyS (.str k))) (lookD (.str k) (dct ks f)).isSome).bind fun b => .ok (!b)) = _
  rw [dct_keys, dct_some]
  rfl
theorem dct_len (ks : List Str) (f : Str → Nat) : (dct ks f).length = ks.length := by
  unfold dct
  rw [List.length_map]
theorem step_mem : ∀ (xs ks : List Str) (k : Str), k ∈ xs.foldl stepS ks ↔ k ∈ ks ∨ k ∈ xs
  | [], ks, k => by simp
  | x :: xs, ks, k => by
    rw [List.foldl_cons, step_mem xs]
    unfold stepS
    by_cases c : x ∈ ks
    · rw [if_pos (by simpa using c)]
      constructor
      · exact fun h => h.imp id (List.mem_cons_of_mem _)
      · exact fun h => h.elim .inl fun h => (List.mem_cons.mp h).elim (fun e => .inl (e ▸ c)) .inr
    · rw [if_neg (by simpa using c)]
      simp only [List.mem_append, List.mem_cons, List.not_mem_nil, or_false]
      exact or_assoc
theorem step_nodup {ks : List Str} (h : ks.Nodup) (xs : List Str) : (xs.foldl stepS ks).Nodup := (once_spec xs ks h).1
theorem step_app : ∀ (xs ks : List Str), (ks ++ xs).Nodup → xs.foldl stepS ks = ks ++ xs
  | [], ks, _ => by simp
  | x :: xs, ks, h => by
    have hx : x ∉ ks := fun m => (List.nodup_append.mp h).2.2 x m x List.mem_cons_self rfl
    rw [List.foldl_cons, show stepS ks x = ks ++ [x] from if_neg (by simpa using hx), step_app xs (ks ++ [x]) (by simpa using h)]
    simp
/-- the last row that holds k -/
def LI : List (List Str) → Str → Option Nat
  | [], _ => none
  | r :: rs, k => match LI rs k with
    | some i => some (i + 1)
    | none => if k ∈ r then some 0 else none
theorem LI_mem : ∀ (rs : List (List Str)) (k : Str), (LI rs k).isSome = true ↔ k ∈ rs.flatten
  | [], k => by simp [LI]
  | r :: rs, k => by
    have ih := LI_mem rs k
    rw [List.flatten_cons, List.mem_append, ← ih]
    simp only [LI]
    cases LI rs k with
    | some i => simp
    | none => by_cases c : k ∈ r <;> simp [c]
theorem LI_none {rs : List (List Str)} {k : Str} (h : LI rs k = none) : k ∉ rs.flatten := fun m => by
  have := (LI_mem rs k).mpr m
  rw [h] at this
  cases this
/-- the dict of the last writes -/
def srt (xs : List Str) : List Str := (onceS xs).mergeSort leS
def LF (rs : List D) (k : Str) : Nat := (LI (rs.map rowS) k).getD 0
def LD (rs : List D) : List (D × D) := dct (srt (flat rs)) (LF rs)
theorem srt_mem {xs : List Str} {k : Str} : k ∈ srt xs ↔ k ∈ xs := (List.mergeSort_perm _ _).mem_iff.trans mem_once
theorem srt_nodup (xs : List Str) : (srt xs).Nodup := (List.mergeSort_perm _ _).nodup_iff.mpr (once_nodup _)
theorem flat_len {rs : List D} (hb : ∀ r ∈ rs, rowB r = true) : (flat rs).length ≤ 10 * rs.length := by
  unfold flat
  induction rs with
  | nil => simp
  | cons r rs ih =>
    have := (rowB_tup (hb r List.mem_cons_self)).2.1
    have := ih fun r hr => hb r (List.mem_cons_of_mem _ hr)
    simp only [List.map_cons, List.flatten_cons, List.length_append, List.length_cons]
    omega
/-! ### last_in -/
theorem inner_foldD {F : Fns} {L : D} {f1 : Option D} {j : Nat} {row : D} : ∀ (xs ks : List Str) (f : Str → Nat) (o2 : Option D), ks.length + xs.length ≤ 10 ^ 6 →
    ∃ o2', foldO (inner F) (xs.map .str) (dct ks f, [some L, f1, o2, some (.int (j : Nat)), some row]) = .ok (dct (xs.foldl stepS ks) (fun k => if k ∈ xs then j else f k), [some L, f1, o2', some (.int (j : Nat)), some row])
  | [], ks, f, o2, _ => ⟨o2, by simp⟩
  | x :: xs, ks, f, o2, hl => by
    have g : (keyS (.str x) && ((dct ks f).all fun p => keyS p.1) && decide ((dct ks f).length < sizeLine)) = true := by
      rw [(dct_st ks f).keys, small_len (by rw [dct_len]; simp at hl; omega)]
      rfl
    have st : inner F (.str x) (dct ks f, [some L, f1, o2, some (.int (j : Nat)), some row]) = .ok (dct (stepS ks x) (fun y => if y = x then j else f y), [some L, f1, some (.str x), some (.int (j : Nat)), some row]) := by
      show Out.when (keyS (.str x) && ((dct ks f).all fun p => keyS p.1) && decide ((dct ks f).length < sizeLine)) (storeD (.str x) (.int (j : Nat)) (dct ks f), _) = _
      rw [g, dct_store]
      rfl
    obtain ⟨o2', h1⟩ := inner_foldD (F := F) (L := L) (f1 := f1) (j := j) (row := row) xs (stepS ks x) (fun y => if y = x then j else f y) (some (.str x)) (by
      have := stepS_len [x] ks
      simp at this hl
      omega)
    refine ⟨o2', ?_⟩
    simp only [List.map_cons, foldO_cons]
    rw [st]
    simp only [Out.bind_ok]
    rw [h1, List.foldl_cons]
    have e : (fun k => if k ∈ xs then j else if k = x then j else f k) = fun k => if k ∈ x :: xs then j else f k := by
      funext k
      by_cases a : k ∈ xs <;> by_cases b : k = x <;> simp [a, b]
    rw [e]
theorem outer_foldD {F : Fns} {L : D} {f1 : Option D} : ∀ (rs : List D) (n : Nat) (ks : List Str) (f : Str → Nat) (o2 o3 o4 : Option D), (∀ r ∈ rs, rowB r = true) → ks.length + 10 * rs.length ≤ 10 ^ 6 →
    ∃ o2' o3' o4', foldO (outer F) ((rs.zipIdx n).map fun p => .tuple [.int (p.2 : Nat), p.1]) (dct ks f, [some L, f1, o2, o3, o4]) = .ok (dct ((rs.map rowS).flatten.foldl stepS ks) (fun k => match LI (rs.map rowS) k with | some i => n + i | none => f k), [some L, f1, o2', o3', o4'])
  | [], n, ks, f, o2, o3, o4, _, _ => ⟨o2, o3, o4, by simp [LI]⟩
  | r :: rs, n, ks, f, o2, o3, o4, hb, hl => by
    have hbr : rowB r = true := hb r List.mem_cons_self
    obtain ⟨e, hr, _⟩ := rowB_tup hbr
    obtain ⟨p2, h1⟩ := inner_foldD (F := F) (L := L) (f1 := f1) (j := n) (row := r) (rowS r) ks f none (by simp at hl; omega)
    have st : outer F (.tuple [.int (n : Nat), r]) (dct ks f, [some L, f1, o2, o3, o4]) = .ok (dct ((rowS r).foldl stepS ks) (fun k => if k ∈ rowS r then n else f k), [some L, f1, p2, some (.int (n : Nat)), some r]) := by
      have it : itD .seq [r] = .ok ((rowS r).map .str) := by
        conv => lhs; rw [e]
        rfl
      show ((evL F [(.v 4)] [some L, f1, none, some (.int (n : Nat)), some r]).bind fun x2 => (itD .seq x2.1).bind fun items2 => foldO (inner F) items2 (dct ks f, x2.2)) = _
      rw [show evL F [(.v 4)] [some L, f1, none, some (.int (n : Nat)), some r] = .ok ([r], [some L, f1, none, some (.int (n : Nat)), some r]) from rfl]
      simp only [Out.bind_ok, it]
      exact h1
    have hlen := stepS_len (rowS r) ks
    obtain ⟨q2, q3, q4, g1⟩ := outer_foldD (F := F) (L := L) (f1 := f1) rs (n + 1) ((rowS r).foldl stepS ks) (fun k => if k ∈ rowS r then n else f k) p2 (some (.int (n : Nat))) (some r) (fun p hp => hb p (List.mem_cons_of_mem _ hp)) (by simp at hl; omega)
    refine ⟨q2, q3, q4, ?_⟩
    rw [List.zipIdx_cons, List.map_cons, foldO_cons, st]
    simp only [Out.bind_ok]
    rw [g1, List.map_cons, List.flatten_cons, List.foldl_append]
    have e2 : (fun k => match LI (rs.map rowS) k with | some i => n + 1 + i | none => if k ∈ rowS r then n else f k) = fun k => match LI (rowS r :: rs.map rowS) k with | some i => n + i | none => f k := by
      funext k
      simp only [LI]
      cases LI (rs.map rowS) k with
      | some i =>
        show n + 1 + i = n + (i + 1)
        omega
      | none => by_cases c : k ∈ rowS r <;> simp [c]
    rw [e2]
theorem dstep_foldD {F : Fns} {L : D} {ks0 : List Str} {f : Str → Nat} : ∀ (xs ks : List Str) (o2 o3 o4 : Option D), (∀ x ∈ xs, x ∈ ks0) →
    ∃ o2', foldO (dstep F) (xs.map .str) (dct ks f, [some L, some (.dict (dct ks0 f)), o2, o3, o4]) = .ok (dct (xs.foldl stepS ks) f, [some L, some (.dict (dct ks0 f)), o2', o3, o4])
  | [], ks, o2, o3, o4, _ => ⟨o2, rfl⟩
  | x :: xs, ks, o2, o3, o4, hm => by
    have hv := dct_get (f := f) (hm x List.mem_cons_self)
    have g : (keyS (.str x) && ((dct ks f).all fun p => keyS p.1)) = true := by
      rw [(dct_st ks f).keys]
      rfl
    have e1 : evE F (.ix (.v 1) (.v 2)) [some L, some (.dict (dct ks0 f)), some (.str x), o3, o4] = .ok (.int (f x : Nat), [some L, some (.dict (dct ks0 f)), some (.str x), o3, o4]) := e_ix rfl rfl hv
    have st : dstep F (.str x) (dct ks f, [some L, some (.dict (dct ks0 f)), o2, o3, o4]) = .ok (dct (stepS ks x) f, [some L, some (.dict (dct ks0 f)), some (.str x), o3, o4]) := by
      show ((evE F (.ix (.v 1) (.v 2)) [some L, some (.dict (dct ks0 f)), some (.str x), o3, o4]).bind fun z => .when (keyS (.str x) && ((dct ks f).all fun p => keyS p.1)) (storeD (.str x) z.1 (dct ks f), z.2)) = _
      rw [e1, g]
      simp only [Out.bind_ok]
      rw [dct_store]
      have e : (fun y => if y = x then f x else f y) = f := by
        funext y
        by_cases c : y = x <;> simp [c]
      rw [e]
      rfl
    obtain ⟨o2', h1⟩ := dstep_foldD (F := F) (L := L) (ks0 := ks0) (f := f) xs (stepS ks x) (some (.str x)) o3 o4 (fun y hy => hm y (List.mem_cons_of_mem _ hy))
    refine ⟨o2', ?_⟩
    simp only [List.map_cons, foldO_cons]
    rw [st]
    exact h1
theorem last_inD {n : Nat} {rs : List D} (hb : ∀ r ∈ rs, rowB r = true) (hl : rs.length ≤ 60) : C (n + 1) "last_in" [.list rs] = .ok (.dict (LD rs), []) := by
  unfold C
  rw [ev_succ (e := e_last_in) (by rfl)]
  obtain ⟨o2, o3, o4, h1⟩ := outer_foldD (F := Fn n) (L := .list rs) (f1 := none) rs 0 [] (fun _ => 0) none none none hb (by simp; omega)
  have ef : (fun k => match LI (rs.map rowS) k with | some i => 0 + i | none => 0) = LF rs := by
    funext k
    unfold LF
    cases LI (rs.map rowS) k with
    | some i => exact Nat.zero_add i
    | none => rfl
  rw [ef] at h1
  have h1 : foldO (outer (Fn n)) (rs.zipIdx.map fun p => .tuple [.int (p.2 : Nat), p.1]) ([], wipeE [some (.list rs), none, none, none, none] [3, 4, 2]) = .ok (dct (onceS (flat rs)) (LF rs), [some (.list rs), none, o2, o3, o4]) := h1
  have d2 : evE (Fn n) (.dc2 (.v 2) (.v 3) (.t [3, 4]) .enum [(.v 0)] [] (.n 2) .seq [(.v 4)] [] [3, 4, 2] [2]) [some (.list rs), none, none, none, none] = .ok (.dict (dct (onceS (flat rs)) (LF rs)), [some (.list rs), none, none, none, none]) := by
    have it : itD .enum [.list rs] = .ok (rs.zipIdx.map fun p => .tuple [.int (p.2 : Nat), p.1]) := rfl
    show ((evL (Fn n) [(.v 0)] [some (.list rs), none, none, none, none]).bind fun x => (itD .enum x.1).bind fun items => Out.bind (Out.noX (foldO (outer (Fn n)) items ([], wipeE x.2 [3, 4, 2]))) fun a => .ok (PyData.dict a.1, backE x.2 a.2 [3, 4, 2])) = _
    rw [show evL (Fn n) [(.v 0)] [some (.list rs), none, none, none, none] = .ok ([.list rs], [some (.list rs), none, none, none, none]) from rfl]
    simp only [Out.bind_ok, it, h1, Out.noX_ok]
    rfl
  have hs : biD .sorted [.dict (dct (onceS (flat rs)) (LF rs))] = .ok (.list ((srt (flat rs)).map .str)) := by
    show Out.when _ _ = _
    rw [(dct_st _ _).keys, dct_st, sortOk_strs, sort_strs]
    rfl
  obtain ⟨o2', h3⟩ := dstep_foldD (F := Fn n) (L := .list rs) (ks0 := onceS (flat rs)) (f := LF rs) (srt (flat rs)) [] none none none (fun x hx => (List.mergeSort_perm _ _).mem_iff.mp hx)
  rw [step_app (srt (flat rs)) [] (by simpa using srt_nodup _), List.nil_append] at h3
  have hln : (srt (flat rs)).length ≤ 600 := by
    have h5 := stepS_len (flat rs) []
    have h6 := flat_len hb
    unfold srt
    rw [List.length_mergeSort]
    show ((flat rs).foldl stepS []).length ≤ 600
    simp at h5
    omega
  have e2 : evE (Fn n) (.dc (.v 2) (.ix (.v 1) (.v 2)) (.n 2) .seq [(.bi .sorted [(.v 1)])] [] [2]) [some (.list rs), some (.dict (dct (onceS (flat rs)) (LF rs))), none, none, none] = .ok (.dict (LD rs), [some (.list rs), some (.dict (dct (onceS (flat rs)) (LF rs))), none, none, none]) := by
    have e1 : evL (Fn n) [(.bi .sorted [(.v 1)])] [some (.list rs), some (.dict (dct (onceS (flat rs)) (LF rs))), none, none, none] = .ok ([.list ((srt (flat rs)).map .str)], [some (.list rs), some (.dict (dct (onceS (flat rs)) (LF rs))), none, none, none]) := l_cons (e_bi1 rfl hs) l_nil
    have h3' : foldO (dstep (Fn n)) ((srt (flat rs)).map .str) ([], wipeE [some (.list rs), some (.dict (dct (onceS (flat rs)) (LF rs))), none, none, none] [2]) = .ok (LD rs, [some (.list rs), some (.dict (dct (onceS (flat rs)) (LF rs))), o2', none, none]) := h3
    show ((evL (Fn n) [(.bi .sorted [(.v 1)])] [some (.list rs), some (.dict (dct (onceS (flat rs)) (LF rs))), none, none, none]).bind fun x => (itD .seq x.1).bind fun items => Out.bind (Out.when (fits items.length) ()) fun _ => Out.bind (Out.noX (foldO (dstep (Fn n)) items ([], wipeE x.2 [2]))) fun a => .ok (PyData.dict a.1, backE x.2 a.2 [2])) = _
    rw [e1]
    have hf : fits ((srt (flat rs)).map PyData.str).length = true := decide_eq_true (by rw [List.length_map, sizeLine_eq]; omega)
    simp only [Out.bind_ok, itD, hf, Out.when_true, h3', Out.noX_ok]
    rfl
  exact run_out rfl (ss_nx (s_asg (e_dn d2) rfl) (ss_retP (s_ret e2))) rfl rfl
end Lw
end
section
namespace Lw
open PySem PySem.W Pv
theorem s_putd {F : Fns} {fu i : Nat} {x e : E} {r r1 r2 : Pv.Env} {v k z : D} {kvs : List (D × D)} (he : evE F e r = .ok (v, r1)) (h1 : r1[i]? = some (some z)) (hx : evE F x r1 = .ok (k, r2)) (h2 : r2[i]? = some (some (.dict kvs))) (g : (keyS k && (kvs.all fun p => keyS p.1) && decide (kvs.length < sizeLine)) = true) :
    evS F fu (.putd i x e) r = .ok (.nx, r2.set i (some (.dict (storeD k v kvs)))) := by
  simp only [evS, he, Out.bind_ok, h1, hx, h2, g, Out.when_true]
theorem sort_uniq {xs ys : List Str} (p : xs.Perm ys) : xs.mergeSort leS = ys.mergeSort leS :=
  List.Perm.eq_of_pairwise (le := fun a b => leS a b = true) (fun a b _ _ h1 h2 => str_of_cps (List.le_antisymm (of_decide_eq_true h1) (of_decide_eq_true h2))) (sort_pair _) (sort_pair _) ((List.mergeSort_perm _ _).trans (p.trans (List.mergeSort_perm _ _).symm))
abbrev inB : List S := [.ifs (.cmp .nin (.v 3) (.v 1)) [.putd 1 (.v 3) (.v 2)] []]
theorem ll_inner {F : Fns} {L : D} {p : Nat} : ∀ (xs ks : List Str) (f : Str → Nat) (o3 : Option D), ks.length + xs.length ≤ 10 ^ 6 →
    ∃ o3', forO (.n 3) (evSs F fuel inB) (xs.map .str) [some L, some (.dict (dct ks f)), some (.int (p : Nat)), o3] = .ok (.nx, [some L, some (.dict (dct (xs.foldl stepS ks) (fun k => if k ∈ ks then f k else if k ∈ xs then p else f k))), some (.int (p : Nat)), o3'])
  | [], ks, f, o3, _ => ⟨o3, by simp [forO]⟩
  | x :: xs, ks, f, o3, hl => by
    have h0 : asgT (.n 3) (.str x) [some L, some (.dict (dct ks f)), some (.int (p : Nat)), o3] = .ok [some L, some (.dict (dct ks f)), some (.int (p : Nat)), some (.str x)] := rfl
    have c : evE F (.cmp .nin (.v 3) (.v 1)) [some L, some (.dict (dct ks f)), some (.int (p : Nat)), some (.str x)] = .ok (.bool (!decide (x ∈ ks)), [some L, some (.dict (dct ks f)), some (.int (p : Nat)), some (.str x)]) := e_cmp rfl rfl (dct_nin ks f x)
    by_cases m : x ∈ ks
    · rw [decide_eq_true m] at c
      have b : evSs F fuel inB [some L, some (.dict (dct ks f)), some (.int (p : Nat)), some (.str x)] = .ok (.nx, [some L, some (.dict (dct ks f)), some (.int (p : Nat)), some (.str x)]) := ss_nx (s_if c rfl (ss_nilP (F := F) (fu := fuel))) ss_nilP
      obtain ⟨o3', w⟩ := ll_inner (F := F) (L := L) (p := p) xs ks f (some (.str x)) (by simp at hl; omega)
      refine ⟨o3', ?_⟩
      simp only [List.map_cons, forO, h0, Out.bind_ok]
      rw [b]
      simp only [Out.bind_ok]
      rw [w, List.foldl_cons, show stepS ks x = ks from if_pos (by simpa using m)]
      have e : (fun k => if k ∈ ks then f k else if k ∈ xs then p else f k) = fun k => if k ∈ ks then f k else if k ∈ x :: xs then p else f k := by
        funext k
        by_cases a : k ∈ ks
        · simp [a]
        · have : k ≠ x := fun e => a (e ▸ m)
          simp [a, this]
      rw [e]
    · rw [decide_eq_false m] at c
      have g : (keyS (.str x) && ((dct ks f).all fun p => keyS p.1) && decide ((dct ks f).length < sizeLine)) = true := by
        rw [(dct_st ks f).keys, small_len (by rw [dct_len]; simp at hl; omega)]
        rfl
      have b : evSs F fuel inB [some L, some (.dict (dct ks f)), some (.int (p : Nat)), some (.str x)] = .ok (.nx, [some L, some (.dict (dct (stepS ks x) (fun y => if y = x then p else f y))), some (.int (p : Nat)), some (.str x)]) := by
        rw [← dct_store]
        exact ss_nx (s_if c rfl (ss_nx (s_putd (z := .dict (dct ks f)) rfl rfl rfl rfl g) ss_nilP)) ss_nilP
      have es : stepS ks x = ks ++ [x] := if_neg (by simpa using m)
      obtain ⟨o3', w⟩ := ll_inner (F := F) (L := L) (p := p) xs (stepS ks x) (fun y => if y = x then p else f y) (some (.str x)) (by rw [es]; simp at hl ⊢; omega)
      refine ⟨o3', ?_⟩
      simp only [List.map_cons, forO, h0, Out.bind_ok]
      rw [b]
      simp only [Out.bind_ok]
      rw [w, List.foldl_cons]
      have e : (fun k => if k ∈ stepS ks x then (if k = x then p else f k) else if k ∈ xs then p else if k = x then p else f k) = fun k => if k ∈ ks then f k else if k ∈ x :: xs then p else f k := by
        funext k
        rw [es]
        by_cases a : k ∈ ks
        · have : k ≠ x := fun e => m (e ▸ a)
          simp [a, this]
        · by_cases d : k = x
          · simp [a, d, m]
          · by_cases q : k ∈ xs <;> simp [a, d, q]
      rw [e]
def items (m : Nat) : List D := (List.range m).map fun (k : Nat) => .int ((m : Int) - 1 + (k : Int) * (-1))
theorem items_succ (m : Nat) : items (m + 1) = .int (m : Nat) :: items m := by
  unfold items
  rw [List.range_succ_eq_map, List.map_cons, List.map_map]
  congr 1
  · congr 1
    omega
  · refine List.map_congr_left fun k _ => ?_
    show PyData.int (((m + 1 : Nat) : Int) - 1 + ((k + 1 : Nat) : Int) * (-1)) = _
    congr 1
    omega
theorem get_nat {xs : List D} {m : Nat} (h : m < xs.length) : getD (.list xs) (.int (m : Nat)) = .ok xs[m] := by
  have e : (ixD xs.length (m : Nat)).bind (fun j => xs[j]?) = some xs[m] := by
    unfold ixD
    rw [if_pos (by omega), if_pos (by omega), Int.toNat_natCast]
    simp
  simp only [getD, e]
theorem keys_len {rows : List D} (hb : ∀ r ∈ rows, rowB r = true) (hl : rows.length ≤ 60) {ks : List Str} (nd : ks.Nodup) (sub : ∀ k ∈ ks, k ∈ flat rows) : ks.length ≤ 600 := by
  have h1 := sub_len ks (flat rows) nd sub
  have h2 := flat_len hb
  omega
theorem ll_outer {F : Fns} {rows : List D} (hb : ∀ r ∈ rows, rowB r = true) (hl : rows.length ≤ 60) : ∀ (m : Nat), m ≤ rows.length → ∀ (ks : List Str) (f : Str → Nat) (o2 o3 : Option D), ks.Nodup → (∀ k, k ∈ ks ↔ k ∈ ((rows.drop m).map rowS).flatten) → (∀ k i, LI ((rows.drop m).map rowS) k = some i → f k = m + i) →
    ∃ ks' f' o2' o3', forO (.n 2) (evSs F fuel [.for (.n 3) .seq [(.ix (.v 0) (.v 2))] inB]) (items m) [some (.list rows), some (.dict (dct ks f)), o2, o3] = .ok (.nx, [some (.list rows), some (.dict (dct ks' f')), o2', o3']) ∧ ks'.Nodup ∧ (∀ k, k ∈ ks' ↔ k ∈ flat rows) ∧ ∀ k i, LI (rows.map rowS) k = some i → f' k = i
  | 0, _, ks, f, o2, o3, nd, hk, hf => ⟨ks, f, o2, o3, rfl, nd, fun k => by simpa [flat] using hk k, fun k i h => by simpa using hf k i (by simpa using h)⟩
  | m + 1, hm, ks, f, o2, o3, nd, hk, hf => by
    have hm' : m < rows.length := by omega
    have hbr := hb rows[m] (List.getElem_mem hm')
    obtain ⟨er, hr, _⟩ := rowB_tup hbr
    have ed : rows.drop m = rows[m] :: rows.drop (m + 1) := List.drop_eq_getElem_cons hm'
    have kl := keys_len hb hl nd fun k h => by
      have h2 := (hk k).mp h
      have : flat rows = ((rows.take (m + 1)).map rowS).flatten ++ ((rows.drop (m + 1)).map rowS).flatten := by
        unfold flat
        rw [← List.flatten_append, ← List.map_append, List.take_append_drop]
      rw [this]
      exact List.mem_append_right _ h2
    obtain ⟨o3', w⟩ := ll_inner (F := F) (L := .list rows) (p := m) (rowS rows[m]) ks f o3 (by omega)
    have h0 : asgT (.n 2) (.int (m : Nat)) [some (.list rows), some (.dict (dct ks f)), o2, o3] = .ok [some (.list rows), some (.dict (dct ks f)), some (.int (m : Nat)), o3] := rfl
    have it : itD .seq [rows[m]] = .ok ((rowS rows[m]).map .str) := by
      conv => lhs; rw [er]
      rfl
    have b : evSs F fuel [.for (.n 3) .seq [(.ix (.v 0) (.v 2))] inB] [some (.list rows), some (.dict (dct ks f)), some (.int (m : Nat)), o3] = .ok (.nx, [some (.list rows), some (.dict (dct ((rowS rows[m]).foldl stepS ks) (fun k => if k ∈ ks then f k else if k ∈ rowS rows[m] then m else f k))), some (.int (m : Nat)), o3']) :=
      ss_nx (s_for (l_cons (e_ix rfl rfl (get_nat hm')) l_nil) it w) ss_nilP
    obtain ⟨ks', f', q2, q3, g1, g2, g3, g4⟩ := ll_outer (F := F) hb hl m (by omega) ((rowS rows[m]).foldl stepS ks) (fun k => if k ∈ ks then f k else if k ∈ rowS rows[m] then m else f k) (some (.int (m : Nat))) o3' (step_nodup nd _) (fun k => by
      rw [step_mem, ed, List.map_cons, List.flatten_cons, List.mem_append, hk k]
      exact or_comm) (fun k i h => by
      rw [ed, List.map_cons] at h
      simp only [LI] at h
      cases hc : LI ((rows.drop (m + 1)).map rowS) k with
      | some j =>
        rw [hc] at h
        have : k ∈ ks := (hk k).mpr ((LI_mem _ k).mp (by rw [hc]; rfl))
        have h : some (j + 1) = some i := h
        cases h
        rw [if_pos this, hf k j hc]
        omega
      | none =>
        rw [hc] at h
        have hn : k ∉ ks := fun z => LI_none hc ((hk k).mp z)
        rw [if_neg hn]
        by_cases c : k ∈ rowS rows[m]
        · have h : (if k ∈ rowS rows[m] then some 0 else none) = some i := h
          rw [if_pos c] at h
          cases h
          rw [if_pos c]
          rfl
        · have h : (if k ∈ rowS rows[m] then some 0 else none) = some i := h
          rw [if_neg c] at h
          cases h)
    refine ⟨ks', f', q2, q3, ?_, g2, g3, g4⟩
    rw [items_succ]
    simp only [forO, h0, Out.bind_ok]
    rw [b]
    exact g1
theorem rng_down (m : Nat) (h : m ≤ 1000) : itD .rng [.int ((m : Int) - 1), .int (-1), .int (-1)] = .ok (items m) := by
  show rngC ((m : Int) - 1) (-1) (-1) = _
  have sz : Builtin.Range.rangeSize ((m : Int) - 1) (-1) (-1) = (m : Nat) := by
    unfold Builtin.Range.rangeSize
    rw [if_neg (by decide)]
    by_cases c : (m : Int) - 1 > -1
    · rw [if_pos c]
      have : ((m : Int) - 1 - (-1) - 1) / (- -1) = (m : Int) - 1 := by
        rw [show (- -1 : Int) = 1 from rfl, Int.ediv_one]
        omega
      rw [this]
      omega
    · rw [if_neg c]
      omega
  have sm : Builtin.Range.small ((m : Int) - 1) (-1) (-1) = true := by
    unfold Builtin.Range.small
    rw [sz]
    have f : ∀ x : Int, -2000 ≤ x → x ≤ 2000 → Builtin.Range.rangeFitsLong x = true := fun x h1 h2 => by
      unfold Builtin.Range.rangeFitsLong
      simp
      omega
    rw [f _ (by omega) (by omega), f (-1) (by omega) (by omega), f (m : Nat) (by omega) (by omega), if_neg (by decide), show ((-1 : Int) + (-1 + 1)) = -1 from rfl, f (-1) (by omega) (by omega)]
    simp
  unfold rngC
  rw [sz, sm, decide_eq_true (show (0 : Int) ≤ ((m : Nat) : Int) by omega)]
  rfl
theorem dict_pairs {xs : List Str} (nd : xs.Nodup) (f : Str → Nat) : biD .dict [.list (xs.map fun x => .tuple [.str x, .int (f x : Nat)])] = .ok (.dict (dct xs f)) := by
  show Out.when _ _ = _
  have ha : ((xs.map fun x => PyData.tuple [.str x, .int (f x : Nat)]).all fun x => match pairOf x with | some p => keyS p.1 | none => false) = true := by
    rw [List.all_map]
    exact List.all_eq_true.mpr fun _ _ => rfl
  have hf : ∀ (ys ks : List Str), (ys.map fun x => PyData.tuple [.str x, .int (f x : Nat)]).foldl (fun a x => match pairOf x with | some p => storeD p.1 p.2 a | none => a) (dct ks f) = dct (ys.foldl stepS ks) f := by
    intro ys
    induction ys with
    | nil => intro ks; rfl
    | cons y ys ih =>
      intro ks
      rw [List.map_cons, List.foldl_cons, List.foldl_cons]
      show (ys.map fun x => PyData.tuple [.str x, .int (f x : Nat)]).foldl _ (storeD (.str y) (.int (f y : Nat)) (dct ks f)) = _
      rw [dct_store]
      have e : (fun z => if z = y then f y else f z) = f := by
        funext z
        by_cases c : z = y <;> simp [c]
      rw [e]
      exact ih _
  have hx : (xs.map fun x => PyData.tuple [.str x, .int (f x : Nat)]).foldl (fun a x => match pairOf x with | some p => storeD p.1 p.2 a | none => a) [] = dct xs f := by
    have := hf xs []
    rw [step_app xs [] (by simpa using nd), List.nil_append] at this
    exact this
  exact (congr (congrArg Out.when ha) (congrArg PyData.dict hx)).trans rfl
theorem law_last_ok {n : Nat} {rows : List D} (hb : ∀ r ∈ rows, rowB r = true) (hl : rows.length ≤ 60) : C (n + 1) "_law_last" [.list rows] = .ok (.dict (LD rows), []) := by
  unfold C
  rw [ev_succ (e := e_law_last) (by rfl)]
  obtain ⟨ks, f, o2, o3, w, nd, hk, hf⟩ := ll_outer (F := Fn n) hb hl rows.length (Nat.le_refl _) [] (fun _ => 0) none none List.nodup_nil (fun k => by simp) (fun k i h => by simp [LI] at h)
  have q : evS (Fn n) fuel (.for (.n 2) .rng [(.bin .sub (.bi .len [(.v 0)]) (.k (.int 1))), (.neg (.k (.int 1))), (.neg (.k (.int 1)))] [.for (.n 3) .seq [(.ix (.v 0) (.v 2))] inB]) [some (.list rows), some (.dict []), none, none] = .ok (.nx, [some (.list rows), some (.dict (dct ks f)), o2, o3]) :=
    s_for (xs := [.int ((rows.length : Int) - 1), .int (-1), .int (-1)]) rfl (rng_down rows.length (by omega)) w
  have kl := keys_len hb hl nd fun k h => (hk k).mp h
  have hs : biD .sorted [.dict (dct ks f)] = .ok (.list ((ks.mergeSort leS).map .str)) := by
    show Out.when _ _ = _
    rw [(dct_st _ _).keys, dct_st, sortOk_strs, sort_strs]
    rfl
  have lc := lc_map (F := Fn n) (e := .tup [(.v 3), (.ix (.v 1) (.v 3))]) (tg := .n 3) (ik := .seq) (il := [(.bi .sorted [(.v 1)])]) (ifs := []) (own := [3]) (r := [some (.list rows), some (.dict (dct ks f)), o2, o3]) (xs := [.list ((ks.mergeSort leS).map .str)]) (items := (ks.mergeSort leS).map .str) (fun d => .tuple [d, .int (f (strOf d) : Nat)]) (fun _ => true) (l_cons (e_bi1 rfl hs) l_nil) rfl (decide_eq_true (by rw [List.length_map, List.length_mergeSort, sizeLine_eq]; omega)) (fun d hd => by
    obtain ⟨x, hx, rfl⟩ := List.mem_map.mp hd
    have hx : x ∈ ks := (List.mergeSort_perm _ _).mem_iff.mp hx
    exact ⟨[some (.list rows), some (.dict (dct ks f)), o2, some (.str x)], rfl, rfl, rfl, fun _ => e_tup (l_cons rfl (l_cons (e_ix rfl rfl (dct_get hx)) l_nil))⟩)
  rw [List.filter_eq_self.mpr (fun _ _ => rfl), List.map_map] at lc
  have nds : (ks.mergeSort leS).Nodup := (List.mergeSort_perm _ _).nodup_iff.mpr nd
  have dp := dict_pairs nds f
  have eq : dct (ks.mergeSort leS) f = LD rows := by
    unfold LD srt
    have p : ks.Perm (onceS (flat rows)) := (List.perm_ext_iff_of_nodup nd (once_nodup _)).mpr fun k => (hk k).trans mem_once.symm
    rw [sort_uniq p]
    refine dct_congr fun k hk2 => ?_
    have hk3 : k ∈ flat rows := mem_once.mp ((List.mergeSort_perm _ _).mem_iff.mp hk2)
    obtain ⟨i, hi⟩ := Option.isSome_iff_exists.mp ((LI_mem (rows.map rowS) k).mpr hk3)
    rw [hf k i hi]
    unfold LF
    rw [hi]
    rfl
  rw [eq] at dp
  exact run_out rfl (ss_nx (s_asg rfl rfl) (ss_nx q (ss_retP (s_ret (e_bi1 lc dp))))) rfl rfl
end Lw
end
section
namespace Lw
open PySem Pv
theorem call_C {n : Nat} {f : Str} {ds : List D} {o : Out (D × List D)} (h : C n f ds = o) : (Fn n).call f ds = o := h
theorem eq_int {a b : Int} : cmpD .eq (.int a) (.int b) = .ok (decide (a = b)) := by
  show Out.ok ((PyData.int a).eqv (.int b)) = _
  simp only [PyData.eqv]
  by_cases c : a = b
  · subst c
    simp
  · simp [c]
/-! ### _law_same, of a value and itself -/
def Sm : Nat → D → Prop
  | _, .none => True
  | _, .bool _ => True
  | _, .int _ => True
  | _, .str _ => True
  | k + 1, .list xs => xs.length ≤ 10 ^ 6 ∧ ∀ x ∈ xs, Sm k x
  | k + 1, .tuple xs => xs.length ≤ 10 ^ 6 ∧ ∀ x ∈ xs, Sm k x
  | k + 2, .dict kvs => ∃ ks f, kvs = dct ks f ∧ ks.length ≤ 10 ^ 6
  | _, _ => False
theorem sm_str (k : Nat) (x : Str) : Sm k (.str x) := by cases k <;> trivial
theorem sm_int (k : Nat) (i : Int) : Sm k (.int i) := by cases k <;> trivial
theorem zip_self : ∀ (xs : List D), ∀ d ∈ zipL xs xs, ∃ x ∈ xs, d = .tuple [x, x]
  | [], d, h => by cases h
  | x :: xs, d, h => by
    simp only [zipL] at h
    rcases List.mem_cons.mp h with rfl | h
    · exact ⟨x, List.mem_cons_self, rfl⟩
    · obtain ⟨y, hy, e⟩ := zip_self xs d h
      exact ⟨y, List.mem_cons_of_mem _ hy, e⟩
theorem zip_lenS (xs : List D) : (zipL xs xs).length = xs.length := by
  induction xs with
  | nil => rfl
  | cons x xs ih => simp only [zipL, List.length_cons, ih]
theorem eq_bool (b : Bool) : cmpD .eq (.bool b) (.bool b) = .ok true := by cases b <;> rfl
theorem ne_bool (b : Bool) : cmpD .ne (.bool b) (.bool b) = .ok false := by cases b <;> rfl
theorem same_lc {n : Nat} {d : D} {xs : List D} (hd : d = .list xs ∨ d = .tuple xs) (hl : xs.length ≤ 10 ^ 6) (h : ∀ x ∈ xs, C n "_law_same" [x, x] = .ok (.bool true, [])) :
    evE (Fn n) (.bi .all [(.lc (.call "_law_same" 0 [(.v 2), (.v 3)] [] [] false) (.t [2, 3]) .zip [(.v 0), (.v 1)] [] [2, 3])]) [some d, some d, none, none] = .ok (.bool true, [some d, some d, none, none]) := by
  have lc := lc_map (F := Fn n) (e := .call "_law_same" 0 [(.v 2), (.v 3)] [] [] false) (tg := .t [2, 3]) (ik := .zip) (il := [(.v 0), (.v 1)]) (ifs := []) (own := [2, 3]) (r := [some d, some d, none, none]) (xs := [d, d]) (items := zipL xs xs) (fun _ => .bool true) (fun _ => true) rfl (by rcases hd with rfl | rfl <;> rfl) (decide_eq_true (by rw [sizeLine_eq, zip_lenS]; omega)) (fun z hz => by
    obtain ⟨x, hx, rfl⟩ := zip_self xs z hz
    exact ⟨[some d, some d, some x, some x], rfl, rfl, rfl, fun _ => e_call (xs := [x, x]) (ys := [x, x]) (outs := []) rfl rfl rfl (call_C (h x hx)) rfl rfl⟩)
  rw [List.filter_eq_self.mpr (fun _ _ => rfl)] at lc
  have a1 := e_bi1 lc (all_bools (zipL xs xs) fun _ => true)
  rw [show ((zipL xs xs).all fun _ => true) = true from List.all_eq_true.mpr fun _ _ => rfl] at a1
  exact a1
theorem list_dict {ks : List Str} {f : Str → Nat} : biD .list [.dict (dct ks f)] = .ok (.list (ks.map .str)) := by
  show Out.when ((dct ks f).all fun p => keyS p.1) (PyData.list ((dct ks f).map (·.1))) = _
  rw [(dct_st ks f).keys, dct_st]
  rfl
theorem walk_dict {ks : List Str} {f : Str → Nat} : itD .dk [.dict (dct ks f)] = .ok (ks.map .str) := by
  show Out.when ((dct ks f).all fun p => keyS p.1) ((dct ks f).map (·.1)) = _
  rw [(dct_st ks f).keys, dct_st]
  rfl
theorem same_dict {n : Nat} {ks : List Str} {f : Str → Nat} (hl : ks.length ≤ 10 ^ 6) (h : ∀ i : Int, C n "_law_same" [.int i, .int i] = .ok (.bool true, [])) :
    evE (Fn n) (.bi .all [(.lc (.call "_law_same" 0 [(.ix (.v 0) (.v 2)), (.ix (.v 1) (.v 2))] [] [] false) (.n 2) .dk [(.v 1)] [] [2])]) [some (.dict (dct ks f)), some (.dict (dct ks f)), none, none] = .ok (.bool true, [some (.dict (dct ks f)), some (.dict (dct ks f)), none, none]) := by
  have lc := lc_map (F := Fn n) (e := .call "_law_same" 0 [(.ix (.v 0) (.v 2)), (.ix (.v 1) (.v 2))] [] [] false) (tg := .n 2) (ik := .dk) (il := [(.v 1)]) (ifs := []) (own := [2]) (r := [some (.dict (dct ks f)), some (.dict (dct ks f)), none, none]) (xs := [.dict (dct ks f)]) (items := ks.map .str) (fun _ => .bool true) (fun _ => true) rfl walk_dict (decide_eq_true (by rw [sizeLine_eq, List.length_map]; omega)) (fun z hz => by
    obtain ⟨x, hx, rfl⟩ := List.mem_map.mp hz
    have g := dct_get (f := f) hx
    exact ⟨[some (.dict (dct ks f)), some (.dict (dct ks f)), some (.str x), none], rfl, rfl, rfl, fun _ => e_call (xs := [.int (f x : Nat), .int (f x : Nat)]) (ys := [.int (f x : Nat), .int (f x : Nat)]) (outs := []) (l_cons (e_ix rfl rfl g) (l_cons (e_ix rfl rfl g) l_nil)) rfl rfl (call_C (h _)) rfl rfl⟩)
  rw [List.filter_eq_self.mpr (fun _ _ => rfl)] at lc
  have a1 := e_bi1 lc (all_bools (ks.map .str) fun _ => true)
  rw [show ((ks.map PyData.str).all fun _ => true) = true from List.all_eq_true.mpr fun _ _ => rfl] at a1
  exact a1
theorem same_ok : ∀ (k n : Nat) (d : D), Sm k d → C (n + k + 1) "_law_same" [d, d] = .ok (.bool true, [])
  | k, n, d, h => by
    unfold C
    rw [ev_succ (e := e_law_same) (by rfl)]
    cases d with
    | none => rfl
    | bool b => exact run_out rfl (ss_nx (s_if (d := .bool false) rfl rfl (ss_nilP (F := Fn (n + k)) (fu := fuel))) (ss_nx (s_if (d := .bool false) rfl rfl (ss_nilP (F := Fn (n + k)) (fu := fuel))) (ss_nx (s_if (d := .bool false) rfl rfl (ss_nilP (F := Fn (n + k)) (fu := fuel))) (ss_nx (s_if (d := .bool false) rfl rfl (ss_nilP (F := Fn (n + k)) (fu := fuel))) (ss_retP (s_ret (e_cmp rfl rfl (eq_bool b)))))))) rfl rfl
    | int i => exact run_out rfl (ss_nx (s_if (d := .bool false) rfl rfl (ss_nilP (F := Fn (n + k)) (fu := fuel))) (ss_nx (s_if (d := .bool false) rfl rfl (ss_nilP (F := Fn (n + k)) (fu := fuel))) (ss_nx (s_if (d := .bool false) rfl rfl (ss_nilP (F := Fn (n + k)) (fu := fuel))) (ss_nx (s_if (d := .bool false) rfl rfl (ss_nilP (F := Fn (n + k)) (fu := fuel))) (ss_retP (s_ret (e_cmp rfl rfl (by rw [eq_int, decide_eq_true rfl])))))))) rfl rfl
    | str x => exact run_out rfl (ss_nx (s_if (d := .bool false) rfl rfl (ss_nilP (F := Fn (n + k)) (fu := fuel))) (ss_nx (s_if (d := .bool false) rfl rfl (ss_nilP (F := Fn (n + k)) (fu := fuel))) (ss_nx (s_if (d := .bool false) rfl rfl (ss_nilP (F := Fn (n + k)) (fu := fuel))) (ss_nx (s_if (d := .bool false) rfl rfl (ss_nilP (F := Fn (n + k)) (fu := fuel))) (ss_retP (s_ret (e_cmp rfl rfl (eq_str x)))))))) rfl rfl
    | list xs =>
      match k, h with
      | k + 1, h =>
        have q := same_lc (n := n + (k + 1)) (d := .list xs) (.inl rfl) h.1 fun x hx => same_ok k n x (h.2 x hx)
        have l : evE (Fn (n + (k + 1))) (.cmp .eq (.bi .len [(.v 0)]) (.bi .len [(.v 1)])) [some (.list xs), some (.list xs), none, none] = .ok (.bool true, [some (.list xs), some (.list xs), none, none]) := e_cmp (e_bi1 rfl lenL) (e_bi1 rfl lenL) (by rw [eq_int, decide_eq_true rfl])
        exact run_out rfl (ss_retP (s_if (d := .bool true) rfl rfl (ss_nx (s_if (d := .bool false) rfl rfl (ss_nilP (F := Fn (n + (k + 1))) (fu := fuel))) (ss_retP (s_ret (e_and l q)))))) rfl rfl
    | tuple xs =>
      match k, h with
      | k + 1, h =>
        have q := same_lc (n := n + (k + 1)) (d := .tuple xs) (.inr rfl) h.1 fun x hx => same_ok k n x (h.2 x hx)
        have l : evE (Fn (n + (k + 1))) (.cmp .eq (.bi .len [(.v 0)]) (.bi .len [(.v 1)])) [some (.tuple xs), some (.tuple xs), none, none] = .ok (.bool true, [some (.tuple xs), some (.tuple xs), none, none]) := e_cmp (e_bi1 rfl (len_tup xs)) (e_bi1 rfl (len_tup xs)) (by rw [eq_int, decide_eq_true rfl])
        exact run_out rfl (ss_retP (s_if (d := .bool true) rfl rfl (ss_nx (s_if (d := .bool false) rfl rfl (ss_nilP (F := Fn (n + (k + 1))) (fu := fuel))) (ss_retP (s_ret (e_and l q)))))) rfl rfl
    | dict kvs =>
      match k, h with
      | k + 2, h =>
        obtain ⟨ks, f, rfl, hl⟩ := h
        have q := same_dict (n := n + (k + 2)) (f := f) hl fun i => same_ok (k + 1) n (.int i) (sm_int _ _)
        have sl : C (n + (k + 2)) "_law_same" [.list (ks.map .str), .list (ks.map .str)] = .ok (.bool true, []) := same_ok (k + 1) n (.list (ks.map .str)) ⟨by rw [List.length_map]; exact hl, fun d hd => by
          obtain ⟨x, _, rfl⟩ := List.mem_map.mp hd
          exact sm_str _ _⟩
        have c : evE (Fn (n + (k + 2))) (.call "_law_same" 0 [(.dn 0 (.bi .list [(.v 0)])), (.dn 0 (.bi .list [(.v 1)]))] [] [] false) [some (.dict (dct ks f)), some (.dict (dct ks f)), none, none] = .ok (.bool true, [some (.dict (dct ks f)), some (.dict (dct ks f)), none, none]) := e_call (xs := [.list (ks.map .str), .list (ks.map .str)]) (ys := [.list (ks.map .str), .list (ks.map .str)]) (outs := []) (l_cons (e_dn (e_bi1 rfl list_dict)) (l_cons (e_dn (e_bi1 rfl list_dict)) l_nil)) rfl rfl (call_C sl) rfl rfl
        exact run_out rfl (ss_nx (s_if (d := .bool false) rfl rfl (ss_nilP (F := Fn (n + (k + 2))) (fu := fuel))) (ss_retP (s_if (d := .bool true) rfl rfl (ss_nx (s_if (e_or (z := false) rfl (e_not c rfl)) rfl (ss_nilP (F := Fn (n + (k + 2))) (fu := fuel))) (ss_retP (s_ret q)))))) rfl rfl
theorem ne_str (x : Str) : cmpD .ne (.str x) (.str x) = .ok false := by
  show ((cmpD .eq (.str x) (.str x)).bind fun b => .ok (!b)) = _
  rw [eq_str]
  rfl
theorem e_rev {F : Fns} {i : Nat} {r : Pv.Env} {xs : List D} (h : r[i]? = some (some (.list xs))) : evE F (.mu .reverse i []) r = .ok (.none, r.set i (some (.list xs.reverse))) := by
  have hm : muD .reverse (.list xs) [] = .ok (.none, .list xs.reverse) := rfl
  simp only [evE, evL, h, Out.bind_ok, isListD, if_true, hm]
theorem e_dclr {F : Fns} {i : Nat} {r : Pv.Env} {kvs : List (D × D)} (h : r[i]? = some (some (.dict kvs))) (g : (kvs.all fun p => keyS p.1) = true) : evE F (.dclr i) r = .ok (.none, r.set i (some (.dict []))) := by
  simp only [evE, h, g, Out.when_true]
theorem log_rows {nm : List Str} (hn : NmOk nm) {a : List D} (h : LogP nm a) : ∀ r ∈ a, rowB r = true := fun r hr => (row_ok hn (h.2 r hr)).2
theorem ld_len {nm : List Str} (hn : NmOk nm) {a : List D} (h : LogP nm a) : (srt (flat a)).length ≤ 600 := keys_len (log_rows hn h) h.1 (srt_nodup _) fun k hk => srt_mem.mp hk
theorem last_writes_ok {n : Nat} {nm : List Str} (hn : NmOk nm) {a : List D} (h : LogP nm a) : C (n + 4) "last_writes" [.list a] = .ok (.dict (LD a), []) := by
  unfold C
  rw [ev_succ (e := e_last_writes) (by rfl)]
  have c1 : evE (Fn (n + 3)) (.call "is_log" 0 [(.v 0)] [] [] false) [some (.list a)] = .ok (.bool true, [some (.list a)]) := e_call (xs := [.list a]) (ys := [.list a]) (outs := []) rfl rfl rfl (call_C (is_log_true hn h)) rfl rfl
  have c2 : evE (Fn (n + 3)) (.call "last_in" 1 [(.v 0)] [] [] false) [some (.list a)] = .ok (.dict (LD a), [some (.list a)]) := e_call (xs := [.list a]) (ys := [.list a]) (outs := []) rfl rfl rfl (call_C (last_inD (n := n + 2) (log_rows hn h) h.1)) rfl rfl
  exact run_out rfl (ss_nx (s_if (e_not c1 rfl) rfl (ss_nilP (F := Fn (n + 3)) (fu := fuel))) (ss_retP (s_ret c2))) rfl rfl
theorem sm_two {nm : List Str} (hn : NmOk nm) {a : List D} (h : LogP nm a) : Sm 3 (.list [.dict (LD a), .dict (LD a)]) := by
  have s : Sm 2 (.dict (LD a)) := ⟨_, _, rfl, by have := ld_len hn h; omega⟩
  exact ⟨by simp, allc s (mem1 s)⟩
theorem right_ok {n : Nat} {nm : List Str} (hn : NmOk nm) {a : List D} (h : LogP nm a) : C (n + 5) "_law_right" [.list a] = .ok (.bool true, []) := by
  unfold C
  rw [ev_succ (e := e_law_right) (by rfl)]
  have lw := last_writes_ok (n := n) hn h
  have ll := law_last_ok (n := n + 3) (log_rows hn h) h.1
  have sm : C (n + 4) "_law_same" [.list [.dict (LD a), .dict (LD a)], .list [.dict (LD a), .dict (LD a)]] = .ok (.bool true, []) := same_ok 3 n _ (sm_two hn h)
  have big := (v_ok (log_v hn h) (by omega) (by omega)).2
  generalize hT : (PyData.list a).shown = T
  have r1 := repr_ok big
  rw [hT] at r1
  have kl := ld_len hn h
  have gk : (keyS (.str "zz") && ((LD a).all fun p => keyS p.1) && decide ((LD a).length < sizeLine)) = true := by
    unfold LD
    rw [(dct_st _ _).keys, small_len (by rw [dct_len]; omega)]
    rfl
  have st : storeD (.str "zz") (.int 0) (LD a) = dct (stepS (srt (flat a)) "zz") (fun x => if x = "zz" then 0 else LF a x) := dct_store _ _ "zz" 0
  have e1 : evE (Fn (n + 4)) (.bi .repr [(.v 0)]) [some (.list a), none, none, none, none] = .ok (.str T, [some (.list a), none, none, none, none]) := e_bi1 rfl r1
  have e2 : evE (Fn (n + 4)) (.call "_law_last" 1 [(.v 0)] [] [] false) [some (.list a), some (.str T), none, none, none] = .ok (.dict (LD a), [some (.list a), some (.str T), none, none, none]) := e_call (xs := [.list a]) (ys := [.list a]) (outs := []) rfl rfl rfl (call_C ll) rfl rfl
  have e3 : evE (Fn (n + 4)) (.call "last_writes" 1 [(.v 0)] [] [] false) [some (.list a), some (.str T), some (.dict (LD a)), none, none] = .ok (.dict (LD a), [some (.list a), some (.str T), some (.dict (LD a)), none, none]) := e_call (xs := [.list a]) (ys := [.list a]) (outs := []) rfl rfl rfl (call_C lw) rfl rfl
  have e4 : evE (Fn (n + 4)) (.call "last_writes" 1 [(.v 0)] [0] [] false) [some (.list a), some (.str T), some (.dict (LD a)), none, none] = .ok (.dict (LD a), [some (.list a), some (.str T), some (.dict (LD a)), none, none]) := e_callK (xs := [.list a]) (ys := [.list a]) (outs := []) rfl rfl (call_C lw) rfl
  have e5 : evE (Fn (n + 4)) (.not (.call "_law_same" 0 [(.lo (.lst [(.v 3), (.v 4)])), (.dn 0 (.lst [(.v 2), (.v 2)]))] [] [] true)) [some (.list a), some (.str T), some (.dict (LD a)), some (.dict (LD a)), some (.dict (LD a))] = .ok (.bool false, [some (.list a), some (.str T), some (.dict (LD a)), some (.dict (LD a)), some (.dict (LD a))]) := e_not (e_call (xs := [.list [.dict (LD a), .dict (LD a)], .list [.dict (LD a), .dict (LD a)]]) (ys := [.list [.dict (LD a), .dict (LD a)], .list [.dict (LD a), .dict (LD a)]]) (outs := []) rfl rfl rfl (call_C sm) rfl rfl) rfl
  have e6 : evE (Fn (n + 4)) (.cmp .ne (.bi .repr [(.v 0)]) (.v 1)) [some (.list a), some (.str T), some (.dict (LD a)), some (.dict (LD a)), some (.dict (LD a))] = .ok (.bool false, [some (.list a), some (.str T), some (.dict (LD a)), some (.dict (LD a)), some (.dict (LD a))]) := e_cmp (e_bi1 rfl r1) rfl (ne_str T)
  have e7 : evS (Fn (n + 4)) fuel (.putd 3 (.k (.str "zz")) (.k (.int 0))) [some (.list a), some (.str T), some (.dict (LD a)), some (.dict (LD a)), some (.dict (LD a))] = .ok (.nx, [some (.list a), some (.str T), some (.dict (LD a)), some (.dict (dct (stepS (srt (flat a)) "zz") (fun x => if x = "zz" then 0 else LF a x))), some (.dict (LD a))]) := by
    rw [← st]
    exact s_putd (z := .dict (LD a)) (r1 := [some (.list a), some (.str T), some (.dict (LD a)), some (.dict (LD a)), some (.dict (LD a))]) (r2 := [some (.list a), some (.str T), some (.dict (LD a)), some (.dict (LD a)), some (.dict (LD a))]) rfl rfl rfl rfl gk
  have e8 : evS (Fn (n + 4)) fuel (.ex (.dclr 3)) [some (.list a), some (.str T), some (.dict (LD a)), some (.dict (dct (stepS (srt (flat a)) "zz") (fun x => if x = "zz" then 0 else LF a x))), some (.dict (LD a))] = .ok (.nx, [some (.list a), some (.str T), some (.dict (LD a)), some (.dict []), some (.dict (LD a))]) := s_ex (e_dclr rfl (dct_st _ _).keys)
  have e9 : evE (Fn (n + 4)) (.call "last_writes" 1 [(.v 0)] [] [] false) [some (.list a), some (.str T), some (.dict (LD a)), some (.dict []), some (.dict (LD a))] = .ok (.dict (LD a), [some (.list a), some (.str T), some (.dict (LD a)), some (.dict []), some (.dict (LD a))]) := e_call (xs := [.list a]) (ys := [.list a]) (outs := []) rfl rfl rfl (call_C lw) rfl rfl
  have e10 : evE (Fn (n + 4)) (.call "_law_same" 0 [(.dn 0 (.lst [(.v 4), (.dn 0 (.call "last_writes" 1 [(.v 0)] [] [] false))])), (.dn 0 (.lst [(.v 2), (.v 2)]))] [] [] false) [some (.list a), some (.str T), some (.dict (LD a)), some (.dict []), some (.dict (LD a))] = .ok (.bool true, [some (.list a), some (.str T), some (.dict (LD a)), some (.dict []), some (.dict (LD a))]) := e_call (xs := [.list [.dict (LD a), .dict (LD a)], .list [.dict (LD a), .dict (LD a)]]) (ys := [.list [.dict (LD a), .dict (LD a)], .list [.dict (LD a), .dict (LD a)]]) (outs := []) (l_cons (e_dn (e_lst (l_cons rfl (l_cons (e_dn e9) l_nil)))) (l_cons rfl l_nil)) rfl rfl (call_C sm) rfl rfl
  exact run_out rfl (ss_nx (s_asg e1 rfl) (ss_nx (s_asg (e_dn e2) rfl) (ss_nx (s_par (xs := [.dict (LD a), .dict (LD a)]) (l_cons e3 (l_cons (e_dn e4) l_nil)) rfl) (ss_nx (s_if (e_or e5 e6) rfl (ss_nilP (F := Fn (n + 4)) (fu := fuel))) (ss_nx e7 (ss_nx e8 (ss_retP (s_ret e10)))))))) rfl rfl
end Lw
end
section
namespace Lw
open PySem Pv
theorem imm_dct (ks : List Str) (f : Str → Nat) : immAt 1 (.dict (dct ks f)) = true := by
  show ((dct ks f).all fun p => immD p.1 && immAt 0 p.2) = true
  rw [List.all_eq_true]
  intro p hp
  obtain ⟨x, _, rfl⟩ := List.mem_map.mp hp
  rfl
theorem e_ins {F : Fns} {i : Nat} {a c : E} {r : Pv.Env} {xs : List D} {k : Nat} {d : D} (h : r[i]? = some (some (.list xs))) (ha : evE F a r = .ok (.int (k : Nat), r)) (hc : evE F c r = .ok (d, r)) (hk : k ≤ xs.length) (hl : xs.length ≤ 1000) : evE F (.mu .insert i [a, c]) r = .ok (.none, r.set i (some (.list (xs.take k ++ d :: xs.drop k)))) := by
  have hm : muD .insert (.list xs) [.int (k : Nat), d] = .ok (.none, .list (xs.take k ++ d :: xs.drop k)) := by
    show Out.when (decide (0 ≤ ((k : Nat) : Int)) && decide (((k : Nat) : Int) ≤ xs.length) && decide (xs.length < sizeLine)) _ = _
    rw [decide_eq_true (by omega), decide_eq_true (by omega), small_len (by omega)]
    rfl
  simp only [evE, evL, h, ha, hc, Out.bind_ok, isListD, if_true, hm]
theorem e_popA {F : Fns} {i : Nat} {a : E} {r : Pv.Env} {xs : List D} {k : Nat} (h : r[i]? = some (some (.list xs))) (ha : evE F a r = .ok (.int (k : Nat), r)) (hk : k < xs.length) (hl : xs.length < 2 ^ 20) : ∃ d, evE F (.mu .pop i [a]) r = .ok (d, r.set i (some (.list (xs.eraseIdx k)))) := by
  obtain ⟨d, _, hm⟩ := pop_ok (left := xs) (i := (k : Nat)) (by omega) (by omega) hl
  rw [Int.toNat_natCast] at hm
  refine ⟨d, ?_⟩
  simp only [evE, evL, h, ha, Out.bind_ok, isListD, if_true, hm]
theorem ins_log {nm : List Str} {a : List D} {d : D} (h : LogP nm a) (hd : Row nm d) (hl : a.length < 60) (k : Nat) : LogP nm (a.take k ++ d :: a.drop k) := by
  refine ⟨?_, fun r hr => ?_⟩
  · rw [List.length_append, List.length_cons, List.length_take, List.length_drop]
    omega
  · rcases List.mem_append.mp hr with m | m
    · exact h.2 r (List.mem_of_mem_take m)
    · rcases List.mem_cons.mp m with rfl | m
      · exact hd
      · exact h.2 r (List.mem_of_mem_drop m)
theorem ers_log {nm : List Str} {a : List D} (h : LogP nm a) (k : Nat) : LogP nm (a.eraseIdx k) := by
  refine ⟨?_, fun r hr => h.2 r (List.mem_of_mem_eraseIdx hr)⟩
  have := List.length_eraseIdx_le a k
  have := h.1
  omega
theorem rev_log {nm : List Str} {a : List D} (h : LogP nm a) : LogP nm a.reverse := ⟨by rw [List.length_reverse]; exact h.1, fun r hr => h.2 r (List.mem_reverse.mp hr)⟩
theorem minI (i j : Nat) : biD .min [.int (i : Nat), .int (j : Nat)] = .ok (.int ((min i j : Nat) : Int)) := minN i j
/-- one change of the rows -/
theorem change_ok {F : Fns} {nm : List Str} {src N : D} {o3 : Option D} {E4 E5 row : D} {sp wy : Nat} {a : List D} (h : LogP nm a) (hr : Row nm row) (hs : sp ≤ a.length) :
    ∃ a', evS F fuel (.ifs (.and (.cmp .eq (.v 8) (.k (.int 0))) (.cmp .lt (.bi .len [(.v 1)]) (.k (.int 60)))) [.ex (.mu .insert 1 [(.v 7), (.v 6)])] [.ifs (.and (.cmp .eq (.v 8) (.k (.int 1))) (.cmp .ne (.v 1) (.lst []))) [.ex (.mu .pop 1 [(.bi .min [(.v 7), (.bin .sub (.bi .len [(.v 1)]) (.k (.int 1)))])])] [.ex (.mu .reverse 1 [])]]) [some src, some (.list a), some N, o3, some E4, some E5, some row, some (.int (sp : Nat)), some (.int (wy : Nat))] = .ok (.nx, [some src, some (.list a'), some N, o3, some E4, some E5, some row, some (.int (sp : Nat)), some (.int (wy : Nat))]) ∧ LogP nm a' := by
  have hl := h.1
  have c0 : evE F (.cmp .eq (.v 8) (.k (.int 0))) [some src, some (.list a), some N, o3, some E4, some E5, some row, some (.int (sp : Nat)), some (.int (wy : Nat))] = .ok (.bool (decide ((wy : Int) = 0)), [some src, some (.list a), some N, o3, some E4, some E5, some row, some (.int (sp : Nat)), some (.int (wy : Nat))]) := e_cmp rfl rfl eq_int
  have c1 : evE F (.cmp .lt (.bi .len [(.v 1)]) (.k (.int 60))) [some src, some (.list a), some N, o3, some E4, some E5, some row, some (.int (sp : Nat)), some (.int (wy : Nat))] = .ok (.bool (decide (a.length < 60)), [some src, some (.list a), some N, o3, some E4, some E5, some row, some (.int (sp : Nat)), some (.int (wy : Nat))]) := e_cmp (e_bi1 rfl lenL) rfl (lt_int (b := 60))
  have c2 : evE F (.cmp .eq (.v 8) (.k (.int 1))) [some src, some (.list a), some N, o3, some E4, some E5, some row, some (.int (sp : Nat)), some (.int (wy : Nat))] = .ok (.bool (decide ((wy : Int) = 1)), [some src, some (.list a), some N, o3, some E4, some E5, some row, some (.int (sp : Nat)), some (.int (wy : Nat))]) := e_cmp rfl rfl eq_int
  have c3 : evE F (.cmp .ne (.v 1) (.lst [])) [some src, some (.list a), some N, o3, some E4, some E5, some row, some (.int (sp : Nat)), some (.int (wy : Nat))] = .ok (.bool (!a.isEmpty), [some src, some (.list a), some N, o3, some E4, some E5, some row, some (.int (sp : Nat)), some (.int (wy : Nat))]) := e_cmp rfl rfl (ne_nil _)
  have first : ∀ z : Bool, (decide ((wy : Int) = 0) && decide (a.length < 60)) = z → evE F (.and (.cmp .eq (.v 8) (.k (.int 0))) (.cmp .lt (.bi .len [(.v 1)]) (.k (.int 60)))) [some src, some (.list a), some N, o3, some E4, some E5, some row, some (.int (sp : Nat)), some (.int (wy : Nat))] = .ok (.bool z, [some src, some (.list a), some N, o3, some E4, some E5, some row, some (.int (sp : Nat)), some (.int (wy : Nat))]) := fun z hz => by
    refine e_and c0 ?_
    subst hz
    cases decide ((wy : Int) = 0) with
    | true =>
      rw [if_pos rfl, c1, Bool.true_and]
    | false => rfl
  have second : ∀ z : Bool, (decide ((wy : Int) = 1) && !a.isEmpty) = z → evE F (.and (.cmp .eq (.v 8) (.k (.int 1))) (.cmp .ne (.v 1) (.lst []))) [some src, some (.list a), some N, o3, some E4, some E5, some row, some (.int (sp : Nat)), some (.int (wy : Nat))] = .ok (.bool z, [some src, some (.list a), some N, o3, some E4, some E5, some row, some (.int (sp : Nat)), some (.int (wy : Nat))]) := fun z hz => by
    refine e_and c2 ?_
    subst hz
    cases decide ((wy : Int) = 1) with
    | true =>
      rw [if_pos rfl, c3, Bool.true_and]
    | false => rfl
  cases hA : (decide ((wy : Int) = 0) && decide (a.length < 60)) with
  | true =>
    rw [Bool.and_eq_true, decide_eq_true_eq, decide_eq_true_eq] at hA
    exact ⟨_, s_if (first true (by simp [hA.1, hA.2])) rfl (ss_nx (s_ex (e_ins rfl rfl rfl hs (by omega))) ss_nilP), ins_log h hr hA.2 sp⟩
  | false =>
    cases hB : (decide ((wy : Int) = 1) && !a.isEmpty) with
    | true =>
      have hne : 0 < a.length := by
        rw [Bool.and_eq_true] at hB
        cases a with
        | nil => simp at hB
        | cons x a => simp
      have l1 : evE F (.bin .sub (.bi .len [(.v 1)]) (.k (.int 1))) [some src, some (.list a), some N, o3, some E4, some E5, some row, some (.int (sp : Nat)), some (.int (wy : Nat))] = .ok (.int ((a.length - 1 : Nat) : Int), [some src, some (.list a), some N, o3, some E4, some E5, some row, some (.int (sp : Nat)), some (.int (wy : Nat))]) := e_bin (e_bi1 rfl lenL) rfl (by
        rw [b_sub]
        have : ((a.length : Nat) : Int) - 1 = ((a.length - 1 : Nat) : Int) := by omega
        rw [this])
      have mn : evE F (.bi .min [(.v 7), (.bin .sub (.bi .len [(.v 1)]) (.k (.int 1)))]) [some src, some (.list a), some N, o3, some E4, some E5, some row, some (.int (sp : Nat)), some (.int (wy : Nat))] = .ok (.int ((min sp (a.length - 1) : Nat) : Int), [some src, some (.list a), some N, o3, some E4, some E5, some row, some (.int (sp : Nat)), some (.int (wy : Nat))]) := e_bi2 rfl l1 (minI sp (a.length - 1))
      obtain ⟨d, hp⟩ := e_popA (F := F) (i := 1) (r := [some src, some (.list a), some N, o3, some E4, some E5, some row, some (.int (sp : Nat)), some (.int (wy : Nat))]) rfl mn (by omega) (by omega)
      exact ⟨_, s_if (first false hA) rfl (ss_nx (s_if (second true hB) rfl (ss_nx (s_ex hp) ss_nilP)) ss_nilP), ers_log h _⟩
    | false => exact ⟨_, s_if (first false hA) rfl (ss_nx (s_if (second false hB) rfl (ss_nx (s_ex (e_rev rfl)) ss_nilP)) ss_nilP), rev_log h⟩
abbrev lpB : List S := [.par [7, 8] [(.call "_law_pick" 0 [(.io 0), (.bin .add (.bi .len [(.v 1)]) (.k (.int 1)))] [] [(0, 0)] false), (.call "_law_pick" 0 [(.io 0), (.k (.int 3))] [] [(0, 0)] false)], .asg (.n 6) (.bi .tuple [(.bi .sorted [(.sl 0 (.call "_law_shuffled" 1 [(.io 0), (.v 2)] [] [(0, 0)] false) (.k .none) (.k (.int 3)))])]), .ifs (.and (.cmp .eq (.v 8) (.k (.int 0))) (.cmp .lt (.bi .len [(.v 1)]) (.k (.int 60)))) [.ex (.mu .insert 1 [(.v 7), (.v 6)])] [.ifs (.and (.cmp .eq (.v 8) (.k (.int 1))) (.cmp .ne (.v 1) (.lst []))) [.ex (.mu .pop 1 [(.bi .min [(.v 7), (.bin .sub (.bi .len [(.v 1)]) (.k (.int 1)))])])] [.ex (.mu .reverse 1 [])]], .ifs (.not (.call "_law_right" 0 [(.v 1)] [] [] true)) [.ret (.k (.bool false))] []]
theorem lp_step {n : Nat} {nm ws : List Str} (hn : NmOk nm) (nd : nm.Nodup) (h1 : 1 ≤ nm.length) (hw : ws.Perm nm) {src : D} {m : Int} (hs : Src m src) (hm : m ≤ 2 ^ 45) {a : List D} (h : LogP nm a) {t : D} {E4 E5 : D} {o6 o7 o8 : Option D} :
    ∃ src' a' p6 p7 p8, evSs (Fn (n + 5)) fuel lpB [some src, some (.list a), some (.list (ws.map .str)), some t, some E4, some E5, o6, o7, o8] = .ok (.nx, [some src', some (.list a'), some (.list (ws.map .str)), some t, some E4, some E5, p6, p7, p8]) ∧ LogP nm a' ∧ Src (m + 100) src' := by
  have hl := h.1
  have l1 : evE (Fn (n + 5)) (.bin .add (.bi .len [(.v 1)]) (.k (.int 1))) [some src, some (.list a), some (.list (ws.map .str)), some t, some E4, some E5, o6, o7, o8] = .ok (.int ((a.length + 1 : Nat) : Int), [some src, some (.list a), some (.list (ws.map .str)), some t, some E4, some E5, o6, o7, o8]) := e_bin (e_bi1 rfl lenL) rfl (addr1 _)
  obtain ⟨sp, x1, b1, s1, p1⟩ := pk (n := n + 4) (r := [some src, some (.list a), some (.list (ws.map .str)), some t, some E4, some E5, o6, o7, o8]) hs rfl l1 (by omega) (by omega) (by omega)
  obtain ⟨wy, x2, b2, s2, p2⟩ := pk (n := n + 4) (r := [some x1, some (.list a), some (.list (ws.map .str)), some t, some E4, some E5, o6, o7, o8]) (e := .k (.int 3)) (k := 3) s1 rfl rfl (by omega) (by omega) (by omega)
  have q1 : evS (Fn (n + 5)) fuel (.par [7, 8] [(.call "_law_pick" 0 [(.io 0), (.bin .add (.bi .len [(.v 1)]) (.k (.int 1)))] [] [(0, 0)] false), (.call "_law_pick" 0 [(.io 0), (.k (.int 3))] [] [(0, 0)] false)]) [some src, some (.list a), some (.list (ws.map .str)), some t, some E4, some E5, o6, o7, o8] = .ok (.nx, [some x2, some (.list a), some (.list (ws.map .str)), some t, some E4, some E5, o6, some (.int (sp : Nat)), some (.int (wy : Nat))]) := s_par (l_cons p1 (l_cons p2 l_nil)) rfl
  obtain ⟨ys, x3, e3, hp, s3⟩ := shuffled_ok (n := n + 3) (xs := ws.map .str) s2 (by omega) (by rw [List.length_map, hw.length_eq]; have := hn.1; omega)
  obtain ⟨vs, rfl, hv⟩ := strs_of_perm hp
  obtain ⟨hso, hrow⟩ := row_of (w := 3) nd (hv.trans hw) (by omega) (by omega) h1
  have c3 : evE (Fn (n + 5)) (.call "_law_shuffled" 1 [(.io 0), (.v 2)] [] [(0, 0)] false) [some x2, some (.list a), some (.list (ws.map .str)), some t, some E4, some E5, o6, some (.int (sp : Nat)), some (.int (wy : Nat))] = .ok (.list (vs.map .str), [some x3, some (.list a), some (.list (ws.map .str)), some t, some E4, some E5, o6, some (.int (sp : Nat)), some (.int (wy : Nat))]) := e_call (xs := [.none, .list (ws.map .str)]) (ys := [x2, .list (ws.map .str)]) (outs := [x3]) rfl rfl rfl (call_C e3) rfl rfl
  have q2 : evS (Fn (n + 5)) fuel (.asg (.n 6) (.bi .tuple [(.bi .sorted [(.sl 0 (.call "_law_shuffled" 1 [(.io 0), (.v 2)] [] [(0, 0)] false) (.k .none) (.k (.int 3)))])])) [some x2, some (.list a), some (.list (ws.map .str)), some t, some E4, some E5, o6, some (.int (sp : Nat)), some (.int (wy : Nat))] = .ok (.nx, [some x3, some (.list a), some (.list (ws.map .str)), some t, some E4, some E5, some (.tuple (((vs.take 3).mergeSort leS).map .str)), some (.int (sp : Nat)), some (.int (wy : Nat))]) := s_asg (r1 := [some x3, some (.list a), some (.list (ws.map .str)), some t, some E4, some E5, o6, some (.int (sp : Nat)), some (.int (wy : Nat))]) (e_bi1 (e_bi1 (e_hi c3 rfl rfl (sl_hi _ 3)) hso) rfl) rfl
  obtain ⟨a', q3, h'⟩ := change_ok (F := Fn (n + 5)) (src := x3) (N := .list (ws.map .str)) (o3 := some t) (E4 := E4) (E5 := E5) (row := .tuple (((vs.take 3).mergeSort leS).map .str)) (sp := sp) (wy := wy) h hrow (by omega)
  have rt := right_ok (n := n) hn h'
  have q4e : evE (Fn (n + 5)) (.not (.call "_law_right" 0 [(.v 1)] [] [] true)) [some x3, some (.list a'), some (.list (ws.map .str)), some t, some E4, some E5, some (.tuple (((vs.take 3).mergeSort leS).map .str)), some (.int (sp : Nat)), some (.int (wy : Nat))] = .ok (.bool false, [some x3, some (.list a'), some (.list (ws.map .str)), some t, some E4, some E5, some (.tuple (((vs.take 3).mergeSort leS).map .str)), some (.int (sp : Nat)), some (.int (wy : Nat))]) := e_not (e_call (xs := [.list a']) (ys := [.list a']) (outs := []) rfl rfl rfl (call_C rt) rfl rfl) rfl
  have wl : ws.length ≤ 60 := by
    rw [hw.length_eq]
    exact hn.1
  exact ⟨x3, a', _, _, _, ss_nx q1 (ss_nx q2 (ss_nx q3 (ss_nx (s_if q4e rfl (ss_nilP (F := Fn (n + 5)) (fu := fuel))) ss_nilP))), h', s3.mono (by rw [List.length_map]; omega)⟩
theorem changes_ok {n : Nat} {nm ws : List Str} (hn : NmOk nm) (nd : nm.Nodup) (h1 : 1 ≤ nm.length) (hw : ws.Perm nm) {src : D} {m : Int} (hs : Src m src) (hm : m ≤ 2 ^ 44) {a : List D} (h : LogP nm a) :
    ∃ src' a', C (n + 6) "_law_changes_right" [src, .list a, .list (ws.map .str)] = .ok (.bool true, [src', .list a']) ∧ Src (m + 1000) src' := by
  unfold C
  rw [ev_succ (e := e_law_changes_right) (by rfl)]
  have lw := last_writes_ok (n := n + 1) hn h
  have ll := law_last_ok (n := n + 4) (log_rows hn h) h.1
  have e1 : evE (Fn (n + 5)) (.call "last_writes" 1 [(.v 1)] [] [] true) [some src, some (.list a), some (.list (ws.map .str)), none, none, none, none, none, none] = .ok (.dict (LD a), [some src, some (.list a), some (.list (ws.map .str)), none, none, none, none, none, none]) := e_call (xs := [.list a]) (ys := [.list a]) (outs := []) rfl rfl rfl (call_C lw) (by
    show (immAt 1 (.dict (LD a)) && true) = true
    rw [LD, imm_dct]
    rfl) rfl
  have e2 : evE (Fn (n + 5)) (.call "_law_last" 1 [(.v 1)] [] [] true) [some src, some (.list a), some (.list (ws.map .str)), none, none, none, none, none, none] = .ok (.dict (LD a), [some src, some (.list a), some (.list (ws.map .str)), none, none, none, none, none, none]) := e_call (xs := [.list a]) (ys := [.list a]) (outs := []) rfl rfl rfl (call_C ll) (by
    show (immAt 1 (.dict (LD a)) && true) = true
    rw [LD, imm_dct]
    rfl) rfl
  obtain ⟨r', f1, src', a', p3, p6, p7, p8, rfl, h', s'⟩ := for_inv (tg := .n 3) (body := evSs (Fn (n + 5)) fuel lpB) (fun i r => ∃ src' a' p3 p6 p7 p8, r = [some src', some (.list a'), some (.list (ws.map .str)), p3, some (.dict (LD a)), some (.dict (LD a)), p6, p7, p8] ∧ LogP nm a' ∧ Src (m + 100 * i) src') ((List.range 6).map fun k => .int (k : Nat)) 0 [some src, some (.list a), some (.list (ws.map .str)), none, some (.dict (LD a)), some (.dict (LD a)), none, none, none] (fun i d r e ⟨src', a', p3, p6, p7, p8, hr, g1, g2⟩ => by
    subst hr
    have hi : i < 6 := by
      have := (List.getElem?_eq_some_iff.mp e).1
      simpa using this
    obtain ⟨src2, a2, q6, q7, q8, w1, w2, w3⟩ := lp_step (n := n) (t := d) (E4 := .dict (LD a)) (E5 := .dict (LD a)) (o6 := p6) (o7 := p7) (o8 := p8) hn nd h1 hw g2 (by omega) g1
    exact ⟨_, _, rfl, w1, src2, a2, some d, q6, q7, q8, rfl, w2, w3.mono (by omega)⟩) ⟨src, a, none, none, none, none, rfl, h, by simpa using hs⟩
  have sm : C (n + 5) "_law_same" [.dict (LD a), .dict (LD a)] = .ok (.bool true, []) := same_ok 2 (n + 2) _ ⟨_, _, rfl, by have := ld_len hn h; omega⟩
  refine ⟨src', a', ?_, s'.mono (by simp)⟩
  exact run_out rfl (ss_nx (s_par (xs := [.dict (LD a), .dict (LD a)]) (l_cons (e_dn e1) (l_cons (e_dn e2) l_nil)) rfl) (ss_nx (s_for rfl (rng_ok (n := 6) (by omega)) f1) (ss_retP (s_ret (e_call (xs := [.dict (LD a), .dict (LD a)]) (ys := [.dict (LD a), .dict (LD a)]) (outs := []) rfl rfl rfl (call_C sm) rfl rfl))))) rfl rfl
end Lw
end
section
namespace Lw
open PySem Pv
theorem rep_one (x : D) (b : Bool) : binD .rep (.list [x]) (.int (if b then 1 else 0)) = .ok (.list (if b then [x] else [])) := by cases b <;> rfl
theorem nm_free {st s : Nat} (h : st < 4) (hs : s ≤ 60) : ("abcdefgh" : Str) ∉ nmL st s := by
  have a : ((List.range 4).all fun st => (nmL st 60).all fun x => decide (x ≠ ("abcdefgh" : Str))) = true := by decide +kernel
  intro m
  have := List.all_eq_true.mp (List.all_eq_true.mp a st (List.mem_range.mpr h)) _ (nm_sub hs _ m)
  simp at this
def wsN (a : List D) : List Str := (srt (flat a)).mergeSort leS ++ (if decide ((srt (flat a)).length < 60) then (["abcdefgh"] : List Str) else [])
theorem wsN_mem {a : List D} {x : Str} (h : x ∈ wsN a) : x ∈ flat a ∨ x = "abcdefgh" := by
  unfold wsN at h
  rcases List.mem_append.mp h with m | m
  · exact .inl (srt_mem.mp ((List.mergeSort_perm _ _).mem_iff.mp m))
  · split at m
    · exact .inr (List.mem_singleton.mp m)
    · cases m
theorem mem_wsN {a : List D} {x : Str} (h : x ∈ flat a) : x ∈ wsN a := List.mem_append_left _ ((List.mergeSort_perm _ _).mem_iff.mpr (srt_mem.mpr h))
section
variable {st s : Nat} {a : List D}
theorem wsN_ok (h : st < 4) (hs : s ≤ 60) (ha : LogP (nmL st s) a) : NmOk (wsN a) ∧ (wsN a).Nodup ∧ 1 ≤ (wsN a).length ∧ LogP (wsN a) a := by
  have hn := nm_okL h hs
  have kl : (srt (flat a)).length ≤ 60 := by
    have := sub_len (srt (flat a)) (nmL st s) (srt_nodup _) fun x hx => flat_sub ha.2 x (srt_mem.mp hx)
    have := hn.1
    omega
  refine ⟨⟨?_, fun x hx => ?_⟩, ?_, ?_, ha.1, fun r hr => ?_⟩
  · unfold wsN
    rw [List.length_append, List.length_mergeSort]
    by_cases c : (srt (flat a)).length < 60
    · simp [c]
      omega
    · simp [c]
      omega
  · rcases wsN_mem hx with m | rfl
    · exact hn.2 x (flat_sub ha.2 x m)
    · exact ⟨⟨by decide, by decide +kernel⟩, by decide +kernel⟩
  · unfold wsN
    refine List.nodup_append.mpr ⟨(List.mergeSort_perm _ _).nodup_iff.mpr (srt_nodup _), by split <;> simp, fun x hx y hy e => ?_⟩
    subst e
    have hx : x ∈ flat a := srt_mem.mp ((List.mergeSort_perm _ _).mem_iff.mp hx)
    split at hy
    · rw [List.mem_singleton.mp hy] at hx
      exact nm_free h hs (flat_sub ha.2 _ hx)
    · cases hy
  · unfold wsN
    rw [List.length_append, List.length_mergeSort]
    by_cases c : (srt (flat a)).length < 60
    · simp [c]
    · simp [c]
      omega
  · obtain ⟨xs, rfl, h1, h2, h3, h4⟩ := ha.2 r hr
    refine ⟨xs, rfl, h1, h2, h3, fun x hx => mem_wsN ?_⟩
    unfold flat
    refine List.mem_flatten.mpr ⟨xs, ?_, hx⟩
    refine List.mem_map.mpr ⟨_, hr, ?_⟩
    show (xs.map PyData.str).map strOf = xs
    rw [List.map_map]
    exact (List.map_congr_left fun _ _ => rfl).trans (List.map_id xs)
abbrev eB : List S := [.asg (.n 5) (.bin .add (.bi .sorted [(.call "_law_last" 1 [(.v 4)] [] [] true)]) (.bin .rep (.lst [(.k (.str "abcdefgh"))]) (.bi .int [(.cmp .lt (.bi .len [(.call "_law_last" 1 [(.v 4)] [] [] true)]) (.k (.int 60)))]))), .ifs (.or (.not (.call "_law_right" 0 [(.v 4)] [] [] true)) (.not (.call "_law_changes_right" 0 [(.io 2), (.io 4), (.v 5)] [] [(0, 2), (1, 4)] false))) [.ret (.k (.bool false))] []]
theorem rows_step {n : Nat} {S : D} {k o3 o5 : Option D} {src : D} {M : Int} (h : st < 4) (hs0 : s ≤ 60) (hs : Src M src) (hM : M ≤ 2 ^ 43) (ha : LogP (nmL st s) a) :
    ∃ src' o4' o5', evSs (Fn (n + 6)) fuel eB [some S, k, some src, o3, some (.list a), o5] = .ok (.nx, [some S, k, some src', o3, o4', o5']) ∧ Src (M + 1000) src' := by
  have hn := nm_okL h hs0
  obtain ⟨w1, w2, w3, w4⟩ := wsN_ok h hs0 ha
  have ll := law_last_ok (n := n + 5) (log_rows hn ha) ha.1
  have c : evE (Fn (n + 6)) (.call "_law_last" 1 [(.v 4)] [] [] true) [some S, k, some src, o3, some (.list a), o5] = .ok (.dict (LD a), [some S, k, some src, o3, some (.list a), o5]) := e_call (xs := [.list a]) (ys := [.list a]) (outs := []) rfl rfl rfl (call_C ll) (by
    show (immAt 1 (.dict (LD a)) && true) = true
    rw [LD, imm_dct]
    rfl) rfl
  have srtd : biD .sorted [.dict (LD a)] = .ok (.list (((srt (flat a)).mergeSort leS).map .str)) := by
    show Out.when (sortOk ((LD a).map (·.1)) && (LD a).all fun p => keyS p.1) (PyData.list (sortL ((LD a).map (·.1)))) = _
    unfold LD
    rw [(dct_st _ _).keys, dct_st, sortOk_strs, sort_strs]
    rfl
  have len : biD .len [.dict (LD a)] = .ok (.int ((srt (flat a)).length : Nat)) := by
    show Out.ok (PyData.int (((LD a).length : Nat) : Int)) = _
    rw [LD, dct_len]
  have kl := ld_len hn ha
  have e1 : evE (Fn (n + 6)) (.bi .sorted [(.call "_law_last" 1 [(.v 4)] [] [] true)]) [some S, k, some src, o3, some (.list a), o5] = .ok (.list (((srt (flat a)).mergeSort leS).map .str), [some S, k, some src, o3, some (.list a), o5]) := e_bi1 c srtd
  have e2 : evE (Fn (n + 6)) (.bin .rep (.lst [(.k (.str "abcdefgh"))]) (.bi .int [(.cmp .lt (.bi .len [(.call "_law_last" 1 [(.v 4)] [] [] true)]) (.k (.int 60)))])) [some S, k, some src, o3, some (.list a), o5] = .ok (.list (if decide ((srt (flat a)).length < 60) then [.str "abcdefgh"] else []), [some S, k, some src, o3, some (.list a), o5]) := e_bin (e_lst (l_cons rfl l_nil)) (e_bi1 (e_cmp (e_bi1 c len) rfl (lt_int (b := 60))) rfl) (rep_one _ _)
  have ew : ((srt (flat a)).mergeSort leS).map PyData.str ++ (if decide ((srt (flat a)).length < 60) then [.str "abcdefgh"] else []) = (wsN a).map .str := by
    unfold wsN
    rw [List.map_append]
    congr 1
    split <;> rfl
  have q1 : evS (Fn (n + 6)) fuel (.asg (.n 5) (.bin .add (.bi .sorted [(.call "_law_last" 1 [(.v 4)] [] [] true)]) (.bin .rep (.lst [(.k (.str "abcdefgh"))]) (.bi .int [(.cmp .lt (.bi .len [(.call "_law_last" 1 [(.v 4)] [] [] true)]) (.k (.int 60)))])))) [some S, k, some src, o3, some (.list a), o5] = .ok (.nx, [some S, k, some src, o3, some (.list a), some (.list ((wsN a).map .str))]) := by
    rw [← ew]
    exact s_asg (r1 := [some S, k, some src, o3, some (.list a), o5]) (e_bin e1 e2 (add_list (by rw [List.length_map, List.length_mergeSort]; split <;> simp <;> omega))) rfl
  have g1 : evE (Fn (n + 6)) (.not (.call "_law_right" 0 [(.v 4)] [] [] true)) [some S, k, some src, o3, some (.list a), some (.list ((wsN a).map .str))] = .ok (.bool false, [some S, k, some src, o3, some (.list a), some (.list ((wsN a).map .str))]) := e_not (e_call (xs := [.list a]) (ys := [.list a]) (outs := []) rfl rfl rfl (call_C (right_ok (n := n + 1) hn ha)) rfl rfl) rfl
  obtain ⟨src', a', e3, s'⟩ := changes_ok (n := n) w1 w2 w3 (List.Perm.refl _) hs (by omega) w4
  have g2 : evE (Fn (n + 6)) (.not (.call "_law_changes_right" 0 [(.io 2), (.io 4), (.v 5)] [] [(0, 2), (1, 4)] false)) [some S, k, some src, o3, some (.list a), some (.list ((wsN a).map .str))] = .ok (.bool false, [some S, k, some src', o3, some (.list a'), some (.list ((wsN a).map .str))]) := e_not (e_call (r1 := [some S, k, some src, o3, some (.list a), some (.list ((wsN a).map .str))]) (r2 := [some S, k, some src', o3, some (.list a'), some (.list ((wsN a).map .str))]) (xs := [.none, .none, .list ((wsN a).map .str)]) (ys := [src, .list a, .list ((wsN a).map .str)]) (outs := [src', .list a']) rfl rfl rfl (call_C e3) rfl rfl) rfl
  exact ⟨src', _, _, ss_nx q1 (ss_nx (s_if (e_or g1 g2) rfl (ss_nilP (F := Fn (n + 6)) (fu := fuel))) ss_nilP), s'⟩
end
abbrev tB : List S := [.each 4 (.call "_law_logs" 2 [(.io 2), (.ix (.lst [(.k (.int 6)), (.k (.int 60))]) (.bin .mod (.v 3) (.k (.int 2))))] [] [(0, 2)] false) [.asg (.n 5) (.bin .add (.bi .sorted [(.call "_law_last" 1 [(.v 4)] [] [] true)]) (.bin .rep (.lst [(.k (.str "abcdefgh"))]) (.bi .int [(.cmp .lt (.bi .len [(.call "_law_last" 1 [(.v 4)] [] [] true)]) (.k (.int 60)))]))), .ifs (.or (.not (.call "_law_right" 0 [(.v 4)] [] [] true)) (.not (.call "_law_changes_right" 0 [(.io 2), (.io 4), (.v 5)] [] [(0, 2), (1, 4)] false))) [.ret (.k (.bool false))] []]]
theorem turn_ok {n i : Nat} {S : D} {k o4 o5 : Option D} {src : D} {M : Int} (hs : Src M src) (hM : M ≤ 2 ^ 39) (hi : i < 4) :
    ∃ src' o4' o5', evSs (Fn (n + 6)) fuel tB [some S, k, some src, some (.int (i : Nat)), o4, o5] = .ok (.nx, [some S, k, some src', some (.int (i : Nat)), o4', o5']) ∧ Src (M + 12000) src' := by
  obtain ⟨tp, ht, gt⟩ := get_nl (l := [6, 60]) (j := i % 2) (by simp; omega)
  have ht : 1 ≤ tp ∧ tp ≤ 60 := by
    simp at ht
    omega
  obtain ⟨d, st, s, src1, e1, hst, hss, ⟨a, b, rfl, ha, hb⟩, s1⟩ := logs_ok (n := n + 2) (top := tp) hs (by omega) ht.1 ht.2
  have ha : LogP (nmL st s) a := ha
  have hb : LogP (nmL st s) b := hb
  have qt : evE (Fn (n + 6)) (.ix (.lst [(.k (.int 6)), (.k (.int 60))]) (.bin .mod (.v 3) (.k (.int 2)))) [some S, k, some src, some (.int (i : Nat)), o4, o5] = .ok (.int (tp : Nat), [some S, k, some src, some (.int (i : Nat)), o4, o5]) := e_ix (x := nl [6, 60]) rfl (e_bin rfl rfl (b_mod (by omega))) (by
    rw [show ((i : Nat) : Int) % 2 = ((i % 2 : Nat) : Int) by omega]
    exact gt)
  have c : evE (Fn (n + 6)) (.call "_law_logs" 2 [(.io 2), (.ix (.lst [(.k (.int 6)), (.k (.int 60))]) (.bin .mod (.v 3) (.k (.int 2))))] [] [(0, 2)] false) [some S, k, some src, some (.int (i : Nat)), o4, o5] = .ok (.list [.list a, .list b], [some S, k, some src1, some (.int (i : Nat)), o4, o5]) := e_call (xs := [.none, .int (tp : Nat)]) (ys := [src, .int (tp : Nat)]) (outs := [src1]) (l_cons rfl (l_cons qt l_nil)) rfl rfl (call_C e1) rfl rfl
  obtain ⟨src2, p4, p5, q1, s2⟩ := rows_step (n := n) (S := S) (k := k) (o3 := some (.int (i : Nat))) (o5 := o5) hst hss s1 (by omega) ha
  obtain ⟨src3, r4, r5, q2, s3⟩ := rows_step (n := n) (S := S) (k := k) (o3 := some (.int (i : Nat))) (o5 := p5) hst hss s2 (by omega) hb
  refine ⟨src3, r4, r5, ?_, s3.mono (by omega)⟩
  refine ss_nx (s_each c (c := .nx) (r2 := [some S, k, some src3, some (.int (i : Nat)), r4, r5]) ?_) ss_nilP
  have h1 : asgT (.n 4) (.list a) [some S, k, some src1, some (.int (i : Nat)), o4, o5] = .ok [some S, k, some src1, some (.int (i : Nat)), some (.list a), o5] := rfl
  have h2 : asgT (.n 4) (.list b) [some S, k, some src2, some (.int (i : Nat)), p4, p5] = .ok [some S, k, some src2, some (.int (i : Nat)), some (.list b), p5] := rfl
  simp only [forO, h1, Out.bind_ok]
  rw [q1]
  simp only [Out.bind_ok, h2]
  rw [q2]
  rfl
abbrev kB1 : List S := [.asg (.n 2) (.call "_law_source" 1 [(.v 0), (.v 1)] [] [] false), .for (.n 3) .rng [(.k (.int 4))] [.each 4 (.call "_law_logs" 2 [(.io 2), (.ix (.lst [(.k (.int 6)), (.k (.int 60))]) (.bin .mod (.v 3) (.k (.int 2))))] [] [(0, 2)] false) [.asg (.n 5) (.bin .add (.bi .sorted [(.call "_law_last" 1 [(.v 4)] [] [] true)]) (.bin .rep (.lst [(.k (.str "abcdefgh"))]) (.bi .int [(.cmp .lt (.bi .len [(.call "_law_last" 1 [(.v 4)] [] [] true)]) (.k (.int 60)))]))), .ifs (.or (.not (.call "_law_right" 0 [(.v 4)] [] [] true)) (.not (.call "_law_changes_right" 0 [(.io 2), (.io 4), (.v 5)] [] [(0, 2), (1, 4)] false))) [.ret (.k (.bool false))] []]]]
theorem k_stepW {n j : Nat} {ns : List Int} {o2 o3 o4 o5 : Option D} (hj : j < 100) :
    ∃ p2 p3 p4 p5, evSs (Fn (n + 6)) fuel kB1 [some (.list (ns.map .int)), some (.int (j : Nat)), o2, o3, o4, o5] = .ok (.nx, [some (.list (ns.map .int)), some (.int (j : Nat)), p2, p3, p4, p5]) := by
  obtain ⟨src, e1, s0⟩ := source_ok (n := n + 5) (ns := ns) hj
  have c1 : evE (Fn (n + 6)) (.call "_law_source" 1 [(.v 0), (.v 1)] [] [] false) [some (.list (ns.map .int)), some (.int (j : Nat)), o2, o3, o4, o5] = .ok (src, [some (.list (ns.map .int)), some (.int (j : Nat)), o2, o3, o4, o5]) := e_call (xs := [.list (ns.map .int), .int (j : Nat)]) (ys := [.list (ns.map .int), .int (j : Nat)]) (outs := []) rfl rfl rfl (call_C e1) rfl rfl
  obtain ⟨r', f1, src2, p3, p4, p5, rfl, s2⟩ := for_inv (tg := .n 3) (body := evSs (Fn (n + 6)) fuel tB) (fun i r => ∃ src' o3 o4 o5, r = [some (.list (ns.map .int)), some (.int (j : Nat)), some src', o3, o4, o5] ∧ Src (12000 * i) src') ((List.range 4).map fun k => .int (k : Nat)) 0 [some (.list (ns.map .int)), some (.int (j : Nat)), some src, o3, o4, o5] (fun i d r e ⟨src', p3, p4, p5, hr, h1⟩ => by
    subst hr
    have hi : i < 4 := by
      have := (List.getElem?_eq_some_iff.mp e).1
      simpa using this
    rw [List.getElem?_map, List.getElem?_range hi] at e
    simp at e
    subst e
    obtain ⟨src2, q4, q5, g1, g2⟩ := turn_ok (n := n) (i := i) (S := .list (ns.map .int)) (k := some (.int (j : Nat))) (o4 := p4) (o5 := p5) h1 (by omega) hi
    exact ⟨_, _, rfl, g1, src2, some (.int (i : Nat)), q4, q5, rfl, g2.mono (by omega)⟩) ⟨src, o3, o4, o5, rfl, by simpa using s0⟩
  exact ⟨_, _, _, _, ss_nx (s_asg c1 rfl) (ss_nx (s_for rfl (rng_ok (n := 4) (by omega)) f1) ss_nilP)⟩
theorem nm_xy : NmOk ["x", "y"] := ⟨by decide, fun x hx => by
  rcases List.mem_cons.mp hx with rfl | hx
  · exact ⟨⟨by decide, by decide +kernel⟩, by decide +kernel⟩
  · rw [List.mem_singleton.mp hx]
    exact ⟨⟨by decide, by decide +kernel⟩, by decide +kernel⟩⟩
theorem log_xy : LogP ["x", "y"] [.tuple [.str "x", .str "y"], .tuple [.str "x"]] := ⟨by decide, fun r hr => by
  rcases List.mem_cons.mp hr with rfl | hr
  · exact ⟨["x", "y"], rfl, by decide +kernel, by decide, by decide, fun x hx => hx⟩
  · rw [List.mem_singleton.mp hr]
    exact ⟨["x"], rfl, rfl, by decide, by decide, fun x hx => by rw [List.mem_singleton.mp hx]; exact List.mem_cons_self⟩⟩
theorem log_nil : LogP ["x", "y"] [] := ⟨by decide, fun _ h => by cases h⟩
theorem ld_xy : LD [.tuple [.str "x", .str "y"], .tuple [.str "x"]] = [(.str "x", .int 1), (.str "y", .int 0)] := by
  have h1 : srt (flat [.tuple [.str "x", .str "y"], .tuple [.str "x"]]) = (["x", "y"] : List Str) := by
    have e : onceS (flat [.tuple [.str "x", .str "y"], .tuple [.str "x"]]) = onceS (["x", "y"] : List Str) := by decide +kernel
    unfold srt
    rw [e]
    exact of_decide_eq_true ((sset_adj (["x", "y"] : List Str)).trans (by decide +kernel))
  have h2 : LF [.tuple [.str "x", .str "y"], .tuple [.str "x"]] "x" = 1 := by decide +kernel
  have h3 : LF [.tuple [.str "x", .str "y"], .tuple [.str "x"]] "y" = 0 := by decide +kernel
  unfold LD
  rw [h1]
  unfold dct
  simp only [List.map_cons, List.map_nil, h2, h3]
  rfl
theorem ld_nil : LD [] = [] := by
  have h1 : srt (flat []) = [] := by
    unfold srt
    exact of_decide_eq_true ((sset_adj []).trans rfl)
  unfold LD
  rw [h1]
  rfl
theorem eq_xy : cmpD .eq (.dict [(.str "x", .int 1), (.str "y", .int 0)]) (.dict [(.str "x", .int 1), (.str "y", .int 0)]) = .ok true := by
  have h : eqDD (.dict [(.str "x", .int 1), (.str "y", .int 0)]) (.dict [(.str "x", .int 1), (.str "y", .int 0)]) = true := by
    have hne : ¬ (("x" : Str) = "y") := by decide
    simp [eqDD, lookD, eqv_str, sameFl, keyS, hne]
  show eqD _ _ = _
  unfold eqD
  rw [h]
  rfl
theorem eq_dnil : cmpD .eq (.dict []) (.dict []) = .ok true := rfl
theorem law_true (ns : List Int) (hn : ns.length ≤ 63) : evOf tbl gl fuel 12 "law" [.list (ns.map .int)] = .ok (.bool true, []) := by
  rw [ev_succ (e := e_law) (by rfl)]
  have hmax : ∃ t : Nat, t ≤ 3 ∧ biD .max [.int 1, .int ((min 3 ns.length : Nat) : Int)] = .ok (.int (t : Nat)) := by
    by_cases h : (1 : Int) < ((min 3 ns.length : Nat) : Int)
    · exact ⟨min 3 ns.length, by omega, by show Out.ok (PyData.int (if (1 : Int) < ((min 3 ns.length : Nat) : Int) then ((min 3 ns.length : Nat) : Int) else 1)) = _; rw [if_pos h]⟩
    · exact ⟨1, by omega, by show Out.ok (PyData.int (if (1 : Int) < ((min 3 ns.length : Nat) : Int) then ((min 3 ns.length : Nat) : Int) else 1)) = _; rw [if_neg h]; rfl⟩
  obtain ⟨t, ht, hmax⟩ := hmax
  have hlen : biD .len [.list (ns.map PyData.int)] = .ok (.int (ns.length : Nat)) := by
    rw [lenL, List.length_map]
  have c0 : evL (Fn 11) [(.bi .max [(.k (.int 1)), (.bi .min [(.k (.int 3)), (.bi .len [(.v 0)])])])] [some (.list (ns.map .int)), none, none, none, none, none] = .ok ([.int (t : Nat)], [some (.list (ns.map .int)), none, none, none, none, none]) := l_cons (e_bi2 rfl (e_bi2 rfl (e_bi1 rfl hlen) (minN 3 ns.length)) hmax) l_nil
  obtain ⟨r', f1, o1, o2, o3, o4, o5, rfl⟩ := for_inv (tg := .n 1) (body := evSs (Fn 11) fuel kB1) (fun i r => ∃ o1 o2 o3 o4 o5, r = [some (.list (ns.map .int)), o1, o2, o3, o4, o5]) ((List.range t).map fun k => .int (k : Nat)) 0 [some (.list (ns.map .int)), none, none, none, none, none] (fun i d r e ⟨o1, o2, o3, o4, o5, hr⟩ => by
    subst hr
    have hi : i < t := by
      have := (List.getElem?_eq_some_iff.mp e).1
      simpa using this
    rw [List.getElem?_map, List.getElem?_range hi] at e
    simp at e
    subst e
    obtain ⟨p2, p3, p4, p5, h⟩ := k_stepW (n := 5) (j := i) (ns := ns) (o2 := o2) (o3 := o3) (o4 := o4) (o5 := o5) (by omega)
    exact ⟨_, _, rfl, h, _, _, _, _, _, rfl⟩) ⟨none, none, none, none, none, rfl⟩
  have m1 := last_writes_ok (n := 7) nm_xy log_xy
  have m2 := last_writes_ok (n := 7) nm_xy log_nil
  rw [ld_xy] at m1
  rw [ld_nil] at m2
  have hd : dctD [.str "x", .int 1, .str "y", .int 0] = .ok (.dict [(.str "x", .int 1), (.str "y", .int 0)]) := by
    have hne : ¬ (("x" : Str) = "y") := by decide
    show Out.when (keyS (.str "x") && keyS (.str "y") && !((PyData.str "x").eqv (.str "y"))) _ = _
    rw [eqv_str]
    simp [keyS, hne]
  have r0 : evE (Fn 11) (.dct [(.k (.str "x")), (.k (.int 1)), (.k (.str "y")), (.k (.int 0))]) [some (.list (ns.map .int)), o1, o2, o3, o4, o5] = .ok (.dict [(.str "x", .int 1), (.str "y", .int 0)], [some (.list (ns.map .int)), o1, o2, o3, o4, o5]) := by
    simp only [evE, evL, Out.bind_ok, hd]
  have r1 : evE (Fn 11) (.cmp .eq (.call "last_writes" 1 [(.dn 0 (.lst [(.tup [(.k (.str "x")), (.k (.str "y"))]), (.tup [(.k (.str "x"))])]))] [] [] false) (.dct [(.k (.str "x")), (.k (.int 1)), (.k (.str "y")), (.k (.int 0))])) [some (.list (ns.map .int)), o1, o2, o3, o4, o5] = .ok (.bool true, [some (.list (ns.map .int)), o1, o2, o3, o4, o5]) := e_cmp (e_call (xs := [.list [.tuple [.str "x", .str "y"], .tuple [.str "x"]]]) (ys := [.list [.tuple [.str "x", .str "y"], .tuple [.str "x"]]]) (outs := []) rfl rfl rfl (call_C m1) rfl rfl) r0 eq_xy
  have r2 : evE (Fn 11) (.cmp .eq (.call "last_writes" 1 [(.dn 0 (.lst []))] [] [] false) (.dct [])) [some (.list (ns.map .int)), o1, o2, o3, o4, o5] = .ok (.bool true, [some (.list (ns.map .int)), o1, o2, o3, o4, o5]) := e_cmp (e_call (xs := [.list []]) (ys := [.list []]) (outs := []) rfl rfl rfl (call_C m2) rfl rfl) rfl eq_dnil
  exact run_out rfl (ss_nx (s_for c0 (rng_ok (by omega)) f1) (ss_retP (s_ret (e_and r1 r2)))) rfl rfl
end Lw
end
section
/-! P3: the operators of the machine on plain data. -/
namespace Pv
open PySem PySem.Spec PyProof.Rows L2

abbrev Sg := List (Option V)
/-- what is wanted of the value handed back: it lies in a heap that keeps all that was -/
def Fin (K : Fg) (H : Hp) (no : No) (n : Nat) (d : D) (Q : VK) : Prop :=
  ∀ H' v as, Same H H' → as.Nodup → (∀ a ∈ as, H a = none) → Ow K H' (fun a => a ∈ as ∨ no a) n d v as → Q v H'
/-- the ban speaks of what is there -/
def NoIn (H : Hp) (no : No) : Prop := ∀ a, no a → ∃ o, H a = some o
section
variable {K : Fg} {H H' : Hp} {no : No} {n : Nat} {d : D} {Q : VK}
theorem Fin.int {i : Int} (f : Fin K H no n (.int i) Q) : Q (.int i) H := f H _ [] (Same.refl H) List.nodup_nil (by simp) (by cases n <;> simp [Ow, Rp])
theorem Fin.bool {b : Bool} (f : Fin K H no n (.bool b) Q) : Q (.bl b) H := f H _ [] (Same.refl H) List.nodup_nil (by simp) (by cases n <;> simp [Ow, Rp])
theorem Fin.str {x : Str} (f : Fin K H no n (.str x) Q) : Q (.str x) H := f H _ [] (Same.refl H) List.nodup_nil (by simp) (by cases n <;> simp [Ow, Rp])
theorem Fin.none (f : Fin K H no n .none Q) : Q .non H := f H _ [] (Same.refl H) List.nodup_nil (by simp) (by cases n <;> simp [Ow, Rp])
theorem Same.upd {p : Addr} {o : HO} (h : H p = Option.none) : Same H (upd H p o) := fun b x e => by
  rw [upd_ne (ne_of_none e h)]
  exact e
theorem kp_upd {p : Addr} {o : HO} (h : H p = Option.none) : Kp H (upd H p o) no (fun a => a ∈ ([p] : List Addr) ∨ no a) where
  keep := fun a x e _ => Same.upd h a x e
  ban := fun a z => z.elim (fun z => .inr (by rw [List.mem_singleton.mp z]; exact h)) .inl
theorem kp_same (s : Same H H') : Kp H H' no no where
  keep := fun a x e _ => s a x e
  ban := fun a z => .inl z
theorem kp_nil : Kp H H no (fun a => a ∈ ([] : List Addr) ∨ no a) := ⟨fun a x e _ => e, fun a z => z.elim (fun z => absurd z (by simp)) .inl⟩
theorem NoIn.new (h : NoIn H no) {p : Addr} (hp : H p = Option.none) : ¬ no p := fun z => by
  obtain ⟨o, e⟩ := h p z
  rw [hp] at e
  cases e
/-- a new list of what is there -/
theorem Fin.lst {xs : List V} {ds : List D} (hb : NoIn H no) (hn : n ≤ 1) (f : Fin K H no n (.list ds) Q) (r : RpL K H no ds xs) : ∀ p, H p = Option.none → Q (.ref p) (upd H p (.lst xs)) := fun p hp => by
  match n, hn with
  | 0, _ =>
    refine f _ _ [] (Same.upd hp) List.nodup_nil (by simp) (Ow.zero.mpr ⟨rfl, p, xs, rfl, .inl ⟨.inl upd_same, fun z => ?_⟩, ?_⟩)
    · exact z.elim (fun z => absurd z (by simp)) (hb.new hp)
    · exact (RpL.kp (kp_same (Same.upd hp)) _ _ r).kpE fun a z => z.elim (fun z => absurd z (by simp)) id
  | 1, _ =>
    refine f _ _ [p] (Same.upd hp) (by simp) (fun a ha => by rw [List.mem_singleton.mp ha]; exact hp) ?_
    simp only [Ow]
    exact ⟨p, xs, [], rfl, upd_same, rfl, OwL.zero.mpr ⟨rfl, RpL.kp (kp_upd hp) _ _ r⟩⟩
/-- a value that is there -/
theorem Fin.old {v : V} (f : Fin K H no 0 d Q) (r : Rp K H no d v) : Q v H :=
  f H v [] (Same.refl H) List.nodup_nil (by simp) (Ow.zero.mpr ⟨rfl, r.kpE fun a z => z.elim (fun z => absurd z (by simp)) id⟩)
/-- a new tuple of what is there -/
theorem Fin.tup {xs : List V} {ds : List D} (hb : NoIn H no) (f : Fin K H no 0 (.tuple ds) Q) (r : RpL K H no ds xs) : ∀ p, H p = Option.none → Q (.ref p) (upd H p (.tup xs)) := fun p hp => by
  refine f _ _ [] (Same.upd hp) List.nodup_nil (by simp) (Ow.zero.mpr ⟨rfl, p, xs, rfl, ⟨upd_same, fun z => ?_⟩, ?_⟩)
  · exact z.elim (fun z => absurd z (by simp)) (hb.new hp)
  · exact (RpL.kp (kp_same (Same.upd hp)) _ _ r).kpE fun a z => z.elim (fun z => absurd z (by simp)) id
end

def Op2 (X : Cx) (run : Value → Value → Sem Value) (f : D → D → Out D) (n : Nat) : Prop :=
  ∀ (pins : List (Addr × Obj)) (s : Shared) (σ : Sg) (H : Hp) (x y : V) (v u : Value) (dx dy d : D) (no : No) (Q : VK), Inv X pins σ H s → RelV x v → RelV y u → Rt X.K H no dx x → Rt X.K H no dy y → NoIn H no → f dx dy = .ok d →
    Fin X.K H no n d Q → wpAny (model X.prog X.w) X.A (run v u) (EP X pins σ Q) X.xe s
theorem when_ok {A : Type} {b : Bool} {a c : A} (h : Out.when b a = .ok c) : b = true ∧ a = c := by
  cases b with
  | false => cases h
  | true => exact ⟨rfl, Out.ok.inj h⟩
theorem bind_ok {A B : Type} {x : Out A} {f : A → Out B} {c : B} (h : x.bind f = .ok c) : ∃ a, x = .ok a ∧ f a = .ok c := by
  cases x with
  | ok a => exact ⟨a, rfl, h⟩
  | exc c d => cases h
  | bad => cases h
theorem fits_le {n : Nat} (h : fits n = true) : n ≤ sizeLine := of_decide_eq_true h
theorem small_lt {k : Int} (h : small k = true) : -(2 ^ 60) < k ∧ k < 2 ^ 60 := by
  have := of_decide_eq_true h
  omega
theorem intBits_log (x : Int) : Builtin.Int.intBits x ≤ x.natAbs.log2 + 1 := by
  unfold Builtin.Int.intBits
  split <;> omega
theorem mul_ok {i j : Int} (h : mulOk i j = true) : IntMulOk i j := by
  unfold mulOk at h
  simp only [Bool.or_eq_true, decide_eq_true_eq] at h
  have h1 := intBits_log i
  have h2 := intBits_log j
  rcases h with (h | h) | h
  · exact .of_left (by omega)
  · exact .of_right (by omega)
  · exact CMulW.ok h
section
variable {X : Cx} {n : Nat}
theorem list_at {pins : List (Addr × Obj)} {s : Shared} {σ : Sg} {H : Hp} {no : No} (I : Inv X pins σ H s) {ds : List D} {x : V} {v : Value} (r : RelV x v) (h : Rt X.K H no (.list ds) x) :
    ∃ a xs its, x = .ref a ∧ v = .ref a ∧ SqL X.K H a xs ∧ RpL X.K H no ds xs ∧ Vals xs its ∧ s.heap.IsList a its.toArray ∧ xs.length ≤ sizeLine ∧ ds.length = xs.length ∧ xs.length = its.length := by
  obtain ⟨a, xs, rfl, h1, h2⟩ := rt_list h
  cases r
  obtain ⟨its, rv, p, z⟩ := I.list h1
  exact ⟨a, xs, its, rfl, rfl, h1, h2, rv, p.isList, z, h2.len, rv.length⟩
theorem tup_at {pins : List (Addr × Obj)} {s : Shared} {σ : Sg} {H : Hp} {no : No} (I : Inv X pins σ H s) {ds : List D} {x : V} {v : Value} (r : RelV x v) (h : Rp X.K H no (.tuple ds) x) :
    ∃ a xs its, x = .ref a ∧ v = .ref a ∧ H a = some (.tup xs) ∧ RpL X.K H no ds xs ∧ Vals xs its ∧ IsTup s.heap a its.toArray ∧ xs.length ≤ sizeLine ∧ ds.length = xs.length ∧ xs.length = its.length := by
  simp only [Rp] at h
  obtain ⟨a, xs, rfl, h1, h2⟩ := h
  cases r
  obtain ⟨its, rv, p, z⟩ := I.tuple h1.sq
  exact ⟨a, xs, its, rfl, rfl, h1.1, h2, rv, p, z, h2.len, rv.length⟩
theorem add_two {prog : Program} {w : World} {A : Around} {E : Value → Shared → Prop} {s : Shared} {l b : Addr} {vs ws : List Value} {Q : Value → Shared → Prop} (hl : s.heap.IsList l vs.toArray) (hb : s.heap.IsList b ws.toArray) (hz : vs.length + ws.length ≤ sizeLine)
    (h : Q (.ref s.heap.objs.size) { s with heap := s.heap.push { cls := .type "list", data := .seq (vs ++ ws).toArray } }) : wpAny (model prog w) A (binaryOp .Add (.ref l) (.ref b)) Q E s := by
  obtain ⟨⟨c, dd, da, sl⟩, ho, hc, n, hd⟩ := id hl
  obtain ⟨⟨c2, dd2, da2, sl2⟩, ho2, hc2, n2, hd2⟩ := id hb
  simp only at hc hd hc2 hd2
  subst hc hd hc2 hd2
  have e : vs.toArray ++ ws.toArray = (vs ++ ws).toArray := by simp
  rw [← e] at h
  exact concat_meets ⟨_, ho, rfl⟩ ⟨_, ho2, rfl⟩ noFill_list_add seq_list_add PySem.F.slot_list_add PySem.F.entry_list_add (PySem.F.args_list_add_2 _ _)
    (list_addW l b vs.toArray ws.toArray n n2 dd dd2 sl sl2 (by simpa using hz)) ⟨ho, ho2, h⟩
/-- a new list, laid -/
theorem end_list {pins : List (Addr × Obj)} {s : Shared} {σ : Sg} {H : Hp} {no : No} {ds : List D} {zs : List V} {its : List Value} {Q : VK} {t' : Nat} (I : Inv X pins σ H s) (hb : NoIn H no) (hn : n ≤ 1) (f : Fin X.K H no n (.list ds) Q) (r : RpL X.K H no ds zs) (v : Vals zs its) (hz : zs.length ≤ sizeLine) :
    EP X pins σ Q (.ref s.heap.objs.size) { s with heap := s.heap.push { cls := .type "list", data := .seq its.toArray }, toks := t' } :=
  ⟨.ref _, _, I.lnew (t' := t') v hz, rfl, f.lst hb hn r _ I.fresh⟩
theorem cat_lists {pins : List (Addr × Obj)} {s : Shared} {σ : Sg} {H : Hp} {no : No} {x y : V} {v u : Value} {xs ys : List D} {Q : VK} (I : Inv X pins σ H s) (rx : RelV x v) (ry : RelV y u) (hx : Rt X.K H no (.list xs) x) (hy : Rt X.K H no (.list ys) y)
    (hb : NoIn H no) (hz : xs.length + ys.length ≤ sizeLine) (hn : n ≤ 1) (f : Fin X.K H no n (.list (xs ++ ys)) Q) : wpAny (model X.prog X.w) X.A (binaryOp .Add v u) (EP X pins σ Q) X.xe s := by
  obtain ⟨a, ws, its, rfl, rfl, q1, r1, v1, l1, z1, e1, e2⟩ := list_at I rx hx
  obtain ⟨b, us, its2, rfl, rfl, q2, r2, v2, l2, z2, e3, e4⟩ := list_at I ry hy
  exact add_two l1 l2 (by omega) (end_list (t' := s.toks) I hb hn f (r1.app r2) (v1.append v2) (by rw [List.length_append]; omega))
theorem rep_list {pins : List (Addr × Obj)} {s : Shared} {σ : Sg} {H : Hp} {no : No} {x : V} {v : Value} {t : Tok} {xs : List D} {k : Int} {Q : VK} (I : Inv X pins σ H s) (rx : RelV x v) (hx : Rt X.K H no (.list xs) x)
    (hb : NoIn H no) (h1 : -(2 ^ 60) < k) (h2 : k < 2 ^ 60) (hz : xs.length * k.toNat ≤ sizeLine) (hn : n ≤ 1) (f : Fin X.K H no n (.list (List.replicate k.toNat xs).flatten) Q) : wpAny (model X.prog X.w) X.A (binaryOp .Mult v (.int k t)) (EP X pins σ Q) X.xe s := by
  obtain ⟨a, ws, its, rfl, rfl, q1, r1, v1, l1, z1, e1, e2⟩ := list_at I rx hx
  obtain ⟨⟨c, d, da, sl⟩, ho, hcl, m, hd⟩ := id l1
  simp only at hcl hd
  subst hcl hd
  have hz' : its.toArray.size * k.toNat ≤ sizeLine := by rw [List.size_toArray, ← e2, ← e1]; exact hz
  refine wpAny_binaryOp_repeat_ref (T := "list") (U := "int") (by decide) ⟨_, ho, rfl⟩ (fun s' => typeIs_int s' k t) noFill_list_mul F.fills_int_mul F.slot_int_rmul repeat_list F.slot_int_index.lookup
    (call_meets F.slot_int_rmul (typeIs_int s k t) F.entry_int_rmul (F.args_int_rmul_2 _ _) (lm_int_rmul_list_any k t a its.toArray m d sl)
      ⟨ho, rfl, ⟨_, ho, rfl⟩, call_meets F.slot_list_mul ⟨_, ho, rfl⟩ F.entry_list_mul (F.args_list_mul_2 _ _)
        (lm_list_mul_any a its.toArray m d sl k t (by simp [Builtin.List.listFitsIndex]; omega) (by have : (sizeLine : Nat) ≤ (2 ^ 63 - 1) / 8 := by decide
                                                                                                    omega) (by rw [notLongL hz']; exact Bool.false_ne_true))
        ⟨ho, ?_⟩⟩)
  rw [listMul_foldl_if]
  exact end_list (t' := s.toks) I hb hn f (r1.rep k.toNat) (v1.rep k.toNat) (by rw [PyProof.Rows.lm_len_rep_flat, Nat.mul_comm, ← e1]; exact hz)
theorem flat_rep (xs : List Nat) : ∀ (k : Nat) (acc : Array Nat), List.foldl (fun (x1 x2 : Array Nat) => x1 ++ x2) acc (List.replicate k xs.toArray) = acc ++ (List.replicate k xs).flatten.toArray
  | 0, acc => by simp
  | k + 1, acc => by
    rw [List.replicate_succ, List.foldl_cons, flat_rep xs k, List.replicate_succ, List.flatten_cons]
    simp
theorem str_mul {prog : Program} {w : World} {A : Around} {E : Value → Shared → Prop} {s : Shared} {x : Str} {t u : Tok} {k : Int} {Q : Value → Shared → Prop} (h1 : -(2 ^ 60) < k) (h2 : k < 2 ^ 60) (hz : x.length * k.toNat ≤ sizeLine)
    (h : ∀ t' tk, Q (.str ⟨(List.replicate k.toNat x.cps.toList).flatten.toArray⟩ t') { s with toks := tk }) : wpAny (model prog w) A (binaryOp .Mult (.str x t) (.int k u)) Q E s := by
  have hs : (sizeLine : Nat) = 16777216 := by decide
  refine PySem.P.mul_str ?_ ?_ ?_ ?_
  · have a1 : ¬ k < -(2 ^ 63 : Int) := by omega
    have a2 : ¬ k ≥ 2 ^ 63 := by omega
    rw [decide_eq_false a1, decide_eq_false a2]
    rfl
  · intro a b z
    have k1 : 0 < k := by omega
    have : (x.length : Int) * k ≤ 16777216 := by
      have e : ((x.length * k.toNat : Nat) : Int) = (x.length : Int) * k := by
        rw [Int.natCast_mul, Int.toNat_of_nonneg (by omega)]
      rw [← e]
      omega
    have q : (2 ^ 63 - 1 : Int) / k < x.length := z
    have := (Int.ediv_lt_iff_lt_mul k1).mp q
    omega
  · intro a b
    unfold Builtin.Str.tooLong
    exact decide_eq_false (by omega)
  · have hf : (⟨List.foldl (fun (x1 x2 : Array Nat) => x1 ++ x2) #[] (List.replicate k.toNat x.cps)⟩ : Str) = ⟨(List.replicate k.toNat x.cps.toList).flatten.toArray⟩ := by
      have := flat_rep x.cps.toList k.toNat #[]
      simp only [Array.toArray_toList] at this
      rw [this]
      simp
    split
    · rename_i c
      have e : k.toNat = 0 := by omega
      refine ⟨by decide, ?_⟩
      have := h s.toks (s.toks + 1)
      rw [e] at this
      exact this
    · split
      · rename_i c c2
        simp only [Bool.or_eq_true, beq_iff_eq] at c2
        have e : (⟨(List.replicate k.toNat x.cps.toList).flatten.toArray⟩ : Str) = x := by
          rcases c2 with c2 | c2
          · subst c2
            simp
          · have : x.cps = #[] := Array.eq_empty_of_size_eq_zero c2
            cases x
            simp at this
            subst this
            simp
        have := h t s.toks
        rw [e] at this
        exact this
      · rw [hf]
        refine ⟨?_, h s.toks (s.toks + 1)⟩
        show _ ≤ _
        have : (List.replicate k.toNat x.cps.toList).flatten.length = x.length * k.toNat := by
          rw [PyProof.Rows.lm_len_rep_flat, Nat.mul_comm]
          rfl
        show (List.replicate k.toNat x.cps.toList).flatten.toArray.size ≤ _
        rw [List.size_toArray, this]
        exact hz
def bop : BOp → Operator
  | .add => .Add | .sub => .Sub | .mul => .Mult | .fdiv => .FloorDiv | .mod => .Mod | .pow => .Pow | .cat => .Add | .rep => .Mult
def lvB : BOp → Nat
  | .cat => 1 | .rep => 1 | _ => 0
theorem bin_ok (o : BOp) : Op2 X (binaryOp (bop o)) (binD o) (lvB o) := by
  intro pins s σ H x y v u dx dy d no Q I rx ry hx hy hb e f
  cases o with
  | add =>
    cases dx <;> cases dy <;> simp only [binD, addD] at e <;> first | cases e | skip
    · simp only [Rt] at hx hy
      subst hx hy
      exact op_add pins s σ H _ _ v u Q I rx ry ⟨_, _, rfl, rfl, f.int⟩
    · simp only [Rt] at hx hy
      subst hx hy
      obtain ⟨g, e⟩ := when_ok e
      subst e
      exact op_add_str pins s σ H _ _ v u Q I rx ry ⟨_, _, rfl, rfl, fits_le g, f.str⟩
    · obtain ⟨g, e⟩ := when_ok e
      subst e
      exact cat_lists I rx ry hx hy hb (fits_le g) (Nat.zero_le _) f
    · obtain ⟨g, e⟩ := when_ok e
      subst e
      rename_i xs ys
      obtain ⟨a, ws, its, rfl, rfl, q1, r1, v1, l1, z1, e1, e2⟩ := tup_at I rx hx
      obtain ⟨b, us, its2, rfl, rfl, q2, r2, v2, l2, z2, e3, e4⟩ := tup_at I ry hy
      refine op_catA pins s σ H _ _ _ _ Q I rx ry ⟨a, b, ws, us, rfl, rfl, .of q1, .of q2, by have := fits_le g; omega, fun z => ?_, fun _ z => ?_, fun _ _ => f.tup hb (r1.app r2)⟩
      · have z2 : xs = [] := List.eq_nil_of_length_eq_zero (by rw [e1, z]; rfl)
        subst z2
        exact f.old hy
      · have z2 : ys = [] := List.eq_nil_of_length_eq_zero (by rw [e3, z]; rfl)
        subst z2
        rw [List.append_nil] at f
        exact f.old hx
  | sub =>
    cases dx <;> cases dy <;> simp only [binD, subD] at e <;> first | cases e | skip
    simp only [Rt] at hx hy
    subst hx hy
    exact op_sub pins s σ H _ _ v u Q I rx ry ⟨_, _, rfl, rfl, f.int⟩
  | mul =>
    cases dx <;> cases dy <;> simp only [binD, mulD] at e <;> first | cases e | skip
    · simp only [Rt] at hx hy
      subst hx hy
      obtain ⟨g, e⟩ := when_ok e
      subst e
      obtain ⟨t, rfl⟩ := rx
      obtain ⟨t', rfl⟩ := ry
      exact PyProof.Rows.mul_int ⟨.int _, H, I.tok _, ⟨_, rfl⟩, f.int⟩ (mul_ok g)
    · simp only [Rt] at hx hy
      subst hx hy
      obtain ⟨g, e⟩ := when_ok e
      subst e
      rw [Bool.and_eq_true] at g
      obtain ⟨t, rfl⟩ := rx
      obtain ⟨t', rfl⟩ := ry
      exact str_mul (small_lt g.1).1 (small_lt g.1).2 (fits_le g.2) fun t' tk => ⟨.str _, H, I.tok tk, ⟨_, rfl⟩, f.str⟩
  | fdiv =>
    cases dx <;> cases dy <;> simp only [binD, fdivD] at e <;> first | cases e | skip
    simp only [Rt] at hx hy
    subst hx hy
    obtain ⟨g, e⟩ := when_ok e
    subst e
    rw [Bool.and_eq_true] at g
    exact op_fdivW pins s σ H _ _ v u Q I rx ry ⟨_, _, rfl, rfl, ⟨of_decide_eq_true g.1, of_decide_eq_true g.2⟩, f.int⟩
  | mod =>
    cases dx <;> cases dy <;> simp only [binD, modD] at e <;> first | cases e | skip
    simp only [Rt] at hx hy
    subst hx hy
    obtain ⟨g, e⟩ := when_ok e
    subst e
    exact op_mod pins s σ H _ _ v u Q I rx ry ⟨_, _, rfl, rfl, of_decide_eq_true g, f.int⟩
  | pow =>
    cases dx <;> cases dy <;> simp only [binD, powD] at e <;> first | cases e | skip
    simp only [Rt] at hx hy
    subst hx hy
    obtain ⟨g, e⟩ := when_ok e
    subst e
    rw [Bool.and_eq_true] at g
    obtain ⟨t, rfl⟩ := rx
    obtain ⟨t', rfl⟩ := ry
    rename_i i j
    have g1 : 0 ≤ j := of_decide_eq_true g.1
    have g3 : (i.natAbs.log2 + 1) * j.natAbs ≤ 134217728 := of_decide_eq_true g.2
    have g2 : ((i.natAbs.log2 : Int) + 1) * j ≤ 2 ^ 27 := by
      have e : (j.natAbs : Int) = j := by omega
      have h := Int.ofNat_le.mpr g3
      rw [Int.natCast_mul, e] at h
      exact h
    refine pow_int g1 (Int.le_trans (Int.mul_le_mul_of_nonneg_right ?_ g1) g2) ⟨.int _, H, I.tok _, ⟨_, rfl⟩, f.int⟩
    have := intBits_log i
    omega
  | cat =>
    cases dx <;> cases dy <;> simp only [binD, catD] at e <;> first | cases e | skip
    obtain ⟨g, e⟩ := when_ok e
    subst e
    exact cat_lists I rx ry hx hy hb (fits_le g) (Nat.le_refl _) f
  | rep =>
    cases dx <;> cases dy <;> simp only [binD, repD] at e <;> first | cases e | skip
    obtain ⟨g, e⟩ := when_ok e
    subst e
    rw [Bool.and_eq_true] at g
    simp only [Rt] at hy
    subst hy
    obtain ⟨t', rfl⟩ := ry
    exact rep_list I rx hx hb (small_lt g.1).1 (small_lt g.1).2 (fits_le g.2) (Nat.le_refl _) f
end
end Pv
end
section
/-! P4: comparisons, subscripts, built-in functions on plain data. -/
namespace Pv
open PySem PySem.Spec PyProof.Rows L2
section
variable {X : Cx} {pins : List (Addr × Obj)} {σ : Sg} {H : Hp} {s : Shared} {no : No}
mutual
theorem Rp.reads (I : Inv X pins σ H s) : ∀ (d : D) (v : V) (u : Value), d.plain = true → Rp X.K H no d v → RelV v u → ∃ as, Reads s.heap u d as
  | .none, _, _, _, h, r => by
    simp only [Rp] at h
    subst h
    cases r
    exact ⟨_, Reads.none⟩
  | .bool b, _, _, _, h, r => by
    simp only [Rp] at h
    subst h
    cases r
    exact ⟨_, Reads.bool b⟩
  | .int i, _, _, _, h, r => by
    simp only [Rp] at h
    subst h
    obtain ⟨t, rfl⟩ := r
    exact ⟨_, Reads.int i t⟩
  | .str x, _, _, _, h, r => by
    simp only [Rp] at h
    subst h
    obtain ⟨t, rfl⟩ := r
    exact ⟨_, Reads.str x t⟩
  | .list ds, _, _, p, h, r => by
    obtain ⟨a, xs, its, rfl, rfl, q1, r1, v1, ⟨o, ho, hc, n, hd⟩, _⟩ := list_at I r h.rt
    obtain ⟨as, hr⟩ := RpL.reads I ds xs its (by simpa [PyData.plain] using p) r1 v1
    exact ⟨_, Reads.list ho hc hd hr⟩
  | .tuple ds, _, _, p, h, r => by
    obtain ⟨a, xs, its, rfl, rfl, q1, r1, v1, ⟨o, ho, hc, n, hd⟩, _⟩ := tup_at I r h
    obtain ⟨as, hr⟩ := RpL.reads I ds xs its (by simpa [PyData.plain] using p) r1 v1
    exact ⟨_, Reads.tuple ho hc hd hr⟩
  | .dict _, _, _, p, _, _ => by simp [PyData.plain] at p
theorem RpL.reads (I : Inv X pins σ H s) : ∀ (ds : List D) (vs : List V) (us : List Value), PyData.plainAll ds = true → RpL X.K H no ds vs → Vals vs us → ∃ as, ReadsAll s.heap us ds as
  | [], _, _, _, h, r => by
    simp only [RpL] at h
    subst h
    cases r
    exact ⟨_, ReadsAll.nil⟩
  | d :: ds, _, _, p, h, r => by
    simp only [RpL] at h
    obtain ⟨v, vs, rfl, h1, h2⟩ := h
    cases r with
    | cons r1 r2 =>
      have p' : d.plain = true ∧ PyData.plainAll ds = true := by simpa [PyData.plainAll] using p
      obtain ⟨as, q1⟩ := Rp.reads I d _ _ p'.1 h1 r1
      obtain ⟨bs, q2⟩ := RpL.reads I ds _ _ p'.2 h2 r2
      exact ⟨_, ReadsAll.cons q1 q2⟩
end
end
theorem plainAll_of {xs : List D} (h : xs.all plainDepth = true) : PyData.plainAll xs = true ∧ PyData.depthAll xs ≤ 40 := by
  induction xs with
  | nil => simp [PyData.plainAll, PyData.depthAll]
  | cons x xs ih =>
    simp only [List.all_cons, Bool.and_eq_true, plainDepth, decide_eq_true_eq] at h
    have := ih (by simpa [plainDepth] using h.2)
    simp only [PyData.plainAll, PyData.depthAll, Bool.and_eq_true]
    exact ⟨⟨h.1.1, this.1⟩, by have := this.2; omega⟩
theorem plainDepth_of {d : D} (h : plainDepth d = true) : d.plain = true ∧ d.depth ≤ 40 := by
  simp only [plainDepth, Bool.and_eq_true, decide_eq_true_eq] at h
  exact h
/-- a comparison, by values -/
def OpC (X : Cx) (op : CmpOp) (f : D → D → Out Bool) : Prop :=
  ∀ (pins : List (Addr × Obj)) (s : Shared) (σ : Sg) (H : Hp) (x y : V) (v u : Value) (dx dy : D) (b : Bool) (no : No) (Q : VK), Inv X pins σ H s → RelV x v → RelV y u → Rp X.K H no dx x → Rp X.K H no dy y → f dx dy = .ok b →
    Q (.bl b) H → wpAny (model X.prog X.w) X.A (compareOp op v u) (EP X pins σ Q) X.xe s
section
variable {X : Cx}
theorem keyS_of {k : D} {v : V} {K : Fg} {H : Hp} {no : No} (h : keyS k = true) (r : Rp K H no k v) : ∃ q : Key, k = kD q ∧ v = kV q := by
  cases k <;> simp only [keyS] at h <;> first | cases h | skip
  · simp only [Rp] at r
    exact ⟨.inl _, rfl, r⟩
  · simp only [Rp] at r
    exact ⟨.inr _, rfl, r⟩
theorem keysS_of {K : Fg} {H : Hp} {no : No} : ∀ {ks : List D} {vs : List V}, ks.all keyS = true → RpL K H no ks vs → ∃ qs : List Key, ks = qs.map kD ∧ vs = qs.map kV
  | [], vs, _, r => by
    simp only [RpL] at r
    exact ⟨[], rfl, r⟩
  | k :: ks, vs, h, r => by
    simp only [List.all_cons, Bool.and_eq_true] at h
    simp only [RpL] at r
    obtain ⟨v, w, rfl, h1, h2⟩ := r
    obtain ⟨q, rfl, rfl⟩ := keyS_of h.1 h1
    obtain ⟨qs, rfl, rfl⟩ := keysS_of h.2 h2
    exact ⟨q :: qs, rfl, rfl⟩
theorem keyT_of {k : D} {v : V} {K : Fg} {H : Hp} {no : No} (h : keyT k = true) (r : Rp K H no k v) : ∃ (q : List Key) (b : Addr), k = tD q ∧ v = .ref b ∧ H b = some (.tup (q.map kV)) := by
  cases k <;> simp only [keyT] at h <;> first | cases h | skip
  rename_i xs
  simp only [Rp] at r
  obtain ⟨a, vs, rfl, h1, h2⟩ := r
  obtain ⟨qs, rfl, rfl⟩ := keysS_of h h2
  exact ⟨qs, a, rfl, rfl, h1.1⟩
theorem kD_eqv (a b : Key) : (kD a).eqv (kD b) = decide (a = b) := by
  cases a <;> cases b <;> simp [kD, PyData.eqv, Bool.beq_eq_decide_eq]
theorem kDs_eqv : ∀ (a b : List Key), PyData.eqvAll (a.map kD) (b.map kD) = decide (a = b)
  | [], [] => by simp [PyData.eqvAll]
  | [], _ :: _ => by simp [PyData.eqvAll]
  | _ :: _, [] => by simp [PyData.eqvAll]
  | x :: a, y :: b => by
    simp only [List.map_cons, PyData.eqvAll, kD_eqv, kDs_eqv a b, List.cons.injEq, Bool.decide_and]
theorem tD_eqv (a b : List Key) : (tD a).eqv (tD b) = decide (a = b) := by
  simp only [tD, PyData.eqv, kDs_eqv]
theorem lookK {K : Fg} {H : Hp} {no : No} (q : Key) : ∀ {kvs : List (D × D)} {es : List (Key × V)}, RpK K H no kvs es →
    (lookD (kD q) kvs = none ∧ valV es q = none) ∨ ∃ d v, lookD (kD q) kvs = some d ∧ valV es q = some v ∧ Rp K H no d v
  | [], es, h => by
    simp only [RpK] at h
    subst h
    exact .inl ⟨rfl, rfl⟩
  | (k, d) :: r, es, h => by
    simp only [RpK] at h
    obtain ⟨p, v, s, rfl, rfl, h1, h2⟩ := h
    by_cases e : p = q
    · subst e
      exact .inr ⟨d, v, by simp [lookD, kD_eqv], valV_pos rfl, h1⟩
    · rcases lookK q h2 with ⟨a, b⟩ | ⟨d', v', a, b, c⟩
      · exact .inl ⟨by simp [lookD, kD_eqv, e, a], by rw [valV_neg e]; exact b⟩
      · exact .inr ⟨d', v', by simp [lookD, kD_eqv, e, a], by rw [valV_neg e]; exact b, c⟩
theorem lookT {K : Fg} {H : Hp} {no : No} (q : List Key) : ∀ {kvs : List (D × D)} {es : List (List Key × V)}, RpT K H no kvs es →
    (lookD (tD q) kvs = none ∧ valV es q = none) ∨ ∃ d v, lookD (tD q) kvs = some d ∧ valV es q = some v ∧ Rp K H no d v
  | [], es, h => by
    simp only [RpT] at h
    subst h
    exact .inl ⟨rfl, rfl⟩
  | (k, d) :: r, es, h => by
    simp only [RpT] at h
    obtain ⟨p, v, s, rfl, rfl, h1, h2⟩ := h
    by_cases e : p = q
    · subst e
      exact .inr ⟨d, v, by simp [lookD, tD_eqv], valV_pos rfl, h1⟩
    · rcases lookT q h2 with ⟨a, b⟩ | ⟨d', v', a, b, c⟩
      · exact .inl ⟨by simp [lookD, tD_eqv, e, a], by rw [valV_neg e]; exact b⟩
      · exact .inr ⟨d', v', by simp [lookD, tD_eqv, e, a], by rw [valV_neg e]; exact b, c⟩
def keysAs (k : D) (kvs : List (D × D)) : Bool := keyD k && kvs.all fun p => keyS p.1 == keyS k
theorem keyS_kD (q : Key) : keyS (kD q) = true := by cases q <;> rfl
theorem keyS_tD (q : List Key) : keyS (tD q) = false := rfl
theorem keyT_not {k : D} (h : keyT k = true) : keyS k = false := by
  cases k <;> simp only [keyT] at h <;> first | cases h | rfl
/-- the dict at a answers o for the key y -/
def DAt (P : Program) (w : World) (h : Heap) (a : Addr) (y : V) (o : Option V) : Prop :=
  (a == sysModules) = false ∧ ((∃ (vs : List (Key × Value)) (k : Key), y = kV k ∧ h.DictOf (mixKind P w) a vs ∧ RelO o (valueAt vs k)) ∨
    ∃ (xs : List (List Key × Addr × Value)) (k : List Key) (b : Addr), y = .ref b ∧ (tupleKind (mixKind P w)).is h k b ∧ h.DictOfH (tupleKind (mixKind P w)) a xs ∧ RelO o ((atKey xs k).map (·.2)))
section
variable {pins : List (Addr × Obj)} {σ : Sg} {H : Hp} {s : Shared} {no : No} {a : Addr} {y d : V} {u r : Value} {o : Option V} {A : Around} {E : Value → Shared → Prop}
theorem dict_at (I : Inv X pins σ H s) {k : D} {kvs : List (D × D)} {no' : No} (g : keysAs k kvs = true) (r : Rp X.K H no' k y) (h : (∃ es, Rd H a (.dK es) ∧ RpK X.K H no kvs es) ∨ ∃ es, Rd H a (.dT es) ∧ RpT X.K H no kvs es) :
    ∃ o, DAt X.prog X.w s.heap a y o ∧ ((lookD k kvs = none ∧ o = none) ∨ ∃ d v, lookD k kvs = some d ∧ o = some v ∧ Rp X.K H no d v) := by
  simp only [keysAs, Bool.and_eq_true, keyD, Bool.or_eq_true] at g
  obtain ⟨g1, g2⟩ := g
  rcases h with ⟨es, h1, h2⟩ | ⟨es, h1, h2⟩
  · obtain ⟨z, hd, vs, rel, dd⟩ := dk_rd I.hok h1
    rcases g1 with g1 | g1
    · obtain ⟨q, rfl, rfl⟩ := keyS_of g1 r
      refine ⟨_, ⟨hd, .inl ⟨vs, q, rfl, dd, rel.val q⟩⟩, ?_⟩
      rcases lookK q h2 with ⟨a1, a2⟩ | ⟨d, v, a1, a2, a3⟩
      · exact .inl ⟨a1, a2⟩
      · exact .inr ⟨d, v, a1, a2, a3⟩
    · cases kvs with
      | nil =>
        simp only [RpK] at h2
        subst h2
        cases rel
        obtain ⟨q, b, rfl, rfl, hb⟩ := keyT_of g1 r
        obtain ⟨ob, es, ep, e1, e2, e3, _, e4, _⟩ := dd
        refine ⟨none, ⟨hd, .inr ⟨[], q, b, rfl, key_of I.hok hb, ⟨ob, es, ep, e1, e2, e3, ?_, fun x hx => by simp at hx, by simp⟩, trivial⟩⟩, .inl ⟨rfl, rfl⟩⟩
        generalize es.toList = l at e4
        cases e4
        rfl
      | cons p kvs =>
        obtain ⟨k', d'⟩ := p
        simp only [RpK] at h2
        obtain ⟨q, v, s, _, rfl, _⟩ := h2
        simp only [List.all_cons, Bool.and_eq_true, keyS_kD, keyT_not g1] at g2
        exact absurd g2.1 (by decide)
  · obtain ⟨z, hd, xs, rel, dd⟩ := dt_rd I.hok h1
    rcases g1 with g1 | g1
    · cases kvs with
      | nil =>
        simp only [RpT] at h2
        subst h2
        cases rel
        obtain ⟨q, rfl, rfl⟩ := keyS_of g1 r
        obtain ⟨ob, es, ep, e1, e2, e3, e4, _, _⟩ := dd
        have e0 : es.toList = [] := by simpa using e4
        have e5 : es = #[] := by simpa using e0
        subst e5
        exact ⟨none, ⟨hd, .inl ⟨[], q, rfl, ⟨ob, #[], ep, e1, e2, e3, fun e he => by simp at he, .nil, by simp⟩, trivial⟩⟩, .inl ⟨rfl, rfl⟩⟩
      | cons p kvs =>
        obtain ⟨k', d'⟩ := p
        simp only [RpT] at h2
        obtain ⟨q, v, s, _, rfl, _⟩ := h2
        simp only [List.all_cons, Bool.and_eq_true, keyS_tD, g1] at g2
        exact absurd g2.1 (by decide)
    · obtain ⟨q, b, rfl, rfl, hb⟩ := keyT_of g1 r
      refine ⟨_, ⟨hd, .inr ⟨xs, q, b, rfl, key_of I.hok hb, dd, rel.val q⟩⟩, ?_⟩
      rcases lookT q h2 with ⟨a1, a2⟩ | ⟨d, v, a1, a2, a3⟩
      · exact .inl ⟨a1, a2⟩
      · exact .inr ⟨d, v, a1, a2, a3⟩
theorem at_item {v : V} {Q : Value → Shared → Prop} (hu : A.units + 1 < cLine) (g : DAt X.prog X.w s.heap a y (some v)) (ry : RelV y u) (h : ∀ w' tk, RelV v w' → Q w' { s with toks := tk }) :
    wpAny (model X.prog X.w) A (getItem (.ref a) u) Q E s := by
  obtain ⟨hd, ⟨vs, k, rfl, dd, l⟩ | ⟨xs, k, b, rfl, hb, dd, l⟩⟩ := g
  · obtain ⟨w', hw, rw'⟩ := RelO.some_of l
    exact wpAny_getItem_of (kV_is ry) dd.mapOf hw (h w' _ rw')
  · cases ry
    obtain ⟨w', hw, rw'⟩ := RelO.some_of l
    obtain ⟨p, hp, hp2⟩ := Option.map_eq_some_iff.mp hw
    refine wpAny_getItem_heap (tupleKind_room_in1 hu) hb dd hp ?_
    rw [hp2]
    exact h w' _ rw'
theorem at_in {Q : Value → Shared → Prop} (hu : A.units + 1 < cLine) (g : DAt X.prog X.w s.heap a y o) (ry : RelV y u) (h : ∀ tk, Q (.bool o.isSome) { s with toks := tk }) : wpAny (model X.prog X.w) A (compareOp .In u (.ref a)) Q E s := by
  obtain ⟨hd, ⟨vs, k, rfl, dd, l⟩ | ⟨xs, k, b, rfl, hb, dd, l⟩⟩ := g
  · refine wpAny_in_of (kV_is ry) hd dd.mapOf ?_
    rw [← l.isSome_eq]
    exact h _
  · cases ry
    refine wpAny_in_heap (tupleKind_room_in1 hu) hb hd dd ?_
    have q := l.isSome_eq
    rw [Option.isSome_map] at q
    rw [← q]
    exact h _
theorem at_nin {Q : Value → Shared → Prop} (hu : A.units + 1 < cLine) (g : DAt X.prog X.w s.heap a y o) (ry : RelV y u) (h : ∀ tk, Q (.bool (!o.isSome)) { s with toks := tk }) : wpAny (model X.prog X.w) A (compareOp .NotIn u (.ref a)) Q E s := by
  obtain ⟨hd, ⟨vs, k, rfl, dd, l⟩ | ⟨xs, k, b, rfl, hb, dd, l⟩⟩ := g
  · refine wpAny_notIn_of (kV_is ry) hd dd.mapOf ?_
    rw [← l.isSome_eq]
    exact h _
  · cases ry
    refine wpAny_notIn_heap (tupleKind_room_in1 hu) hb hd dd ?_
    have q := l.isSome_eq
    rw [Option.isSome_map] at q
    rw [← q]
    exact h _
theorem at_get1 {Q : Value → Shared → Prop} (hu : A.units + 1 < cLine) (g : DAt X.prog X.w s.heap a y o) (ry : RelV y u) (h : ∀ w' tk, RelV (o.getD .non) w' → Q w' { s with toks := tk }) : wpAny (model X.prog X.w) A (call (.builtin "dict.get") [.ref a, u]) Q E s := by
  obtain ⟨hd, ⟨vs, k, rfl, dd, l⟩ | ⟨xs, k, b, rfl, hb, dd, l⟩⟩ := g
  · exact call_meetsIn PySem.F.slot_dict_get dd.typeIs PySem.F.entry_dict_get (PySem.F.args_dict_get_2 _ _) (meets_dict_get (mixKind X.prog X.w) a (kV_is ry) hd) ⟨_, dd.mapOf, h _ _ (l.getD rfl)⟩
  · cases ry
    exact call_meetsIn PySem.F.slot_dict_get dd.typeIs PySem.F.entry_dict_get (PySem.F.args_dict_get_2 _ _) (meetsH_dict_get (tupleKind (mixKind X.prog X.w)) a b hd) ⟨tupleKind_room_in1 hu, k, xs, hb, dd, h _ _ (l.getD rfl)⟩
theorem at_get2 {Q : Value → Shared → Prop} (hu : A.units + 1 < cLine) (g : DAt X.prog X.w s.heap a y o) (ry : RelV y u) (rd : RelV d r) (h : ∀ w' tk, RelV (o.getD d) w' → Q w' { s with toks := tk }) : wpAny (model X.prog X.w) A (call (.builtin "dict.get") [.ref a, u, r]) Q E s := by
  obtain ⟨hd, ⟨vs, k, rfl, dd, l⟩ | ⟨xs, k, b, rfl, hb, dd, l⟩⟩ := g
  · exact call_meetsIn PySem.F.slot_dict_get dd.typeIs PySem.F.entry_dict_get (PySem.F.args_dict_get_3 _ _ _) (meets_dict_get_default (mixKind X.prog X.w) a (kV_is ry) hd r) ⟨_, dd.mapOf, h _ _ (l.getD rd)⟩
  · cases ry
    exact call_meetsIn PySem.F.slot_dict_get dd.typeIs PySem.F.entry_dict_get (PySem.F.args_dict_get_3 _ _ _) (meetsH_dict_get_default (tupleKind (mixKind X.prog X.w)) a b hd r) ⟨tupleKind_room_in1 hu, k, xs, hb, dd, h _ _ (l.getD rd)⟩
end

/-! ### comparisons -/
def cop : COp → CmpOp
  | .eq => .Eq | .ne => .NotEq | .lt => .Lt | .le => .LtE | .gt => .Gt | .ge => .GtE | .isN => .Is | .isnN => .IsNot | .in_ => .In | .nin => .NotIn
theorem ord_of {x y : D} (h : ordOk x y = true) : W.alike x y = true ∧ x ≠ .none ∧ (x.plain = true ∧ x.depth ≤ 40) ∧ (y.plain = true ∧ y.depth ≤ 40) := by
  simp only [ordOk, Bool.and_eq_true] at h
  refine ⟨h.1.1.1, ?_, plainDepth_of h.1.2, plainDepth_of h.2⟩
  intro e
  rw [e] at h
  exact absurd h.1.1.2 (by decide)
theorem hu40 {A : Around} (hu : A.units + 64 < cLine) {d e : Nat} (h : d ≤ 40) : A.units + 1 + min e d < cLine ∧ A.units + min e d < cLine ∧ A.units + 1 + min d e < cLine ∧ A.units + min d e < cLine := by omega
theorem str_lt {x y : Str} : W.dataLt (.str x) (.str y) = strLt x y := by
  rw [W.dataLt_str]
  rfl
section
variable {pins : List (Addr × Obj)} {σ : Sg} {H : Hp} {s : Shared} {no : No} {x y : V} {v u : Value} {dx dy : D} {b : Bool} {Q : VK}
theorem eq_ok (hu : X.A.units + 64 < cLine) (I : Inv X pins σ H s) (rx : RelV x v) (ry : RelV y u) (hx : Rp X.K H no dx x) (hy : Rp X.K H no dy y) (p : plainDepth dx = true) (p2 : plainDepth dy = true) (q : Q (.bl (dx.eqv dy)) H) :
    wpAny (model X.prog X.w) X.A (compareOp .Eq v u) (EP X pins σ Q) X.xe s := by
  obtain ⟨as, r1⟩ := hx.reads I dx x v (plainDepth_of p).1 rx
  obtain ⟨bs, r2⟩ := hy.reads I dy y u (plainDepth_of p2).1 ry
  exact SeqAt.eq_plain r1 r2 (plainDepth_of p).1 (plainDepth_of p2).1 (hu40 hu (plainDepth_of p2).2).2.1 ⟨.bl _, H, I, rfl, q⟩
theorem ne_ok (hu : X.A.units + 64 < cLine) (I : Inv X pins σ H s) (rx : RelV x v) (ry : RelV y u) (hx : Rp X.K H no dx x) (hy : Rp X.K H no dy y) (p : plainDepth dx = true) (p2 : plainDepth dy = true) (q : Q (.bl (!dx.eqv dy)) H) :
    wpAny (model X.prog X.w) X.A (compareOp .NotEq v u) (EP X pins σ Q) X.xe s := by
  obtain ⟨as, r1⟩ := hx.reads I dx x v (plainDepth_of p).1 rx
  obtain ⟨bs, r2⟩ := hy.reads I dy y u (plainDepth_of p2).1 ry
  exact SeqAt.ne_plain r1 r2 (plainDepth_of p).1 (plainDepth_of p2).1 (hu40 hu (plainDepth_of p2).2).2.1 ⟨.bl _, H, I, rfl, q⟩
theorem len_ne (I : Inv X pins σ H s) (rx : RelV x v) (ry : RelV y u) (hx : Rp X.K H no dx x) (hy : Rp X.K H no dy y) (h : lenNe dx dy = true) : ∃ (a b : Addr) (xs ys : Array Value), v = .ref a ∧ u = .ref b ∧ s.heap.IsList a xs ∧ s.heap.IsList b ys ∧ (xs.size != ys.size) = true := by
  unfold lenNe at h
  split at h
  · obtain ⟨a, xs, its, rfl, rfl, _, _, _, l1, _, e1, e2⟩ := list_at I rx hx.rt
    obtain ⟨b, ys, jts, rfl, rfl, _, _, _, l2, _, f1, f2⟩ := list_at I ry hy.rt
    refine ⟨a, b, _, _, rfl, rfl, l1, l2, ?_⟩
    have h := of_decide_eq_true h
    simp only [bne_iff_ne, List.size_toArray]
    omega
  · cases h
theorem in_str (x y : Str) (I : Inv X pins σ H s) (t u : Tok) (q : Q (.bl (inStr x y)) H) : wpAny (model X.prog X.w) X.A (compareOp .In (.str x t) (.str y u)) (EP X pins σ Q) X.xe s :=
  op_in_str pins s σ H (.str x) (.str y) _ _ Q I ⟨_, rfl⟩ ⟨_, rfl⟩ ⟨x, y, rfl, rfl, q⟩
theorem nin_str (x y : Str) (I : Inv X pins σ H s) (t u : Tok) (q : Q (.bl (!inStr x y)) H) : wpAny (model X.prog X.w) X.A (compareOp .NotIn (.str x t) (.str y u)) (EP X pins σ Q) X.xe s :=
  op_notin_str pins s σ H (.str x) (.str y) _ _ Q I ⟨_, rfl⟩ ⟨_, rfl⟩ ⟨x, y, rfl, rfl, q⟩
theorem eqv_dict (x : D) (ys : List (D × D)) : x.eqv (.dict ys) = false := by cases x <;> simp [PyData.eqv]
theorem in_ok (hu : X.A.units + 64 < cLine) (neg : Bool) (I : Inv X pins σ H s) (rx : RelV x v) (ry : RelV y u) (hx : Rp X.K H no dx x) (hy : Rp X.K H no dy y) (e : inD dx dy = .ok b) (q : Q (.bl (if neg then !b else b)) H) :
    wpAny (model X.prog X.w) X.A (compareOp (if neg then .NotIn else .In) v u) (EP X pins σ Q) X.xe s := by
  cases dy with
  | none => cases dx <;> cases e
  | bool _ => cases dx <;> cases e
  | int _ => cases dx <;> cases e
  | str z =>
    cases dx <;> simp only [inD] at e <;> first | cases e | skip
    simp only [Rp] at hx hy
    subst hx hy
    obtain ⟨t, rfl⟩ := rx
    obtain ⟨t', rfl⟩ := ry
    cases neg with
    | true => exact nin_str _ _ I t t' q
    | false => exact in_str _ _ I t t' q
  | list zs =>
    have e' : Out.when (plainDepth dx && zs.all plainDepth) (zs.any fun y => y.eqv dx) = .ok b := by
      cases dx <;> exact e
    obtain ⟨g, e'⟩ := when_ok e'
    rw [Bool.and_eq_true] at g
    obtain ⟨p1, p2⟩ := plainDepth_of g.1
    obtain ⟨p3, p4⟩ := plainAll_of g.2
    obtain ⟨as, r1⟩ := hx.reads I dx x v p1 rx
    obtain ⟨bs, r2⟩ := hy.reads I (.list zs) y u (by simpa [PyData.plain] using p3) ry
    subst e'
    cases neg with
    | true => exact SeqAt.notIn_list_data r2 r1 p3 p1 (hu40 hu p2).1 ⟨.bl _, H, I, rfl, q⟩
    | false => exact SeqAt.in_list_data r2 r1 p3 p1 (hu40 hu p2).1 ⟨.bl _, H, I, rfl, q⟩
  | tuple zs =>
    have e' : Out.when (plainDepth dx && zs.all plainDepth) (zs.any fun y => y.eqv dx) = .ok b := by
      cases dx <;> exact e
    obtain ⟨g, e'⟩ := when_ok e'
    rw [Bool.and_eq_true] at g
    obtain ⟨p1, p2⟩ := plainDepth_of g.1
    obtain ⟨p3, p4⟩ := plainAll_of g.2
    obtain ⟨as, r1⟩ := hx.reads I dx x v p1 rx
    obtain ⟨bs, r2⟩ := hy.reads I (.tuple zs) y u (by simpa [PyData.plain] using p3) ry
    subst e'
    cases neg with
    | true => exact SeqAt.notIn_tuple_data r2 r1 p3 p1 (hu40 hu p2).1 ⟨.bl _, H, I, rfl, q⟩
    | false => exact SeqAt.in_tuple_data r2 r1 p3 p1 (hu40 hu p2).1 ⟨.bl _, H, I, rfl, q⟩
  | dict kvs =>
    have e' : Out.when (keysAs dx kvs) (lookD dx kvs).isSome = .ok b := by
      cases dx <;> exact e
    obtain ⟨g, e'⟩ := when_ok e'
    simp only [Rp] at hy
    obtain ⟨a, rfl, _, hy⟩ := hy
    obtain ⟨o, g, h⟩ := dict_at I g hx hy
    cases ry
    have eo : o.isSome = b := by
      rcases h with ⟨h1, h2⟩ | ⟨d, w, h1, h2, _⟩
      · rw [h1] at e'
        rw [h2, ← e']
        rfl
      · rw [h1] at e'
        rw [h2, ← e']
        rfl
    cases neg with
    | true => exact at_nin (by omega) g rx fun tk => ⟨.bl _, H, I.tok tk, by rw [eo]; rfl, q⟩
    | false => exact at_in (by omega) g rx fun tk => ⟨.bl _, H, I.tok tk, by rw [eo]; rfl, q⟩
/-- a dict of texts and numbers, as the machine holds it -/
theorem dd_of (I : Inv X pins σ H s) {a : Addr} {kvs : List (D × D)} (h : (∃ es, Rd H a (.dK es) ∧ RpK X.K H no kvs es) ∨ ∃ es, Rd H a (.dT es) ∧ RpT X.K H no kvs es) (g : (kvs.all fun p => keyS p.1) = true) :
    ∃ (es : List (Key × V)) (vs : List (Key × Value)), RpK X.K H no kvs es ∧ KV es vs ∧ (a == sysModules) = false ∧ s.heap.DictOf (mixKind X.prog X.w) a vs := by
  rcases h with ⟨es, h1, h2⟩ | ⟨es, h1, h2⟩
  · obtain ⟨_, lo, vs, r, d⟩ := h1.ok I.hok
    exact ⟨es, vs, h2, r, lo, d⟩
  · cases kvs with
    | nil =>
      simp only [RpT] at h2
      subst h2
      obtain ⟨_, lo, xs, rel, o, es, ep, h1, h2, h3, h4, h5⟩ := h1.ok I.hok
      cases rel
      have e : es.toList = [] := by simpa using h4
      have e2 : es = #[] := by simpa using e
      refine ⟨[], [], by simp [RpK], .nil, lo, o, es, ep, h1, h2, h3, ?_, ?_, by simp⟩
      · subst e2
        intro i hi
        simp at hi
      · rw [e]
        exact .nil
    | cons p r =>
      obtain ⟨k, d⟩ := p
      simp only [RpT] at h2
      obtain ⟨q, v, t, _, e2, _, _⟩ := h2
      subst e2
      simp [tD, keyS] at g
theorem hits_of {kb : List (D × D)} {eb : List (Key × V)} (hb : RpK X.K H no kb eb) : ∀ {ka : List (D × D)} {ea : List (Key × V)}, RpK X.K H no ka ea → (ka.all fun p => keyS p.1 && match lookD p.1 kb with | some v => sameFl p.2 v | none => false) = true → ∀ p ∈ ea, valV eb p.1 = some p.2 ∧ flatB p.2 = true
  | [], ea, h, _ => by
    simp only [RpK] at h
    subst h
    intro p m
    cases m
  | (x, d) :: ka, ea, h, g => by
    simp only [RpK] at h
    obtain ⟨q, v, t, rfl, rfl, h1, h2⟩ := h
    simp only [List.all_cons, Bool.and_eq_true] at g
    intro p m
    rcases List.mem_cons.mp m with rfl | m
    · have g1 := g.1.2
      rcases lookK q hb with ⟨e1, e2⟩ | ⟨d', v', e1, e2, e3⟩
      · rw [e1] at g1
        cases g1
      · rw [e1] at g1
        have g1 : sameFl d d' = true := g1
        cases d <;> cases d' <;> simp only [sameFl] at g1 <;> first | (cases g1; done) | skip
        · have := of_decide_eq_true g1
          subst this
          simp only [Rp] at h1 e3
          subst h1 e3
          exact ⟨e2, rfl⟩
        · have := of_decide_eq_true g1
          subst this
          simp only [Rp] at h1 e3
          subst h1 e3
          exact ⟨e2, rfl⟩
    · exact hits_of hb h2 g.2 p m
theorem dd_len : ∀ {kvs : List (D × D)} {es : List (Key × V)}, RpK X.K H no kvs es → kvs.length = es.length
  | [], es, h => by
    simp only [RpK] at h
    subst h
    rfl
  | (x, d) :: kvs, es, h => by
    simp only [RpK] at h
    obtain ⟨q, v, s, rfl, rfl, h1, h2⟩ := h
    simp [dd_len h2]
theorem dd_pair (I : Inv X pins σ H s) (rx : RelV x v) (ry : RelV y u) (hx : Rp X.K H no dx x) (hy : Rp X.K H no dy y) (h : eqDD dx dy = true) : ∃ (a b : Addr) (va vb : List (Key × Value)), v = .ref a ∧ u = .ref b ∧ (a == sysModules) = false ∧ (b == sysModules) = false ∧ s.heap.DictOf (mixKind X.prog X.w) a va ∧ s.heap.DictOf (mixKind X.prog X.w) b vb ∧ va.length = vb.length ∧ PySem.W.KeqHits X.A.in1 s vb va true := by
  unfold eqDD at h
  split at h
  · rename_i ka kb
    simp only [Bool.and_eq_true, decide_eq_true_eq] at h
    obtain ⟨⟨h1, h2⟩, h3⟩ := h
    obtain ⟨a, rfl, ha⟩ := rt_dict hx.rt
    obtain ⟨b, rfl, hb⟩ := rt_dict hy.rt
    cases rx
    cases ry
    have g1 : (ka.all fun p => keyS p.1) = true := by
      rw [List.all_eq_true] at h2 ⊢
      intro p hp
      have := h2 p hp
      rw [Bool.and_eq_true] at this
      exact this.1
    obtain ⟨ea, va, ra, ka1, ya, da⟩ := dd_of I ha g1
    obtain ⟨eb, vb, rb, kb1, yb, db⟩ := dd_of I hb h3
    refine ⟨a, b, va, vb, rfl, rfl, ya, yb, da, db, ?_, hits_all kb1 ka1 (hits_of rb ra h2)⟩
    rw [← ka1.length, ← kb1.length, ← dd_len ra, ← dd_len rb]
    exact h1
  · cases h
theorem eqDD_ok (hu : X.A.units < cLine) (I : Inv X pins σ H s) (rx : RelV x v) (ry : RelV y u) (hx : Rp X.K H no dx x) (hy : Rp X.K H no dy y) (h : eqDD dx dy = true) (q : Q (.bl true) H) : wpAny (model X.prog X.w) X.A (compareOp .Eq v u) (EP X pins σ Q) X.xe s := by
  obtain ⟨a, b, va, vb, rfl, rfl, ya, yb, da, db, hl, hh⟩ := dd_pair I rx ry hx hy h
  exact PySem.W.keq_eq (knd := mixKind X.prog X.w) (r := true) ya yb da db hu (fun _ => hh) (fin_bl I q (by simp [hl]))
theorem neDD_ok (hu : X.A.units < cLine) (I : Inv X pins σ H s) (rx : RelV x v) (ry : RelV y u) (hx : Rp X.K H no dx x) (hy : Rp X.K H no dy y) (h : eqDD dx dy = true) (q : Q (.bl false) H) : wpAny (model X.prog X.w) X.A (compareOp .NotEq v u) (EP X pins σ Q) X.xe s := by
  obtain ⟨a, b, va, vb, rfl, rfl, ya, yb, da, db, hl, hh⟩ := dd_pair I rx ry hx hy h
  exact PySem.W.keq_ne (knd := mixKind X.prog X.w) (r := true) ya yb da db hu (fun _ => hh) (fin_bl I q (by simp [hl]))
theorem int2 {K : Fg} {i j : Int} (hx : Rp K H no (.int i) x) (hy : Rp K H no (.int j) y) : x = .int i ∧ y = .int j := by
  simp only [Rp] at hx hy
  exact ⟨hx, hy⟩
end
theorem cmp_ok (hu : X.A.units + 64 < cLine) (o : COp) : OpC X (cop o) (cmpD o) := by
  intro pins s σ H x y v u dx dy b no Q I rx ry hx hy e q
  have ord : ordOk dx dy = true → ∃ as bs, Reads s.heap v dx as ∧ Reads s.heap u dy bs ∧ W.alike dx dy = true ∧ dx ≠ .none ∧ X.A.units + min dx.depth dy.depth < cLine := fun g => by
    obtain ⟨g1, g2, g3, g4⟩ := ord_of g
    obtain ⟨as, r1⟩ := hx.reads I dx x v g3.1 rx
    obtain ⟨bs, r2⟩ := hy.reads I dy y u g4.1 ry
    exact ⟨as, bs, r1, r2, g1, g2, (hu40 hu g4.2).2.1⟩
  cases o with
  | eq =>
    simp only [cmpD, eqD] at e
    split at e
    · rename_i hl
      obtain ⟨a, c, xs, ys, rfl, rfl, l1, l2, hz⟩ := len_ne I rx ry hx hy hl
      cases e
      exact SeqAt.eq_list_lengthsAt l1 l2 hz (by omega) ⟨.bl _, H, I, rfl, q⟩
    split at e
    · rename_i hd
      cases e
      exact eqDD_ok (by omega) I rx ry hx hy hd q
    obtain ⟨g, e⟩ := when_ok e
    rw [Bool.and_eq_true] at g
    subst e
    exact eq_ok hu I rx ry hx hy g.1 g.2 q
  | ne =>
    simp only [cmpD] at e
    obtain ⟨c, e1, e2⟩ := bind_ok e
    simp only [eqD] at e1
    split at e1
    · rename_i hl
      obtain ⟨a, c, xs, ys, rfl, rfl, l1, l2, hz⟩ := len_ne I rx ry hx hy hl
      cases e1
      cases e2
      exact SeqAt.RcNeAt.lists_lengths l1 l2 hz (by omega) _ _ _ _ ⟨.bl _, H, I, rfl, q⟩
    split at e1
    · rename_i hd
      cases e1
      cases e2
      exact neDD_ok (by omega) I rx ry hx hy hd q
    obtain ⟨g, e1⟩ := when_ok e1
    rw [Bool.and_eq_true] at g
    subst e1
    cases e2
    exact ne_ok hu I rx ry hx hy g.1 g.2 q
  | in_ => exact in_ok hu false I rx ry hx hy e q
  | nin =>
    simp only [cmpD] at e
    obtain ⟨c, e1, e2⟩ := bind_ok e
    cases e2
    exact in_ok hu true I rx ry hx hy e1 q
  | isN =>
    by_cases hbb : ∃ p q : Bool, dx = .bool p ∧ dy = .bool q
    · obtain ⟨p, q', rfl, rfl⟩ := hbb
      simp only [cmpD] at e
      cases e
      simp only [Rp] at hx hy
      subst hx hy
      exact op_isBl pins s σ H _ _ v u Q I rx ry ⟨p, q', rfl, rfl, q⟩
    have e2 : cmpD .isN dx dy = .when (isNoneD dy) (isNoneD dx) := by cases dx <;> cases dy <;> first | rfl | exact absurd ⟨_, _, rfl, rfl⟩ hbb
    rw [e2] at e
    obtain ⟨g, e3⟩ := when_ok e
    cases dy <;> simp only [isNoneD] at g <;> first | cases g | skip
    simp only [Rp] at hy
    subst hy
    have : isNoneD dx = decide (x = .non) := by
      cases dx <;> simp only [Rp] at hx <;> first | (subst hx; rfl) | (obtain ⟨a, r⟩ := hx; simp only [isNoneD]; symm; apply decide_eq_false; intro z; subst z; first | (obtain ⟨xs, r, _⟩ := r; cases r) | (obtain ⟨r, _⟩ := r; cases r))
    exact op_isN pins s σ H x _ v u Q I rx ry ⟨rfl, by rw [← this, e3]; exact q⟩
  | isnN =>
    simp only [cmpD] at e
    obtain ⟨g, e3⟩ := when_ok e
    cases dy <;> simp only [isNoneD] at g <;> first | cases g | skip
    simp only [Rp] at hy
    subst hy
    have : isNoneD dx = decide (x = .non) := by
      cases dx <;> simp only [Rp] at hx <;> first | (subst hx; rfl) | (obtain ⟨a, r⟩ := hx; simp only [isNoneD]; symm; apply decide_eq_false; intro z; subst z; first | (obtain ⟨xs, r, _⟩ := r; cases r) | (obtain ⟨r, _⟩ := r; cases r))
    exact op_notN pins s σ H x _ v u Q I rx ry ⟨rfl, by rw [← this, e3]; exact q⟩
  | lt =>
    have main : ordOk dx dy = true → W.dataLt dx dy = b → wpAny (model X.prog X.w) X.A (compareOp (cop .lt) v u) (EP X pins σ Q) X.xe s := fun g e => by
      obtain ⟨as, bs, r1, r2, g1, g2, g3⟩ := ord g
      exact W.lt_data r1 r2 g1 g2 g3 (Q := EP X pins σ Q) (E := X.xe) (prog := X.prog) (w := X.w) ⟨.bl _, H, I, rfl, by rw [e]; exact q⟩
    cases dx <;> cases dy <;> simp only [cmpD] at e <;> first
      | (obtain ⟨rfl, rfl⟩ := int2 hx hy
         cases e
         exact op_lt pins s σ H _ _ v u Q I rx ry ⟨_, _, rfl, rfl, q⟩)
      | (cases e
         exact main rfl str_lt)
      | (obtain ⟨g, e⟩ := when_ok e
         exact main g e)
  | gt =>
    have main : ordOk dx dy = true → W.dataLt dy dx = b → wpAny (model X.prog X.w) X.A (compareOp (cop .gt) v u) (EP X pins σ Q) X.xe s := fun g e => by
      obtain ⟨as, bs, r1, r2, g1, g2, g3⟩ := ord g
      exact W.gt_data r1 r2 g1 g2 g3 (Q := EP X pins σ Q) (E := X.xe) (prog := X.prog) (w := X.w) ⟨.bl _, H, I, rfl, by rw [e]; exact q⟩
    cases dx <;> cases dy <;> simp only [cmpD] at e <;> first
      | (obtain ⟨rfl, rfl⟩ := int2 hx hy
         cases e
         exact op_gt pins s σ H _ _ v u Q I rx ry ⟨_, _, rfl, rfl, q⟩)
      | (cases e
         exact main rfl str_lt)
      | (obtain ⟨g, e⟩ := when_ok e
         exact main g e)
  | le =>
    have main : ordOk dx dy = true → (!W.dataLt dy dx) = b → wpAny (model X.prog X.w) X.A (compareOp (cop .le) v u) (EP X pins σ Q) X.xe s := fun g e => by
      obtain ⟨as, bs, r1, r2, g1, g2, g3⟩ := ord g
      exact W.le_data r1 r2 g1 g2 g3 (Q := EP X pins σ Q) (E := X.xe) (prog := X.prog) (w := X.w) ⟨.bl _, H, I, rfl, by rw [e]; exact q⟩
    cases dx <;> cases dy <;> simp only [cmpD] at e <;> first
      | (obtain ⟨rfl, rfl⟩ := int2 hx hy
         cases e
         exact op_le pins s σ H _ _ v u Q I rx ry ⟨_, _, rfl, rfl, q⟩)
      | (cases e
         exact main rfl (by rw [str_lt]))
      | (obtain ⟨g, e⟩ := when_ok e
         exact main g e)
  | ge =>
    have main : ordOk dx dy = true → (!W.dataLt dx dy) = b → wpAny (model X.prog X.w) X.A (compareOp (cop .ge) v u) (EP X pins σ Q) X.xe s := fun g e => by
      obtain ⟨as, bs, r1, r2, g1, g2, g3⟩ := ord g
      exact W.ge_data r1 r2 g1 g2 g3 (Q := EP X pins σ Q) (E := X.xe) (prog := X.prog) (w := X.w) ⟨.bl _, H, I, rfl, by rw [e]; exact q⟩
    cases dx <;> cases dy <;> simp only [cmpD] at e <;> first
      | (obtain ⟨rfl, rfl⟩ := int2 hx hy
         cases e
         exact op_ge pins s σ H _ _ v u Q I rx ry ⟨_, _, rfl, rfl, q⟩)
      | (cases e
         exact main rfl (by rw [str_lt]))
      | (obtain ⟨g, e⟩ := when_ok e
         exact main g e)
end
end Pv
end
section
/-! P5: subscripts and truth of plain data. -/
namespace Pv
open PySem PySem.Spec PyProof.Rows L2
section
variable {X : Cx}
theorem ixD_eq (n : Nat) (i : Int) : ixD n i = ixN n i := rfl
theorem atI_of {ds : List D} {vs : List V} {K : Fg} {H : Hp} {no : No} {i : Int} {d : D} (r : RpL K H no ds vs) (e : (ixD ds.length i).bind (fun j => ds[j]?) = some d) : ∃ v, atI vs i = some v ∧ Rp K H no d v := by
  obtain ⟨j, e1, e2⟩ := Option.bind_eq_some_iff.mp e
  obtain ⟨v, e3, h⟩ := r.get e2
  refine ⟨v, ?_, h⟩
  unfold atI
  rw [← ixD_eq, ← r.len, e1]
  exact e3
/-- a[i] -/
def rIxD (K : Fg) : R2 := fun x y H Q => ∃ (no : No) (dx dy d : D), Rt K H no dx x ∧ Rt K H no dy y ∧ getD dx dy = .ok d ∧ ∀ v, Rp K H no d v → Q v H
theorem ix_ok (hu : X.A.units + 64 < cLine) : IxR X (rIxD X.K) := by
  intro value slice pins s σ H x y v u Q I rx ry h hs
  obtain ⟨no, dx, dy, d, hx, hy, e, q⟩ := h
  cases dx with
  | none => cases dy <;> cases e
  | bool _ => cases dy <;> cases e
  | int _ => cases dy <;> cases e
  | list ds =>
    cases dy <;> simp only [getD] at e <;> first | cases e | skip
    rename_i i
    simp only [Rt] at hy
    subst hy
    split at e <;> cases e
    rename_i e1
    obtain ⟨a, xs, rfl, h1, h2⟩ := rt_list hx
    obtain ⟨w, e2, h3⟩ := atI_of h2 e1
    exact ix_list value slice pins s σ H _ _ v u Q I rx ry ⟨a, xs, i, w, rfl, rfl, h1, e2, q w h3⟩ hs
  | tuple ds =>
    cases dy <;> simp only [getD] at e <;> first | cases e | skip
    rename_i i
    simp only [Rt] at hy
    subst hy
    split at e <;> cases e
    rename_i e1
    obtain ⟨a, xs, rfl, h1, h2⟩ := (show ∃ a xs, x = .ref a ∧ AtT X.K H no a xs ∧ RpL X.K H no ds xs by simpa only [Rt, Rp] using hx)
    obtain ⟨w, e2, h3⟩ := atI_of h2 e1
    exact ix_tup value slice pins s σ H _ _ v u Q I rx ry ⟨a, xs, i, w, rfl, rfl, h1.sq, e2, q w h3⟩ hs
  | str z =>
    cases dy <;> simp only [getD] at e <;> first | cases e | skip
    rename_i i
    simp only [Rt] at hx hy
    subst hx hy
    split at e <;> first | cases e | skip
    rename_i c e1
    obtain ⟨g, e⟩ := when_ok e
    subst e
    refine ix_str value slice pins s σ H _ _ v u Q I rx ry ⟨z, i, c, rfl, rfl, fits_le g, ?_, q _ (by simp [Rp])⟩ hs
    unfold atI
    have el : z.cps.toList.length = z.length := by simp [Str.length]
    rw [el]
    exact e1
  | dict kvs =>
    have e' : (match keysAs dy kvs, lookD dy kvs with | true, some v => Out.ok v | _, _ => .bad) = .ok d := by
      cases dy <;> exact e
    split at e' <;> cases e'
    rename_i g l
    obtain ⟨a, rfl, h0⟩ := (show ∃ a, x = .ref a ∧ ((∃ es, Rd H a (.dK es) ∧ RpK X.K H no kvs es) ∨ ∃ es, Rd H a (.dT es) ∧ RpT X.K H no kvs es) from hx)
    obtain ⟨o, g, h⟩ := dict_at I g hy.all h0
    cases rx
    rcases h with ⟨h1, h2⟩ | ⟨d', w, h1, h2, h3⟩
    · rw [l] at h1
      cases h1
    · rw [l] at h1
      cases h1
      subst h2
      have ht : s.TypeIs (.ref a) "dict" := by
        obtain ⟨_, ⟨vs, k, _, dd, _⟩ | ⟨xs, k, b, _, _, dd, _⟩⟩ := g
        · exact dd.typeIs
        · exact dd.typeIs
      exact tail_any ht PySem.F.slot_dict_getitem.lookup (at_item (by omega) g ry fun w' tk rw' => ⟨w, H, I.tok tk, rw', q w h3⟩) hs
theorem cutL_len {A : Type} (xs : List A) (lo hi : Option Int) : (cutL xs lo hi).length ≤ xs.length := by
  unfold cutL
  rw [List.length_take, List.length_drop]
  omega
theorem RpL.cut {K : Fg} {H : Hp} {no : No} {ds : List D} {vs : List V} (r : RpL K H no ds vs) (lo hi : Option Int) : RpL K H no (cutL ds lo hi) (cutV vs lo hi) := by
  unfold cutL cutV
  rw [r.len]
  exact (r.drop _).take _
/-- a[lo:hi] -/
def rSlD (K : Fg) : V → Option Int → Option Int → Hp → VK → Prop := fun x lo hi H Q => ∃ (no : No) (dx d : D) (n : Nat), Rt K H no dx x ∧ NoIn H no ∧ sliceD dx lo hi = .ok d ∧ n ≤ 1 ∧ (n = 0 ∨ isListD dx = true) ∧ Fin K H no n d Q
theorem sl_ok : SlR X (rSlD X.K) := by
  intro pins s σ H x v vl vu lo hi sl Q I rx hs pl pu h
  obtain ⟨no, dx, d, n, hx, hb, e, hn, hk, f⟩ := h
  cases dx <;> simp only [sliceD] at e <;> first | cases e | skip
  · rename_i z
    have n0 : n = 0 := hk.elim id fun z => by cases z
    subst n0
    simp only [Rt] at hx
    subst hx
    obtain ⟨g, e⟩ := when_ok e
    subst e
    refine sl_str pins s σ H _ v vl vu lo hi sl Q I rx hs pl pu ⟨z, rfl, fits_le g, ?_⟩
    have : cutS z lo hi = ⟨(cutL z.cps.toList lo hi).toArray⟩ := by
      unfold cutS cutL
      have el : z.cps.toList.length = z.length := by simp [Str.length]
      rw [el]
    rw [this]
    exact f.str
  · rename_i ds
    obtain ⟨a, xs, rfl, h1, h2⟩ := rt_list hx
    exact sl_list pins s σ H _ v vl vu lo hi sl Q I rx hs pl pu ⟨a, xs, rfl, h1, f.lst hb hn (h2.cut lo hi)⟩
  · rename_i ds
    have n0 : n = 0 := hk.elim id fun z => by cases z
    subst n0
    obtain ⟨a, xs, rfl, h1, h2⟩ := (show ∃ a xs, x = .ref a ∧ AtT X.K H no a xs ∧ RpL X.K H no ds xs by simpa only [Rt, Rp] using hx)
    refine sl_tupA pins s σ H _ v vl vu lo hi sl Q I rx hs pl pu ⟨a, xs, rfl, h1.sq, fun w => ?_, fun _ => f.tup hb (h2.cut lo hi)⟩
    have : cutL ds lo hi = ds := by
      unfold cutL
      rw [h2.len, w.1, w.2]
      rw [List.drop_zero, Nat.sub_zero, ← h2.len, List.take_length]
    rw [this] at f
    exact f.old hx
/-- truth -/
theorem truth_ok {pins : List (Addr × Obj)} {σ : Sg} {H : Hp} {s : Shared} {no : No} {x : V} {v : Value} {d : D} {b : Bool} {Q : Bool → Hp → Prop} (I : Inv X pins σ H s) (rx : RelV x v) (hx : Rp X.K H no d x) (e : truD d = .ok b) (q : Q b H) :
    wpAny (model X.prog X.w) X.A (truthy v) (TP X pins σ Q) X.xe s := by
  have key : ∃ k, TruV X.K x H k ∧ k = b := by
    cases d <;> simp only [truD] at e <;> first | cases e | skip
    · simp only [Rp] at hx
      subst hx
      exact ⟨_, by simp [TruV], rfl⟩
    · simp only [Rp] at hx
      subst hx
      exact ⟨_, by simp [TruV], rfl⟩
    · simp only [Rp] at hx
      subst hx
      exact ⟨_, by simp [TruV], rfl⟩
    · simp only [Rp] at hx
      subst hx
      obtain ⟨g, e⟩ := when_ok e
      exact ⟨_, ⟨fits_le g, rfl⟩, e⟩
    · simp only [Rp] at hx
      obtain ⟨a, xs, rfl, h1, h2⟩ := hx
      refine ⟨_, .inl ⟨xs, h1.sq, rfl⟩, ?_⟩
      have := h2.len
      rename_i ds
      cases xs <;> cases ds <;> simp at this ⊢
    · simp only [Rp] at hx
      obtain ⟨a, xs, rfl, h1, h2⟩ := hx
      refine ⟨_, .inr (.inl ⟨xs, h1.sq, rfl⟩), ?_⟩
      have := h2.len
      rename_i ds
      cases xs <;> cases ds <;> simp at this ⊢
  obtain ⟨k, h, rfl⟩ := key
  exact tru_ok pins s σ H x v Q I rx ⟨k, h, q⟩
end
end Pv
end
section
/-! P37: repr of data. -/
namespace Pv
open PySem PySem.Spec PyProof.Rows L2
def RprOf (P : Program) (w : World) (h : Heap) (d : D) (u : Value) : Prop := ∃ as bs, Reads h u d as ∧ ReadAtMost h d.depth bs ∧ ReprK P w bs h d.depth u d.shown
def RprAll (P : Program) (w : World) (h : Heap) (ds : List D) (us : List Value) : Prop := ∃ as bs, ReadsAll h us ds as ∧ ReadAtMost h (PyData.depthAll ds) bs ∧ ReprAllK P w bs h (PyData.depthAll ds) us (PyData.shownAll ds)
section
variable {P : Program} {w : World} {h : Heap}
theorem RprAll.nil : RprAll P w h [] [] := ⟨[], [], .nil, (fun _ z => nomatch z), by simp only [PyData.shownAll]; exact .nil⟩
theorem RprAll.cons {d : D} {ds : List D} {u : Value} {us : List Value} (r : RprOf P w h d u) (t : RprAll P w h ds us) : RprAll P w h (d :: ds) (u :: us) := by
  obtain ⟨as, bs, r1, r2, r3⟩ := r
  obtain ⟨cs, es, t1, t2, t3⟩ := t
  refine ⟨as ++ cs, bs ++ es, .cons r1 t1, fun b hb => ?_, ?_⟩
  · simp only [PyData.depthAll]
    rcases List.mem_append.mp hb with hb | hb
    · obtain ⟨d1, a1, e1, le⟩ := r2 b hb
      exact ⟨d1, a1, e1, Nat.le_trans le (Nat.le_max_left _ _)⟩
    · obtain ⟨d1, a1, e1, le⟩ := t2 b hb
      exact ⟨d1, a1, e1, Nat.le_trans le (Nat.le_max_right _ _)⟩
  · simp only [PyData.depthAll, PyData.shownAll]
    exact .cons ((r3.more fun b hb => List.mem_append_left _ hb).level_le (Nat.le_max_left _ _)) (t3.more_le (fun b hb => List.mem_append_right _ hb) (Nat.le_max_right _ _))
theorem RprOf.list {a : Addr} {o : Obj} {n : Nat} {ds : List D} {its : List Value} (ho : h.get? a = some o) (hc : o.cls = .type "list") (hd : o.data = .seq its.toArray n) (r : RprAll P w h ds its) : RprOf P w h (.list ds) (.ref a) := by
  obtain ⟨as, bs, r1, r2, r3⟩ := r
  have rr : Reads h (.ref a) (.list ds) (a :: as) := .list ho hc hd r1
  have na : a ∉ bs := not_mem_of_deeper rr (by simp only [PyData.depth]; omega) r2
  refine ⟨_, a :: bs, rr, ReadAtMost.cons rr (by simp only [PyData.depth]; omega) r2, ?_⟩
  simp only [PyData.depth, PyData.shown]
  match its, hd, r1, r3 with
  | [], hd, r1, r3 =>
    cases r1
    simp only [PyData.shownAll, listText_nil]
    exact ReprK.listEmpty ho hc hd
  | x :: l, hd, r1, r3 => exact ReprK.list ho hc hd na (by simpa using r3.length_eq) fun i y e => r3.item i y (by simpa using e)
theorem RprOf.tup {a : Addr} {o : Obj} {n : Nat} {ds : List D} {its : List Value} (ho : h.get? a = some o) (hc : o.cls = .type "tuple") (hd : o.data = .seq its.toArray n) (r : RprAll P w h ds its) : RprOf P w h (.tuple ds) (.ref a) := by
  obtain ⟨as, bs, r1, r2, r3⟩ := r
  have rr : Reads h (.ref a) (.tuple ds) as := .tuple ho hc hd r1
  have na : a ∉ bs := not_mem_of_deeper rr (by simp only [PyData.depth]; omega) r2
  refine ⟨_, a :: bs, rr, ReadAtMost.cons rr (by simp only [PyData.depth]; omega) r2, ?_⟩
  simp only [PyData.depth, PyData.shown]
  exact ReprK.tuple ho hc hd na r3
/-- a dict's parts -/
theorem rpr_dict {a : Addr} {o : Obj} {n : Nat} {es : Array DictEntry} {kvs : List (D × D)} (ho : h.get? a = some o) (hc : o.cls = .type "dict") (hd : o.data = .dict es n) (r : RprAll P w h (kvs.map (·.1)) (es.toList.map (·.key))) (t : RprAll P w h (kvs.map (·.2)) (es.toList.map (·.val))) :
    ∃ as bs, Reads h (.ref a) (.dict kvs) as ∧ ReadAtMost h (PyData.depthKv kvs) bs ∧ a ∉ bs ∧ ReprEntriesK P w bs h (PyData.depthKv kvs) es.toList (PyData.shownKv kvs) := by
  obtain ⟨as, bs, r1, r2, r3⟩ := r
  obtain ⟨cs, fs, t1, t2, t3⟩ := t
  have rr : Reads h (.ref a) (.dict kvs) (a :: as ++ cs) := .dict ho hc hd r1 t1
  have hb : ReadAtMost h (PyData.depthKv kvs) (bs ++ fs) := (r2.mono (PyData.depthAll_keys_le kvs)).append (t2.mono (PyData.depthAll_vals_le kvs))
  refine ⟨_, bs ++ fs, rr, hb, not_mem_of_deeper rr (by simp only [PyData.depth]; omega) hb, ?_⟩
  rw [PyData.shownKv_eq]
  have k1 := r3.more_le (as' := bs ++ fs) (fun b hb => List.mem_append_left _ hb) (PyData.depthAll_keys_le kvs)
  have k2 := t3.more_le (as' := bs ++ fs) (fun b hb => List.mem_append_right _ hb) (PyData.depthAll_vals_le kvs)
  exact ReprEntriesK.of_two es.toList _ _ k1 k2
theorem RprOf.dict {a : Addr} {o : Obj} {n : Nat} {es : Array DictEntry} {kvs : List (D × D)} (ho : h.get? a = some o) (hc : o.cls = .type "dict") (hd : o.data = .dict es n) (hs : (a == sysModules) = false) (r : RprAll P w h (kvs.map (·.1)) (es.toList.map (·.key))) (t : RprAll P w h (kvs.map (·.2)) (es.toList.map (·.val))) :
    RprOf P w h (.dict kvs) (.ref a) := by
  obtain ⟨as, bs, rr, hb, na, k⟩ := rpr_dict ho hc hd r t
  refine ⟨as, a :: bs, rr, ReadAtMost.cons rr (by simp only [PyData.depth]; omega) hb, ?_⟩
  simp only [PyData.depth, PyData.shown]
  exact ReprK.dict ho hc hd hs na k
end
theorem mix_key {P : Program} {w : World} {q : Key} {v : Value} (e : (mixKind P w).is q v = true) : RelV (kV q) v := by
  rcases keyIs_shape e with ⟨i, t, rfl, rfl⟩ | ⟨x, t, rfl, rfl⟩
  · exact ⟨t, rfl⟩
  · exact ⟨t, rfl⟩
section
variable {X : Cx} {pins : List (Addr × Obj)} {σ : Sg} {H : Hp} {s : Shared} {no : No}
theorem rpr_key {P : Program} {w : World} {h : Heap} {q : Key} {v : Value} (hs : (kD q).showable = true) (hz : (kD q).shown.length ≤ sizeLine) (r : RelV (kV q) v) : RprOf P w h (kD q) v := by
  cases q with
  | inl i =>
    obtain ⟨t, rfl⟩ := r
    exact ⟨[], [], .int i t, (fun _ z => nomatch z), by simp only [kD, PyData.shown]; exact .of_is (ReprIs.int t (by simpa [kD, PyData.showable] using hs)) _ _ _⟩
  | inr x =>
    obtain ⟨t, rfl⟩ := r
    exact ⟨[], [], .str x t, (fun _ z => nomatch z), by simp only [kD, PyData.shown]; exact .of_is (ReprIs.str x t (by simpa only [kD, PyData.shown] using hz)) _ _ _⟩
theorem kv_sizes {kvs : List (D × D)} (hz : (dictText (PyData.shownKv kvs)).length ≤ sizeLine) : (∀ t ∈ PyData.shownAll (kvs.map (·.1)), t.length ≤ sizeLine) ∧ ∀ t ∈ PyData.shownAll (kvs.map (·.2)), t.length ≤ sizeLine := by
  refine ⟨fun t ht => ?_, fun t ht => ?_⟩
  · obtain ⟨p, hp, hl⟩ := PyData.shownKv_key_le kvs t ht
    exact Nat.le_trans hl (Nat.le_trans (dictText_mem_le hp) hz)
  · obtain ⟨p, hp, hl⟩ := PyData.shownKv_val_le kvs t ht
    exact Nat.le_trans hl (Nat.le_trans (dictText_mem_le hp) hz)
mutual
theorem Rp.rpr (I : Inv X pins σ H s) : ∀ (d : D) (v : V) (u : Value), txK d = true → d.showable = true → d.shown.length ≤ sizeLine → Rp X.K H no d v → RelV v u → RprOf X.prog X.w s.heap d u
  | .none, _, _, _, _, _, h, r => by
    simp only [Rp] at h
    subst h
    cases r
    exact ⟨[], [], .none, (fun _ z => nomatch z), by simp only [PyData.shown]; exact .of_is ReprIs.none _ _ _⟩
  | .bool b, _, _, _, _, _, h, r => by
    simp only [Rp] at h
    subst h
    cases r
    exact ⟨[], [], .bool b, (fun _ z => nomatch z), by simp only [PyData.shown]; exact .of_is (ReprIs.bool b) _ _ _⟩
  | .int i, _, _, _, hs, hz, h, r => by
    simp only [Rp] at h
    subst h
    exact rpr_key (q := .inl i) hs hz r
  | .str x, _, _, _, hs, hz, h, r => by
    simp only [Rp] at h
    subst h
    exact rpr_key (q := .inr x) hs hz r
  | .list ds, _, _, g, hs, hz, h, r => by
    obtain ⟨a, xs, its, rfl, rfl, q1, r1, v1, ⟨o, ho, hc, n, hd⟩, _⟩ := list_at I r h.rt
    exact RprOf.list ho hc hd (RpL.rpr I ds xs its (by simpa [txK] using g) (by simpa [PyData.showable] using hs) (fun t ht => Nat.le_trans (listText_mem_le ht) (by simpa only [PyData.shown] using hz)) r1 v1)
  | .tuple ds, _, _, g, hs, hz, h, r => by
    obtain ⟨a, xs, its, rfl, rfl, q1, r1, v1, ⟨o, ho, hc, n, hd⟩, _⟩ := tup_at I r h
    exact RprOf.tup ho hc hd (RpL.rpr I ds xs its (by simpa [txK] using g) (by simpa [PyData.showable] using hs) (fun t ht => Nat.le_trans (tupleText_mem_le ht) (by simpa only [PyData.shown] using hz)) r1 v1)
  | .dict kvs, _, _, g, hs, hz, h, r => by
    simp only [Rp] at h
    obtain ⟨a, rfl, na, h⟩ := h
    cases r
    have g' : txP kvs = true := by simpa [txK] using g
    have hs' : PyData.showableKv kvs = true := by simpa [PyData.showable] using hs
    have hz' : (dictText (PyData.shownKv kvs)).length ≤ sizeLine := by simpa only [PyData.shown] using hz
    obtain ⟨z1, z2⟩ := kv_sizes hz'
    rcases h with ⟨es, h1, h2⟩ | ⟨es, h1, h2⟩
    · obtain ⟨z, lo, vs, rel, o, ens, ep, ho, hx, hd, _, pr, _⟩ := dk_rd I.hok h1
      obtain ⟨k1, k2⟩ := RpK.rpr I kvs es vs ens.toList g' hs' z1 z2 h2 rel pr
      exact RprOf.dict ho hx.1 hd lo k1 k2
    · match kvs, h2, g' with
      | [], h2, _ =>
        simp only [RpT] at h2
        subst h2
        obtain ⟨z, lo, vs, rel, o, es, ep, h3, h4, h5, h6, _⟩ := dt_rd I.hok h1
        cases rel
        have e : es.toList = [] := by simpa using h6
        refine RprOf.dict h3 h4.1 h5 lo ?_ ?_
        · rw [e]; exact .nil
        · rw [e]; exact .nil
      | (k, d) :: kvs, h2, g' =>
        simp only [RpT] at h2
        obtain ⟨q, v, t, _, e2, _, _⟩ := h2
        subst e2
        simp [txP, tD, keyS] at g'
theorem RpL.rpr (I : Inv X pins σ H s) : ∀ (ds : List D) (vs : List V) (us : List Value), txL ds = true → PyData.showableAll ds = true → (∀ t ∈ PyData.shownAll ds, t.length ≤ sizeLine) → RpL X.K H no ds vs → Vals vs us → RprAll X.prog X.w s.heap ds us
  | [], _, _, _, _, _, h, r => by
    simp only [RpL] at h
    subst h
    cases r
    exact .nil
  | d :: ds, _, _, g, hs, hz, h, r => by
    simp only [RpL] at h
    obtain ⟨v, vs, rfl, h1, h2⟩ := h
    cases r with
    | cons r1 r2 =>
      have g' : txK d = true ∧ txL ds = true := by simpa [txL] using g
      have hs' : d.showable = true ∧ PyData.showableAll ds = true := by simpa [PyData.showableAll] using hs
      exact .cons (Rp.rpr I d _ _ g'.1 hs'.1 (hz _ (by simp only [PyData.shownAll]; exact List.mem_cons_self)) h1 r1) (RpL.rpr I ds _ _ g'.2 hs'.2 (fun t ht => hz t (by simp only [PyData.shownAll]; exact List.mem_cons_of_mem _ ht)) h2 r2)
theorem RpK.rpr (I : Inv X pins σ H s) : ∀ (kvs : List (D × D)) (es : List (Key × V)) (vs : List (Key × Value)) (ens : List DictEntry), txP kvs = true → PyData.showableKv kvs = true → (∀ t ∈ PyData.shownAll (kvs.map (·.1)), t.length ≤ sizeLine) →
    (∀ t ∈ PyData.shownAll (kvs.map (·.2)), t.length ≤ sizeLine) → RpK X.K H no kvs es → KV es vs → Pairs (mixKind X.prog X.w) ens vs → RprAll X.prog X.w s.heap (kvs.map (·.1)) (ens.map (·.key)) ∧ RprAll X.prog X.w s.heap (kvs.map (·.2)) (ens.map (·.val))
  | [], _, _, _, _, _, _, _, h, r, p => by
    simp only [RpK] at h
    subst h
    cases r
    cases p
    exact ⟨.nil, .nil⟩
  | (k, d) :: kvs, _, _, _, g, hs, z1, z2, h, r, p => by
    simp only [RpK] at h
    obtain ⟨q, v, es, rfl, rfl, h1, h2⟩ := h
    cases r with
    | cons r1 r2 =>
      obtain ⟨r0, r1⟩ := r1
      cases p with
      | cons p1 p2 p3 =>
        have g' : (keyS (kD q) = true ∧ txK d = true) ∧ txP kvs = true := by simpa [txP] using g
        have hs' : ((kD q).showable = true ∧ d.showable = true) ∧ PyData.showableKv kvs = true := by simpa [PyData.showableKv] using hs
        simp only [List.map_cons, PyData.shownAll, List.mem_cons, forall_eq_or_imp] at z1 z2 ⊢
        obtain ⟨k1, k2⟩ := RpK.rpr I kvs es _ _ g'.2 hs'.2 z1.2 z2.2 h2 r2 p3
        refine ⟨.cons (rpr_key hs'.1.1 z1.1 ?_) k1, .cons (Rp.rpr I d _ _ g'.1.2 hs'.1.2 z2.1 h1 ?_) k2⟩
        · have := mix_key p1
          rw [← r0] at this
          exact this
        · rw [p2]
          exact r1
end
theorem repr_list {A : Around} {E : Value → Shared → Prop} {Q : Value → Shared → Prop} {a : Addr} {o : Obj} {n : Nat} {ds : List D} {its : List Value} {P : Program} {w : World} (ho : s.heap.get? a = some o) (hc : o.cls = .type "list") (hd : o.data = .seq its.toArray n) (r : RprAll P w s.heap ds its)
    (hg : A.guards = some []) (hu : A.units + 64 < cLine) (hp : (PyData.list ds).depth ≤ 40) (hz : (PyData.list ds).shown.length ≤ sizeLine)
    (hQ : ∀ h' u tk, (∀ b o, s.heap.get? b = some o → h'.get? b = some o) → Q (.str (PyData.list ds).shown u) { s with heap := h', toks := tk }) : wpAny (model P w) A (call (.builtin "repr") [.ref a]) Q E s := by
  obtain ⟨as, bs, r1, r2, r3⟩ := r
  have rr : Reads s.heap (.ref a) (.list ds) (a :: as) := .list ho hc hd r1
  have na : a ∉ bs := not_mem_of_deeper rr (by simp only [PyData.depth]; omega) r2
  simp only [PyData.depth, PyData.shown] at hp hz hQ
  refine call_repr_slot (T := "list") (idr := "list.__repr__") (by omega) ⟨o, ho, hc⟩ PySem.F.slot_list_repr.toG ?_
  match its, hd, r1, r3 with
  | [], hd, r1, r3 =>
    cases r1
    simp only [PyData.shownAll, listText_nil] at hQ
    exact call_list_repr_empty ⟨o, ho, hc⟩ ho hd ⟨_, _, rfl, hQ s.heap _ _ fun _ _ e => e⟩
  | x :: l, hd, r1, r3 =>
    exact call_list_reprK ho hc hd na (by simpa using r3.length_eq) (fun i y e => r3.item i y (by simpa using e)) hg (fun b _ => Clear.nil b) (by show A.units + 1 + _ < cLine; omega) (fun _ _ e => e) (fun h' u tk k => ⟨_, _, rfl, hQ h' u tk k⟩) hz
theorem repr_tup {A : Around} {E : Value → Shared → Prop} {Q : Value → Shared → Prop} {a : Addr} {o : Obj} {n : Nat} {ds : List D} {its : List Value} {P : Program} {w : World} (ho : s.heap.get? a = some o) (hc : o.cls = .type "tuple") (hd : o.data = .seq its.toArray n) (r : RprAll P w s.heap ds its)
    (hg : A.guards = some []) (hu : A.units + 64 < cLine) (hp : (PyData.tuple ds).depth ≤ 40) (hz : (PyData.tuple ds).shown.length ≤ sizeLine)
    (hQ : ∀ h' u tk, (∀ b o, s.heap.get? b = some o → h'.get? b = some o) → Q (.str (PyData.tuple ds).shown u) { s with heap := h', toks := tk }) : wpAny (model P w) A (call (.builtin "repr") [.ref a]) Q E s := by
  obtain ⟨as, bs, r1, r2, r3⟩ := r
  have rr : Reads s.heap (.ref a) (.tuple ds) as := .tuple ho hc hd r1
  have na : a ∉ bs := not_mem_of_deeper rr (by simp only [PyData.depth]; omega) r2
  simp only [PyData.depth, PyData.shown] at hp hz hQ
  refine call_repr_slot (T := "tuple") (idr := "tuple.__repr__") (by omega) ⟨o, ho, hc⟩ PySem.F.slot_tuple_repr ?_
  exact call_tuple_reprK ho hc hd na r3 hg (fun b _ => Clear.nil b) (by show A.units + 1 + _ < cLine; omega) (fun _ _ e => e) (fun h' u tk k => ⟨_, _, rfl, hQ h' u tk k⟩) hz
theorem repr_dict {A : Around} {E : Value → Shared → Prop} {Q : Value → Shared → Prop} {a : Addr} {o : Obj} {n : Nat} {es : Array DictEntry} {kvs : List (D × D)} {P : Program} {w : World} (ho : s.heap.get? a = some o) (hc : o.cls = .type "dict") (hd : o.data = .dict es n) (hs : (a == sysModules) = false) (r : RprAll P w s.heap (kvs.map (·.1)) (es.toList.map (·.key)))
    (t : RprAll P w s.heap (kvs.map (·.2)) (es.toList.map (·.val))) (hg : A.guards = some []) (hu : A.units + 64 < cLine) (hp : (PyData.dict kvs).depth ≤ 40) (hz : (PyData.dict kvs).shown.length ≤ sizeLine)
    (hQ : ∀ h' u tk, (∀ b o, s.heap.get? b = some o → h'.get? b = some o) → Q (.str (PyData.dict kvs).shown u) { s with heap := h', toks := tk }) : wpAny (model P w) A (call (.builtin "repr") [.ref a]) Q E s := by
  obtain ⟨as, bs, rr, hb, na, k⟩ := rpr_dict ho hc hd r t
  simp only [PyData.depth, PyData.shown] at hp hz hQ
  refine call_repr_slot (T := "dict") (idr := "dict.__repr__") (by omega) ⟨o, ho, hc⟩ PySem.F.slot_dict_repr ?_
  exact call_dict_reprK ho hc hd hs na k hg (fun b _ => Clear.nil b) (by show A.units + 1 + _ < cLine; omega) (fun _ _ e => e) (fun h' u tk k => ⟨_, _, rfl, hQ h' u tk k⟩) hz
theorem repr_top (I : Inv X pins σ H s) (hg : X.A.guards = some []) (hu : X.A.units + 64 < cLine) {d : D} {x : V} {v : Value} {Q : VK} (g : bigTxt d = true) (rx : RelV x v) (hx : Rt X.K H no d x) (q : Q (.str d.shown) H) :
    wpAny (model X.prog X.w) X.A (call (.builtin "repr") [v]) (EP X pins σ Q) X.xe s := by
  simp only [bigTxt, Bool.and_eq_true, decide_eq_true_eq] at g
  obtain ⟨⟨⟨g0, g1⟩, g2⟩, g3⟩ := g
  have fin : ∀ h' u tk, (∀ b o, s.heap.get? b = some o → h'.get? b = some o) → EP X pins σ Q (.str d.shown u) { s with heap := h', toks := tk } := fun h' u tk k => ⟨.str d.shown, H, I.kept k, ⟨u, rfl⟩, q⟩
  cases d with
  | none =>
    have e : x = .non := hx
    subst e
    cases rx
    exact PySem.P.repr_of_none (fin s.heap _ _ fun _ _ e => e)
  | bool b =>
    have e : x = .bl b := hx
    subst e
    cases rx
    exact PySem.P.repr_of_bool (fin s.heap _ _ fun _ _ e => e)
  | int i =>
    have e : x = .int i := hx
    subst e
    obtain ⟨t, rfl⟩ := rx
    exact PySem.P.repr_of_int (by simpa [PyData.showable] using g1) (fin s.heap _ _ fun _ _ e => e)
  | str y =>
    have e : x = .str y := hx
    subst e
    obtain ⟨t, rfl⟩ := rx
    exact PySem.P.repr_of_str (fin s.heap _ _ fun _ _ e => e) (by simpa only [PyData.shown] using g3)
  | list ds =>
    obtain ⟨a, xs, its, rfl, rfl, q1, r1, v1, ⟨o, ho, hc, n, hd⟩, _⟩ := list_at I rx hx
    exact repr_list ho hc hd (RpL.rpr I ds xs its (by simpa [txK] using g0) (by simpa [PyData.showable] using g1) (fun t ht => Nat.le_trans (listText_mem_le ht) (by simpa only [PyData.shown] using g3)) r1 v1) hg hu g2 g3 fin
  | tuple ds =>
    obtain ⟨a, xs, its, rfl, rfl, q1, r1, v1, ⟨o, ho, hc, n, hd⟩, _⟩ := tup_at I rx (show Rp X.K H no (.tuple ds) x from hx)
    exact repr_tup ho hc hd (RpL.rpr I ds xs its (by simpa [txK] using g0) (by simpa [PyData.showable] using g1) (fun t ht => Nat.le_trans (tupleText_mem_le ht) (by simpa only [PyData.shown] using g3)) r1 v1) hg hu g2 g3 fin
  | dict kvs =>
    obtain ⟨a, rfl, h⟩ := rt_dict hx
    cases rx
    have g' : txP kvs = true := by simpa [txK] using g0
    have hs' : PyData.showableKv kvs = true := by simpa [PyData.showable] using g1
    obtain ⟨z1, z2⟩ := kv_sizes (kvs := kvs) (by simpa only [PyData.shown] using g3)
    rcases h with ⟨es, h1, h2⟩ | ⟨es, h1, h2⟩
    · obtain ⟨z, lo, vs, rel, o, ens, ep, ho, hx, hd, _, pr, _⟩ := dk_rd I.hok h1
      obtain ⟨k1, k2⟩ := RpK.rpr I kvs es vs ens.toList g' hs' z1 z2 h2 rel pr
      exact repr_dict ho hx.1 hd lo k1 k2 hg hu g2 g3 fin
    · match kvs, h2, g', g2, g3, fin with
      | [], h2, _, g2, g3, fin =>
        simp only [RpT] at h2
        subst h2
        obtain ⟨z, lo, vs, rel, o, es, ep, h3, h4, h5, h6, _⟩ := dt_rd I.hok h1
        cases rel
        have e : es.toList = [] := by simpa using h6
        refine repr_dict (kvs := []) h3 h4.1 h5 lo ?_ ?_ hg hu g2 g3 fin
        · rw [e]; exact .nil
        · rw [e]; exact .nil
      | (k, d) :: kvs, h2, g', _, _, _ =>
        simp only [RpT] at h2
        obtain ⟨q, v, t, _, e2, _, _⟩ := h2
        subst e2
        simp [txP, tD, keyS] at g'
end
end Pv
end
section
/-! P6: built-in functions on plain data. -/
namespace Pv
open PySem PySem.Spec PyProof.Rows L2
theorem eqv_key (q k : Key) : (kD q).eqv (kD k) = decide (q = k) := by
  cases q <;> cases k <;> simp [kD, PyData.eqv] <;> exact Bool.beq_eq_decide_eq _ _
section
variable {K : Fg} {H : Hp} {no : No}
theorem rpk_any {k : Key} : ∀ {kvs : List (D × D)} {es : List (Key × V)}, RpK K H no kvs es → (kvs.any fun p => p.1.eqv (kD k)) = (es.any fun kv => decide (kv.1 = k))
  | [], es, h => by
    simp only [RpK] at h
    subst h
    rfl
  | (x, d) :: kvs, es, h => by
    simp only [RpK] at h
    obtain ⟨q, v, s, rfl, rfl, h1, h2⟩ := h
    simp only [List.any_cons]
    rw [eqv_key, rpk_any h2]
theorem rpk_map {k : Key} {d : D} {v : V} (hv : Rp K H no d v) : ∀ {kvs : List (D × D)} {es : List (Key × V)}, RpK K H no kvs es → RpK K H no (kvs.map fun p => if p.1.eqv (kD k) then (p.1, d) else p) (es.map fun kv => if kv.1 = k then (kv.1, v) else kv)
  | [], es, h => by
    simp only [RpK] at h
    subst h
    simp [RpK]
  | (x, d0) :: kvs, es, h => by
    simp only [RpK] at h
    obtain ⟨q, v0, s, rfl, rfl, h1, h2⟩ := h
    simp only [List.map_cons, eqv_key]
    have ih := rpk_map (k := k) hv h2
    by_cases c : q = k
    · simp only [c, decide_true, if_true, RpK]
      exact ⟨k, v, _, rfl, rfl, hv, ih⟩
    · simp only [c, decide_false, Bool.false_eq_true, if_false, RpK]
      exact ⟨q, v0, _, rfl, rfl, h1, ih⟩
theorem rpk_app {k : Key} {d : D} {v : V} (hv : Rp K H no d v) : ∀ {kvs : List (D × D)} {es : List (Key × V)}, RpK K H no kvs es → RpK K H no (kvs ++ [(kD k, d)]) (es ++ [(k, v)])
  | [], es, h => by
    simp only [RpK] at h
    subst h
    simp only [List.nil_append, RpK]
    exact ⟨k, v, [], rfl, rfl, hv, rfl⟩
  | (x, d0) :: kvs, es, h => by
    simp only [RpK] at h
    obtain ⟨q, v0, s, rfl, rfl, h1, h2⟩ := h
    simp only [List.cons_append, RpK]
    exact ⟨q, v0, _, rfl, rfl, h1, rpk_app hv h2⟩
theorem rpk_store {k : Key} {d : D} {v : V} {kvs : List (D × D)} {es : List (Key × V)} (h : RpK K H no kvs es) (hv : Rp K H no d v) : RpK K H no (storeD (kD k) d kvs) (putK es k v) := by
  unfold storeD putK
  rw [rpk_any (k := k) h]
  split
  · exact rpk_map hv h
  · exact rpk_app hv h
theorem rpk_len : ∀ {kvs : List (D × D)} {es : List (Key × V)}, RpK K H no kvs es → kvs.length = es.length
  | [], es, h => by
    simp only [RpK] at h
    subst h
    rfl
  | (x, d) :: kvs, es, h => by
    simp only [RpK] at h
    obtain ⟨q, v, s, rfl, rfl, h1, h2⟩ := h
    simp [rpk_len h2]
theorem storeD_len (k d : D) (kvs : List (D × D)) : (storeD k d kvs).length ≤ kvs.length + 1 := by
  unfold storeD
  split
  · simp
  · simp
end
/-- a built-in function, by values -/
def rBi (K : Fg) (b : Bi) (n : Nat) : List V → Hp → VK → Prop := fun vs H Q => ∃ (no : No) (ds : List D) (d : D), RtL K H no ds vs ∧ NoIn H no ∧ biD b ds = .ok d ∧ Fin K H no n d Q
theorem RpL.nil_iff {K : Fg} {H : Hp} {no : No} {vs : List V} (h : RpL K H no [] vs) : vs = [] := by simpa only [RpL] using h
theorem RpL.cons_iff {K : Fg} {H : Hp} {no : No} {d : D} {ds : List D} {vs : List V} (h : RpL K H no (d :: ds) vs) : ∃ v r, vs = v :: r ∧ Rp K H no d v ∧ RpL K H no ds r := by simpa only [RpL] using h
theorem RpL.one' {K : Fg} {H : Hp} {no : No} {d : D} {vs : List V} (h : RpL K H no [d] vs) : ∃ v, vs = [v] ∧ Rp K H no d v := by
  obtain ⟨v, r, rfl, h1, h2⟩ := h.cons_iff
  exact ⟨v, by rw [h2.nil_iff], h1⟩
theorem RpL.two' {K : Fg} {H : Hp} {no : No} {d e : D} {vs : List V} (h : RpL K H no [d, e] vs) : ∃ v u, vs = [v, u] ∧ Rp K H no d v ∧ Rp K H no e u := by
  obtain ⟨v, r, rfl, h1, h2⟩ := h.cons_iff
  obtain ⟨u, rfl, h3⟩ := h2.one'
  exact ⟨v, u, rfl, h1, h3⟩
theorem bools_of {K : Fg} {H : Hp} {no : No} : ∀ {ds : List D} {vs : List V}, ds.all isBool = true → RpL K H no ds vs → vs = (ds.map bOf).map V.bl
  | [], vs, _, h => by rw [h.nil_iff]; rfl
  | d :: ds, vs, g, h => by
    obtain ⟨v, r, rfl, h1, h2⟩ := h.cons_iff
    simp only [List.all_cons, Bool.and_eq_true] at g
    rw [bools_of g.2 h2]
    cases d <;> simp only [isBool] at g <;> first | (cases g.1; done) | skip
    simp only [Rp] at h1
    rw [h1]
    rfl
theorem ints_of {K : Fg} {H : Hp} {no : No} : ∀ {ds : List D} {vs : List V}, ds.all isInt = true → RpL K H no ds vs → vs = (ds.map iOf).map V.int
  | [], vs, _, h => by rw [h.nil_iff]; rfl
  | d :: ds, vs, g, h => by
    obtain ⟨v, r, rfl, h1, h2⟩ := h.cons_iff
    simp only [List.all_cons, Bool.and_eq_true] at g
    rw [ints_of g.2 h2]
    cases d <;> simp only [isInt] at g <;> first | (cases g.1; done) | skip
    simp only [Rp] at h1
    rw [h1]
    rfl
theorem rp_list {K : Fg} {H : Hp} {no : No} {ds : List D} {x : V} (h : Rp K H no (.list ds) x) : ∃ a xs, x = .ref a ∧ AtL K H no a xs ∧ RpL K H no ds xs := by simpa only [Rp] using h
theorem rp_tup {K : Fg} {H : Hp} {no : No} {ds : List D} {x : V} (h : Rp K H no (.tuple ds) x) : ∃ a xs, x = .ref a ∧ AtT K H no a xs ∧ RpL K H no ds xs := by simpa only [Rp] using h
theorem pair_of {xs : List D} (h : pairOk xs = true) : W.AlikeAll xs ∧ PyData.plainAll xs = true ∧ PyData.depthAll xs ≤ 40 := by
  unfold pairOk at h
  rw [List.all_eq_true] at h
  have g : ∀ x ∈ xs, notNone x = true ∧ plainDepth x = true ∧ ∀ y ∈ xs, W.alike x y = true := fun x hx => by
    have := h x hx
    simp only [Bool.and_eq_true, List.all_eq_true] at this
    exact ⟨this.1.1, this.1.2, this.2⟩
  have p := plainAll_of (xs := xs) (List.all_eq_true.mpr fun x hx => (g x hx).2.1)
  exact ⟨⟨fun x hx y hy => (g x hx).2.2 y hy, fun x hx e => by have := (g x hx).1; rw [e] at this; cases this⟩, p⟩
theorem mem_plain : ∀ {xs : List D}, PyData.plainAll xs = true → ∀ {i : Nat} {x : D}, xs[i]? = some x → x.plain = true
  | [], _, _, _, e => by simp at e
  | y :: xs, h, 0, x, e => by
    simp only [PyData.plainAll, Bool.and_eq_true] at h
    simp at e
    rw [← e]
    exact h.1
  | y :: xs, h, i + 1, x, e => by
    simp only [PyData.plainAll, Bool.and_eq_true] at h
    exact mem_plain h.2 (i := i) (by simpa using e)
section
variable {X : Cx} {pins : List (Addr × Obj)} {σ : Sg} {H : Hp} {s : Shared} {no : No}
/-- the value in place i that reads as d is Rp d -/
theorem pick_rp (I : Inv X pins σ H s) {ds : List D} {xs : List V} {its : List Value} {d : D} {i : Nat} {v : Value} {h' : Heap} {bs : List Addr} (r : RpL X.K H no ds xs) (rv : Vals xs its) (p : PyData.plainAll ds = true) (hv : its[i]? = some v) (rd : Reads h' v d bs)
    (k : ∀ b o, s.heap.get? b = some o → h'.get? b = some o) : ∃ x, RelV x v ∧ Rp X.K H no d x := by
  have hi : i < its.length := (List.getElem?_eq_some_iff.mp hv).1
  have hi2 : i < xs.length := by rw [rv.length]; exact hi
  have hi3 : i < ds.length := by rw [r.len]; exact hi2
  obtain ⟨x, e2, h2⟩ := r.get (List.getElem?_eq_getElem hi3)
  obtain ⟨u, e3, r3⟩ := rv.get e2
  rw [hv] at e3
  cases e3
  obtain ⟨as, q⟩ := h2.reads I _ x v (mem_plain p (List.getElem?_eq_getElem hi3)) r3
  have e4 := SeqAt.plain_unique _ _ v _ _ (mem_plain p (List.getElem?_eq_getElem hi3)) (PyProof.Rows.Reads.keeps k q) rd
  rw [← e4]
  exact ⟨x, r3, h2⟩
theorem min_list (hc : X.calm = true) (hu : X.A.units + 64 < cLine) (I : Inv X pins σ H s) {x : V} {v : Value} {d : D} {ds : List D} {Q : VK} (rx : RelV x v) (hx : Rt X.K H no (.list (d :: ds)) x) (g : pairOk (d :: ds) = true) (f : Fin X.K H no 0 (W.minD d ds) Q) :
    wpAny (model X.prog X.w) X.A (call (.builtin "min") [v]) (EP X pins σ Q) X.xe s := by
  obtain ⟨a, xs, its, rfl, rfl, q1, r1, v1, l1, z1, e1, e2⟩ := list_at I rx hx
  obtain ⟨g1, g2, g3⟩ := pair_of g
  obtain ⟨as, hr⟩ := r1.reads I _ xs its g2 v1
  refine W.min_list_data (I.ok.hd hc) l1 hr g1 (by omega) fun i v h' tk bs hv hrd hk => ?_
  obtain ⟨y, ry, hy⟩ := pick_rp I r1 v1 g2 (by simpa using hv) hrd hk
  exact ⟨y, H, I.kept (t' := tk) hk, ry, f.old hy⟩
theorem max_list (hc : X.calm = true) (hu : X.A.units + 64 < cLine) (I : Inv X pins σ H s) {x : V} {v : Value} {d : D} {ds : List D} {Q : VK} (rx : RelV x v) (hx : Rt X.K H no (.list (d :: ds)) x) (g : pairOk (d :: ds) = true) (f : Fin X.K H no 0 (W.maxD d ds) Q) :
    wpAny (model X.prog X.w) X.A (call (.builtin "max") [v]) (EP X pins σ Q) X.xe s := by
  obtain ⟨a, xs, its, rfl, rfl, q1, r1, v1, l1, z1, e1, e2⟩ := list_at I rx hx
  obtain ⟨g1, g2, g3⟩ := pair_of g
  obtain ⟨as, hr⟩ := r1.reads I _ xs its g2 v1
  refine W.max_list_data (I.ok.hd hc) l1 hr g1 (by omega) fun i v h' tk bs hv hrd hk => ?_
  obtain ⟨y, ry, hy⟩ := pick_rp I r1 v1 g2 (by simpa using hv) hrd hk
  exact ⟨y, H, I.kept (t' := tk) hk, ry, f.old hy⟩
theorem min_tup (hc : X.calm = true) (hu : X.A.units + 64 < cLine) (I : Inv X pins σ H s) {x : V} {v : Value} {d : D} {ds : List D} {Q : VK} (rx : RelV x v) (hx : Rp X.K H no (.tuple (d :: ds)) x) (g : pairOk (d :: ds) = true) (f : Fin X.K H no 0 (W.minD d ds) Q) :
    wpAny (model X.prog X.w) X.A (call (.builtin "min") [v]) (EP X pins σ Q) X.xe s := by
  obtain ⟨a, xs, its, rfl, rfl, q1, r1, v1, l1, z1, e1, e2⟩ := tup_at I rx hx
  obtain ⟨g1, g2, g3⟩ := pair_of g
  obtain ⟨as, hr⟩ := r1.reads I _ xs its g2 v1
  refine W.min_tuple_data (I.ok.hd hc) l1 hr g1 (by omega) fun i v h' tk bs hv hrd hk => ?_
  obtain ⟨y, ry, hy⟩ := pick_rp I r1 v1 g2 (by simpa using hv) hrd hk
  exact ⟨y, H, I.kept (t' := tk) hk, ry, f.old hy⟩
theorem max_tup (hc : X.calm = true) (hu : X.A.units + 64 < cLine) (I : Inv X pins σ H s) {x : V} {v : Value} {d : D} {ds : List D} {Q : VK} (rx : RelV x v) (hx : Rp X.K H no (.tuple (d :: ds)) x) (g : pairOk (d :: ds) = true) (f : Fin X.K H no 0 (W.maxD d ds) Q) :
    wpAny (model X.prog X.w) X.A (call (.builtin "max") [v]) (EP X pins σ Q) X.xe s := by
  obtain ⟨a, xs, its, rfl, rfl, q1, r1, v1, l1, z1, e1, e2⟩ := tup_at I rx hx
  obtain ⟨g1, g2, g3⟩ := pair_of g
  obtain ⟨as, hr⟩ := r1.reads I _ xs its g2 v1
  refine W.max_tuple_data (I.ok.hd hc) l1 hr g1 (by omega) fun i v h' tk bs hv hrd hk => ?_
  obtain ⟨y, ry, hy⟩ := pick_rp I r1 v1 g2 (by simpa using hv) hrd hk
  exact ⟨y, H, I.kept (t' := tk) hk, ry, f.old hy⟩

/-! ### sorted -/
theorem sort_of {xs : List D} (h : sortOk xs = true) : W.AllAlike xs ∧ W.Sortable xs ∧ PyData.plainAll xs = true ∧ ∀ x ∈ xs, x.depth ≤ 40 := by
  unfold sortOk at h
  simp only [Bool.and_eq_true, Bool.or_eq_true, List.all_eq_true] at h
  obtain ⟨⟨g1, g2⟩, g3, g4⟩ := pair_of h.1
  refine ⟨fun x hx y hy => g1 x hx y hy, ?_, g3, fun x hx => ?_⟩
  · rcases h.2 with q | q
    · refine .inl fun d hd => ?_
      have := q d hd
      cases d with
      | tuple l =>
        cases l with
        | nil => cases this
        | cons x r => exact ⟨x, r, rfl⟩
      | _ => cases this
    · refine .inr fun d hd => ⟨g2 d hd, fun xs e => ?_⟩
      have := q d hd
      rw [e] at this
      cases this
  · have := h.1
    unfold pairOk at this
    rw [List.all_eq_true] at this
    have := this x hx
    simp only [Bool.and_eq_true, plainDepth, decide_eq_true_eq] at this
    exact this.1.2.2
abbrev VD := V × D
theorem each_of {K : Fg} : ∀ {ds : List D} {xs : List V} {its : List Value}, RpL K H no ds xs → Vals xs its → W.EachIs (fun (v : Value) (b : VD) => RelV b.1 v ∧ Rp K H no b.2 b.1) its (xs.zip ds)
  | [], xs, its, r, v => by
    rw [r.nil_iff] at v ⊢
    cases v
    exact .nil
  | d :: ds, xs, its, r, v => by
    obtain ⟨x, xs', rfl, h1, h2⟩ := r.cons_iff
    cases v with
    | cons q1 q2 => exact .cons ⟨q1, h1⟩ (each_of h2 q2)
theorem of_each {K : Fg} : ∀ {bs : List VD} {its : List Value}, W.EachIs (fun (v : Value) (b : VD) => RelV b.1 v ∧ Rp K H no b.2 b.1) its bs → Vals (bs.map (·.1)) its ∧ RpL K H no (bs.map (·.2)) (bs.map (·.1))
  | [], its, h => by
    cases h
    exact ⟨.nil, by simp [RpL]⟩
  | b :: bs, its, h => by
    cases h with
    | cons q1 q2 =>
      obtain ⟨h1, h2⟩ := of_each q2
      exact ⟨.cons q1.1 h1, by simp only [List.map_cons, RpL]; exact ⟨_, _, rfl, q1.2, h2⟩⟩
theorem zip_fst : ∀ {xs : List V} {ds : List D}, xs.length = ds.length → (xs.zip ds).map (·.1) = xs
  | [], _, _ => rfl
  | x :: xs, [], h => by simp at h
  | x :: xs, d :: ds, h => by simp only [List.zip_cons_cons, List.map_cons]; rw [zip_fst (by simpa using h)]
theorem zip_snd : ∀ {xs : List V} {ds : List D}, xs.length = ds.length → (xs.zip ds).map (·.2) = ds
  | [], [], _ => rfl
  | [], d :: ds, h => by simp at h
  | x :: xs, [], h => by simp at h
  | x :: xs, d :: ds, h => by simp only [List.zip_cons_cons, List.map_cons]; rw [zip_snd (by simpa using h)]
theorem sorted_list (hu : X.A.units + 64 < cLine) (I : Inv X pins σ H s) {x : V} {v : Value} {ds : List D} {n : Nat} {Q : VK} (rx : RelV x v) (hx : Rt X.K H no (.list ds) x) (g : sortOk ds = true) (hb : NoIn H no) (hn : n ≤ 1) (f : Fin X.K H no n (.list (sortL ds)) Q) :
    wpAny (model X.prog X.w) X.A (call (.builtin "sorted") [v]) (EP X pins σ Q) X.xe s := by
  obtain ⟨a, xs, its, rfl, rfl, q1, r1, v1, l1, z1, e1, e2⟩ := list_at I rx hx
  obtain ⟨g1, g2, g3, g4⟩ := sort_of g
  have hl : xs.length = ds.length := e1.symm
  have hs := zip_snd hl
  have ea := each_of r1 v1
  have hm : ∀ b ∈ xs.zip ds, b.2 ∈ ds := fun b hb => (List.of_mem_zip hb).2
  refine W.sorted_data (bs := xs.zip ds) (enc := fun b => b.2) l1 ea ?_ (by rw [hs]; exact g1) (by rw [hs]; exact g2) (by rw [List.length_zip]; omega) (fun b hb => by have := g4 b.2 (hm b hb); omega) fun out ho eo => ?_
  · have rd : ∀ {bs : List VD} {us : List Value}, (∀ b ∈ bs, b.2.plain = true) → W.EachIs (fun (v : Value) (b : VD) => RelV b.1 v ∧ Rp X.K H no b.2 b.1) us bs → W.EachIs (fun (v : Value) (b : VD) => ∃ as, Reads s.heap v b.2 as) us bs := by
      intro bs us hp e
      induction e with
      | nil => exact .nil
      | cons q _ ih => exact .cons (q.2.reads I _ _ _ (hp _ List.mem_cons_self) q.1) (ih fun b hb => hp b (List.mem_cons_of_mem _ hb))
    refine rd (fun b hb => ?_) ea
    obtain ⟨i, hi⟩ := List.getElem?_of_mem (hm b hb)
    exact mem_plain g3 hi
  · obtain ⟨v2, r2⟩ := of_each eo
    have es : ((xs.zip ds).mergeSort (W.dataLe false fun b => b.2)).map (·.2) = sortL ds := by
      have := W.sort_maps (r := W.dataLe false fun b : VD => b.2) (s := W.dataLe false id) (fun b : VD => b.2) (l := xs.zip ds) fun a _ b _ => rfl
      rw [this, hs]
      rfl
    rw [es] at r2
    obtain ⟨m, F⟩ := I.fr
    obtain ⟨c, a1, a2, a3, a4⟩ := W.sorted_news F (news := []) (fun p hp => absurd hp (by simp)) its out
    have ho := (a2 _ List.mem_cons_self).1
    have hz : ((xs.zip ds).mergeSort (W.dataLe false fun b => b.2)).map (·.1) = ((xs.zip ds).mergeSort (W.dataLe false fun b => b.2)).map (·.1) := rfl
    generalize hw : ((xs.zip ds).mergeSort (W.dataLe false fun b => b.2)).map (·.1) = ws at v2 r2
    have hlw : ws.length ≤ sizeLine := by
      rw [← hw, List.length_map, List.length_mergeSort, List.length_zip]
      omega
    have hnew : H (s.heap.objs.size + 1) = none := I.hok.fresh (Nat.le_succ _)
    refine ⟨.ref _, upd H (s.heap.objs.size + 1) (.lst ws), I.laid (t' := s.toks) (o := .lst ws) a4 (Nat.le_succ _) ⟨hlw, out, c, v2, ho⟩, rfl, f.lst hb hn r2 _ hnew⟩
theorem each_keys : ∀ {ks : List Key} {its : List Value}, Vals (ks.map kV) its → W.EachIs (fun (v : Value) (k : Key) => RelV (kV k) v) its ks
  | [], its, v => by
    cases v
    exact .nil
  | k :: ks, its, v => by
    cases v with
    | cons q1 q2 => exact .cons q1 (each_keys q2)
theorem keys_each : ∀ {ks : List Key} {its : List Value}, W.EachIs (fun (v : Value) (k : Key) => RelV (kV k) v) its ks → Vals (ks.map kV) its
  | [], its, h => by
    cases h
    exact .nil
  | k :: ks, its, h => by
    cases h with
    | cons q1 q2 => exact .cons q1 (keys_each q2)
theorem key_reads {h : Heap} {k : Key} {v : Value} (r : RelV (kV k) v) : Reads h v (kD k) [] := by
  cases k with
  | inl i =>
    obtain ⟨t, rfl⟩ := r
    exact Reads.int _ _
  | inr x =>
    obtain ⟨t, rfl⟩ := r
    exact Reads.str _ _
theorem keys_rp : ∀ (ks : List Key), RpL X.K H no (ks.map kD) (ks.map kV)
  | [] => by simp [RpL]
  | k :: ks => by
    simp only [List.map_cons, RpL]
    refine ⟨_, _, rfl, ?_, keys_rp ks⟩
    cases k <;> simp [kD, kV, Rp]
theorem rpk_keys : ∀ {kvs : List (D × D)} {es : List (Key × V)}, RpK X.K H no kvs es → kvs.map (·.1) = (es.map (·.1)).map kD
  | [], es, h => by
    simp only [RpK] at h
    subst h
    rfl
  | (k, d) :: kvs, es, h => by
    simp only [RpK] at h
    obtain ⟨q, v, s, rfl, rfl, _, h2⟩ := h
    simp only [List.map_cons]
    rw [rpk_keys h2]
/-- the dict at a, its keys in a row -/
def Ks (P : Program) (w : World) (h : Heap) (a : Addr) (ks : List D) : Prop := ∃ vs : List (Key × Value), (a == sysModules) = false ∧ h.DictOf (mixKind P w) a vs ∧ vs.length ≤ sizeLine ∧ ks = (vs.map (·.1)).map kD
theorem ks_of (I : Inv X pins σ H s) {a : Addr} {kvs : List (D × D)} (h : (∃ es, Rd H a (.dK es) ∧ RpK X.K H no kvs es) ∨ ∃ es, Rd H a (.dT es) ∧ RpT X.K H no kvs es) (g : (kvs.all fun p => keyS p.1) = true) : Ks X.prog X.w s.heap a (kvs.map (·.1)) := by
  rcases h with ⟨es, hd, hx⟩ | ⟨es, hd, hx⟩
  · obtain ⟨z, lo, vs, rel, dd⟩ := dk_rd I.hok hd
    refine ⟨vs, lo, dd, by rw [← rel.length]; exact z, ?_⟩
    rw [rpk_keys hx]
    have : es.map (·.1) = vs.map (·.1) := rel.keys
    rw [this]
  · cases kvs with
    | nil =>
      simp only [RpT] at hx
      subst hx
      obtain ⟨z, lo, vs, rel, o, es, ep, h1, h2, h3, h4, h5, h6⟩ := dt_rd I.hok hd
      cases rel
      have e : es.toList = [] := by simpa using h4
      refine ⟨[], lo, ⟨o, es, ep, h1, h2, h3, ?_, ?_, by simp⟩, Nat.zero_le _, rfl⟩
      · have e2 : es = #[] := by simpa using e
        subst e2
        intro i
        simp
      · rw [e]
        exact .nil
    | cons p r =>
      obtain ⟨k, d⟩ := p
      simp only [RpT] at hx
      obtain ⟨q, v, t, _, e2, _, _⟩ := hx
      subst e2
      simp [tD, keyS] at g
theorem list_dict (hc : X.calm = true) (I : Inv X pins σ H s) {a : Addr} {ks : List D} {n : Nat} {Q : VK} (hd : Ks X.prog X.w s.heap a ks) (hb : NoIn H no) (hn : n ≤ 1)
    (f : Fin X.K H no n (.list ks) Q) : wpAny (model X.prog X.w) X.A (call (.type "list") [.ref a]) (EP X pins σ Q) X.xe s := by
  obtain ⟨vs, lo, dd, h16, ek⟩ := hd
  obtain ⟨ep, hat⟩ := dd.dictAt
  refine PySem.W.kdl_call (PySem.W.kdl_dict (knd := mixKind X.prog X.w) (kvs := vs) (ep := ep) lo) (I.ok.hd hc) hat h16 fun h' tk acc c' hk hD hacc => ?_
  have hv : Vals (vs.map fun p => kV p.1) acc.toList := keys_at (by rw [Array.length_toList]; exact hacc.1) fun j v e => hacc.2 j v (by rw [← Array.getElem?_toList]; exact e)
  have r2 := keys_rp (X := X) (H := H) (no := no) (vs.map (·.1))
  rw [← ek, List.map_map] at r2
  exact ⟨.ref s.heap.objs.size, upd H s.heap.objs.size (.lst _), I.laid (t' := tk) hk (Nat.le_refl _)
    (show ObjOk X.prog X.w _ _ _ (.lst _) from ⟨by rw [List.length_map]; exact h16, acc.toList, c', hv, by rw [Array.toArray_toList]; exact hD⟩), rfl, f.lst hb hn r2 _ (I.hok.fresh (Nat.le_refl _))⟩
theorem sorted_dict (hc : X.calm = true) (hu : X.A.units + 64 < cLine) (I : Inv X pins σ H s) {a : Addr} {ks : List D} {n : Nat} {Q : VK} (hd : Ks X.prog X.w s.heap a ks) (g : sortOk ks = true) (hb : NoIn H no) (hn : n ≤ 1)
    (f : Fin X.K H no n (.list (sortL ks)) Q) : wpAny (model X.prog X.w) X.A (call (.builtin "sorted") [.ref a]) (EP X pins σ Q) X.xe s := by
  obtain ⟨vs, lo, dd, h16, ek⟩ := hd
  obtain ⟨ep, hat⟩ := dd.dictAt
  obtain ⟨g1, g2, g3, g4⟩ := sort_of g
  rw [ek] at g1 g2 g4
  refine Calls.call_function_entry PyProof.Rows.kind_sorted PyProof.Rows.plain_sorted PyProof.Rows.entry_sorted (PyProof.Rows.args_sorted1 _) ?_
  unfold Builtin.«sorted»
  refine wpAny_bind (m := checkCount "sorted" 1 1 _) (wpAny_pure ?_)
  refine wpAny_bind (PySem.W.kdu_collect (A := X.A.in1) (PySem.W.kdl_dict (knd := mixKind X.prog X.w) (kvs := vs) (ep := ep) lo) (I.ok.hd hc) hat h16 fun h' tk acc hk hacc => ?_)
  have hal : acc.toList.length = vs.length := by rw [Array.length_toList, hacc.1]
  have hv : Vals (vs.map fun p => kV p.1) acc.toList := keys_at hal fun j v e => hacc.2 j v (by rw [← Array.getElem?_toList]; exact e)
  have hv' : Vals ((vs.map (·.1)).map kV) acc.toList := by
    rw [List.map_map]
    exact hv
  have ea := each_keys hv'
  have I1 : Inv X pins σ H { s with heap := h', toks := tk } := I.kept hk
  refine wpAny_bind (wpAny_newList ?_ (by rw [hal]; exact h16))
  have hoL : (h'.push (seqObj "list" acc.toList.toArray 0)).get? h'.objs.size = some (seqObj "list" acc.toList.toArray 0) := Heap.get?_push_size _ rfl
  show wpAny _ _ _ _ _ { s with heap := h'.push (seqObj "list" acc.toList.toArray 0), toks := tk }
  refine wpAny_bind (wpAny_holding (W.list_sort_data (A := X.A.in1) (s := { s with heap := h'.push (seqObj "list" acc.toList.toArray 0), toks := tk }) (vs := acc.toList) (bs := vs.map (·.1)) (enc := kD) hoL ea (ea.mono fun v k q => ⟨[], key_reads q, by simp⟩) g1 g2
    (by rw [List.length_map]; exact h16) (fun b hb => ?_) fun out ho eo => ?_))
  · have := g4 (kD b) (List.mem_map.mpr ⟨b, hb, rfl⟩)
    show X.A.units + 1 + 1 + (kD b).depth < cLine
    omega
  · have v2 := keys_each eo
    have es2 : ((vs.map (·.1)).mergeSort (W.dataLe false kD)).map kD = sortL ks := by
      have := W.sort_maps (r := W.dataLe false kD) (s := W.dataLe false id) kD (l := vs.map (·.1)) fun a _ b _ => rfl
      rw [this, ek]
      rfl
    obtain ⟨e', he'⟩ := PyProof.Rows.sortedHeap_at (vs := acc.toList) (out := out.toArray) hoL
    have r2 := keys_rp (X := X) (H := H) (no := no) ((vs.map (·.1)).mergeSort (W.dataLe false kD))
    rw [es2] at r2
    have hlw : (((vs.map (·.1)).mergeSort (W.dataLe false kD)).map kV).length ≤ sizeLine := by
      rw [List.length_map, List.length_mergeSort, List.length_map]
      exact h16
    refine wpAny_pure ⟨_, rfl, .ref h'.objs.size, upd H h'.objs.size (.lst _), I1.laid (t' := tk) (fun b u e => ?_) (Nat.le_refl _)
      (show ObjOk X.prog X.w _ _ _ (.lst _) from ⟨hlw, out, e', v2, he'⟩), rfl, f.lst hb hn r2 _ (I1.hok.fresh (Nat.le_refl _))⟩
    have hb : b < h'.objs.size := Heap.lt_size e
    rw [PyProof.Rows.sortedHeap_old (Nat.ne_of_lt hb) (by rw [size_push']; exact Nat.lt_succ_of_lt hb)]
    exact Heap.get?_push_of_some _ e
theorem isMem : ∀ {b : Bi}, True := trivial
def biVal : Bi → Value
  | .len => .builtin "len" | .all => .builtin "all" | .any => .builtin "any" | .sum => .builtin "sum" | .min => .builtin "min" | .max => .builtin "max" | .sorted => .builtin "sorted"
  | .abs => .builtin "abs" | .int => .type "int" | .str => .type "str" | .repr => .builtin "repr" | .list => .type "list" | .tuple => .type "tuple" | .dict => .type "dict" | .bool => .type "bool" | _ => .none
def lvBi : Bi → Nat
  | .sorted => 1 | .list => 1 | .dict => 1 | _ => 0
/-- the built-in functions that are done here -/
def biHere : Bi → Bool
  | .len => true | .all => true | .any => true | .sum => true | .min => true | .max => true | .sorted => true | .abs => true | .int => true | .str => true | .list => true | .tuple => true | .repr => true | .bool => true | .dict => true | _ => false
theorem pairs_of : ∀ {ds : List D} {vs : List V}, (ds.all fun x => match pairOf x with | some p => keyS p.1 | none => false) = true → RpL X.K H no ds vs →
    ∃ (ps : List Addr) (kvs' : List (Key × V)), vs = ps.map V.ref ∧ Paired (fun p kv => SqT X.K H p [kV kv.1, kv.2]) ps kvs' ∧
      ∀ (kvs : List (D × D)) (es : List (Key × V)), RpK X.K H no kvs es → RpK X.K H no (ds.foldl (fun a x => match pairOf x with | some p => storeD p.1 p.2 a | none => a) kvs) (mergeK es kvs')
  | [], vs, _, h => by
    rw [h.nil_iff]
    exact ⟨[], [], rfl, .nil, fun kvs es h => h⟩
  | d :: ds, vs, g, h => by
    obtain ⟨v, r, rfl, h1, h2⟩ := h.cons_iff
    simp only [List.all_cons, Bool.and_eq_true] at g
    obtain ⟨ps, kvs', e1, e2, e3⟩ := pairs_of g.2 h2
    subst e1
    have g1 := g.1
    match d, g1, h1 with
    | .tuple [k, w], g1, h1 =>
      have g1 : keyS k = true := g1
      obtain ⟨p, xs, rfl, k1, k2⟩ := rp_tup h1
      obtain ⟨v1, r1, rfl, m1, k2⟩ := k2.cons_iff
      obtain ⟨v2, r2, rfl, m2, k2⟩ := k2.cons_iff
      rw [k2.nil_iff] at k1
      obtain ⟨q, rfl, rfl⟩ : ∃ q : Key, k = kD q ∧ v1 = kV q := by
        cases k <;> simp only [keyS] at g1 <;> first | (cases g1; done) | skip
        · simp only [Rp] at m1
          exact ⟨.inl _, rfl, m1⟩
        · simp only [Rp] at m1
          exact ⟨.inr _, rfl, m1⟩
      refine ⟨p :: ps, (q, v2) :: kvs', rfl, .cons k1.sq e2, fun kvs es hk => ?_⟩
      rw [List.foldl_cons]
      exact e3 _ _ (rpk_store hk m2)
    | .none, g1, h1 => cases g1
    | .bool _, g1, h1 => cases g1
    | .int _, g1, h1 => cases g1
    | .str _, g1, h1 => cases g1
    | .list _, g1, h1 => cases g1
    | .dict _, g1, h1 => cases g1
    | .tuple [], g1, h1 => cases g1
    | .tuple [_], g1, h1 => cases g1
    | .tuple (_ :: _ :: _ :: _), g1, h1 => cases g1
theorem Fin.dctK {es : List (Key × V)} {kvs : List (D × D)} {Q : VK} (hb : NoIn H no) (f : Fin X.K H no 1 (.dict kvs) Q) (r : RpK X.K H no kvs es) : ∀ p, H p = Option.none → Q (.ref p) (upd H p (.dK es)) := fun p hp => by
  refine f _ _ [p] (Same.upd hp) (by simp) (by simpa using hp) ?_
  simp only [Ow]
  refine ⟨p, [], rfl, rfl, .inl ⟨es, upd_same, OwK.zero.mpr ⟨rfl, RpK.kp ⟨fun a o e n => Same.upd hp a o e, fun a z => ?_⟩ kvs es r⟩⟩⟩
  rcases z with z | z
  · exact .inr (by rw [List.mem_singleton.mp z]; exact hp)
  · exact .inl z
theorem len_dict (I : Inv X pins σ H s) {a : Addr} {kvs : List (D × D)} {Q : VK} (h : (∃ es, Rd H a (.dK es) ∧ RpK X.K H no kvs es) ∨ ∃ es, Rd H a (.dT es) ∧ RpT X.K H no kvs es) (q : Q (.int kvs.length) H) :
    wpAny (model X.prog X.w) X.A (call (.builtin "len") [.ref a]) (EP X pins σ Q) X.xe s := by
  have hs := line63
  have lk : ∀ {kvs : List (D × D)} {es : List (Key × V)}, RpK X.K H no kvs es → kvs.length = es.length := by
    intro kvs
    induction kvs with
    | nil => intro es h; simp only [RpK] at h; subst h; rfl
    | cons p kvs ih =>
      intro es h
      obtain ⟨k, d⟩ := p
      simp only [RpK] at h
      obtain ⟨_, _, s, rfl, _, _, h2⟩ := h
      simp [ih h2]
  have lt : ∀ {kvs : List (D × D)} {es : List (List Key × V)}, RpT X.K H no kvs es → kvs.length = es.length := by
    intro kvs
    induction kvs with
    | nil => intro es h; simp only [RpT] at h; subst h; rfl
    | cons p kvs ih =>
      intro es h
      obtain ⟨k, d⟩ := p
      simp only [RpT] at h
      obtain ⟨_, _, s, rfl, _, _, h2⟩ := h
      simp [ih h2]
  rcases h with ⟨es, h1, h2⟩ | ⟨es, h1, h2⟩
  · exact d_len I h1 fun t s' I' => ⟨.int _, H, I', ⟨_, rfl⟩, by rw [← lk h2]; exact q⟩
  · obtain ⟨z, hd, ys, rel, dd⟩ := dt_rd I.hok h1
    have hl : es.length = ys.length := Paired.length rel
    exact PySem.call_len_dictH hd dd (by omega) ⟨.int _, H, I.tok _, ⟨_, rfl⟩, by rw [← hl, ← lt h2]; exact q⟩
theorem bi_ok (hc : X.calm = true) (hu : X.A.units + 64 < cLine) (hg : X.A.guards = some []) (b : Bi) (hb0 : biHere b = true) : CallR X (biVal b) (rBi X.K b (lvBi b)) := by
  intro pins s σ H vs us Q I rv h
  obtain ⟨no, ds, d, r, hb, e, f⟩ := h
  cases b with
  | len =>
    match ds, e with
    | [x], e =>
      obtain ⟨y, rfl, hy⟩ := r.one'
      cases x <;> simp only [biD, lenD] at e <;> first | cases e | skip
      · simp only [Rt] at hy
        subst hy
        obtain ⟨g, e⟩ := when_ok e
        subst e
        exact call_len_str pins s σ H _ us Q I rv ⟨_, rfl, fits_le g, f.int⟩
      · obtain ⟨a, xs, rfl, h1, h2⟩ := rt_list hy
        exact call_len_seq pins s σ H _ us Q I rv ⟨a, xs, rfl, .inl h1, by rw [← h2.len]; exact f.int⟩
      · obtain ⟨a, xs, rfl, h1, h2⟩ := rp_tup hy
        exact call_len_seq pins s σ H _ us Q I rv ⟨a, xs, rfl, .inr h1.sq, by rw [← h2.len]; exact f.int⟩
      · obtain ⟨a, rfl, h0⟩ := rt_dict hy
        obtain ⟨u, rfl, ru⟩ := vals1 rv
        cases ru
        exact len_dict I h0 f.int
    | [], e => cases e
    | _ :: _ :: _, e => cases e
  | bool =>
    match ds, e with
    | [x], e =>
      obtain ⟨y, rfl, hy⟩ := r.one'
      cases x <;> simp only [biD] at e <;> first | cases e | skip
      · simp only [Rt] at hy
        subst hy
        exact call_bool1 pins s σ H _ us Q I rv (.inr ⟨_, rfl, f.bool⟩)
      · simp only [Rt] at hy
        subst hy
        exact call_bool1 pins s σ H _ us Q I rv (.inl ⟨_, rfl, f.bool⟩)
    | [], e => cases e
    | x :: y :: z, e => exact absurd e (by cases x <;> simp [biD])
  | all =>
    match ds, e with
    | [x], e =>
      obtain ⟨y, rfl, hy⟩ := r.one'
      cases x <;> simp only [biD, allD] at e <;> first | cases e | skip
      obtain ⟨g, e⟩ := when_ok e
      subst e
      obtain ⟨a, xs, rfl, h1, h2⟩ := rt_list hy
      refine cr_all hc pins s σ H _ us Q I rv ⟨a, _, rfl, by rw [← bools_of g h2]; exact h1, ?_⟩
      rw [List.all_map]
      exact f.bool
    | [], e => cases e
    | _ :: _ :: _, e => cases e
  | any =>
    match ds, e with
    | [x], e =>
      obtain ⟨y, rfl, hy⟩ := r.one'
      cases x <;> simp only [biD, anyD] at e <;> first | cases e | skip
      obtain ⟨g, e⟩ := when_ok e
      subst e
      obtain ⟨a, xs, rfl, h1, h2⟩ := rt_list hy
      refine cr_any hc pins s σ H _ us Q I rv ⟨a, _, rfl, by rw [← bools_of g h2]; exact h1, ?_⟩
      rw [List.any_map]
      exact f.bool
    | [], e => cases e
    | _ :: _ :: _, e => cases e
  | sum =>
    match ds, e with
    | [x], e =>
      obtain ⟨y, rfl, hy⟩ := r.one'
      cases x <;> simp only [biD, sumD] at e <;> first | cases e | skip
      obtain ⟨g, e⟩ := when_ok e
      subst e
      obtain ⟨a, xs, rfl, h1, h2⟩ := rt_list hy
      exact cr_sum hc pins s σ H _ us Q I rv ⟨a, _, rfl, by rw [← ints_of g h2]; exact h1, f.int⟩
    | [], e => cases e
    | _ :: _ :: _, e => cases e
  | min =>
    match ds, e with
    | [x], e =>
      obtain ⟨y, rfl, hy⟩ := r.one'
      obtain ⟨u, rfl, ru⟩ := vals1 rv
      cases x <;> simp only [biD] at e <;> first | cases e | skip
      · rename_i l
        cases l with
        | nil => cases e
        | cons z l =>
          obtain ⟨g, e⟩ := when_ok e
          subst e
          exact min_list hc hu I ru hy g f
      · rename_i l
        cases l with
        | nil => cases e
        | cons z l =>
          obtain ⟨g, e⟩ := when_ok e
          subst e
          exact min_tup hc hu I ru hy g f
    | [x, y], e =>
      obtain ⟨z, t, rfl, hz, ht⟩ := r.two'
      cases x <;> cases y <;> simp only [biD] at e <;> first | cases e | skip
      simp only [Rt] at hz ht
      subst hz ht
      exact call_min2 hc pins s σ H _ us Q I rv ⟨_, _, rfl, f.int⟩
    | [], e => cases e
    | x :: y :: z :: t, e => exact absurd e (by cases x <;> cases y <;> simp [biD])
  | max =>
    match ds, e with
    | [x], e =>
      obtain ⟨y, rfl, hy⟩ := r.one'
      obtain ⟨u, rfl, ru⟩ := vals1 rv
      cases x <;> simp only [biD] at e <;> first | cases e | skip
      · rename_i l
        cases l with
        | nil => cases e
        | cons z l =>
          obtain ⟨g, e⟩ := when_ok e
          subst e
          exact max_list hc hu I ru hy g f
      · rename_i l
        cases l with
        | nil => cases e
        | cons z l =>
          obtain ⟨g, e⟩ := when_ok e
          subst e
          exact max_tup hc hu I ru hy g f
    | [x, y], e =>
      obtain ⟨z, t, rfl, hz, ht⟩ := r.two'
      cases x <;> cases y <;> simp only [biD] at e <;> first | cases e | skip
      simp only [Rt] at hz ht
      subst hz ht
      exact call_max2 hc pins s σ H _ us Q I rv ⟨_, _, rfl, f.int⟩
    | [], e => cases e
    | x :: y :: z :: t, e => exact absurd e (by cases x <;> cases y <;> simp [biD])
  | sorted =>
    match ds, e with
    | [x], e =>
      obtain ⟨y, rfl, hy⟩ := r.one'
      obtain ⟨u, rfl, ru⟩ := vals1 rv
      cases x <;> simp only [biD] at e <;> first | cases e | skip
      · obtain ⟨g, e⟩ := when_ok e
        subst e
        exact sorted_list hu I ru hy g hb (Nat.le_refl _) f
      · obtain ⟨g, e⟩ := when_ok e
        subst e
        rw [Bool.and_eq_true] at g
        obtain ⟨a, rfl, h0⟩ := rt_dict hy
        cases ru
        exact sorted_dict hc hu I (ks_of I h0 g.2) g.1 hb (Nat.le_refl _) f
    | [], e => cases e
    | x :: y :: z, e => exact absurd e (by cases x <;> simp [biD])
  | abs =>
    match ds, e with
    | [x], e =>
      obtain ⟨y, rfl, hy⟩ := r.one'
      cases x <;> simp only [biD] at e <;> first | cases e | skip
      simp only [Rt] at hy
      subst hy
      exact call_abs pins s σ H _ us Q I rv ⟨_, rfl, f.int⟩
    | [], e => cases e
    | x :: y :: z, e => exact absurd e (by cases x <;> simp [biD])
  | int =>
    match ds, e with
    | [x], e =>
      obtain ⟨y, rfl, hy⟩ := r.one'
      cases x <;> simp only [biD] at e <;> first | cases e | skip
      · simp only [Rt] at hy
        subst hy
        exact call_int1 pins s σ H _ us Q I rv (.inr ⟨_, rfl, f.int⟩)
      · simp only [Rt] at hy
        subst hy
        exact call_int1 pins s σ H _ us Q I rv (.inl ⟨_, rfl, f.int⟩)
    | [], e => cases e
    | x :: y :: z, e => exact absurd e (by cases x <;> simp [biD])
  | str =>
    match ds, e with
    | [x], e =>
      obtain ⟨y, rfl, hy⟩ := r.one'
      cases x <;> simp only [biD] at e <;> first | cases e | skip
      simp only [Rt] at hy
      subst hy
      obtain ⟨g, e⟩ := when_ok e
      subst e
      exact call_str_int pins s σ H _ us Q I rv ⟨_, rfl, of_decide_eq_true g, f.str⟩
    | [], e => cases e
    | x :: y :: z, e => exact absurd e (by cases x <;> simp [biD])
  | list =>
    match ds, e with
    | [x], e =>
      obtain ⟨y, rfl, hy⟩ := r.one'
      cases x <;> simp only [biD] at e <;> first | cases e | skip
      · obtain ⟨a, xs, rfl, h1, h2⟩ := rt_list hy
        exact call_list_of pins s σ H _ us Q I rv ⟨a, xs, rfl, .inl h1, f.lst hb (Nat.le_refl _) h2⟩
      · obtain ⟨a, xs, rfl, h1, h2⟩ := rp_tup hy
        exact call_list_of pins s σ H _ us Q I rv ⟨a, xs, rfl, .inr h1.sq, f.lst hb (Nat.le_refl _) h2⟩
      · obtain ⟨g, e⟩ := when_ok e
        subst e
        obtain ⟨a, rfl, h0⟩ := rt_dict hy
        obtain ⟨u, rfl, ru⟩ := vals1 rv
        cases ru
        exact list_dict hc I (ks_of I h0 g) hb (Nat.le_refl _) f
    | [], e => cases e
    | x :: y :: z, e => exact absurd e (by cases x <;> simp [biD])
  | dict =>
    match ds, e with
    | [x], e =>
      obtain ⟨y, rfl, hy⟩ := r.one'
      cases x <;> simp only [biD] at e <;> first | cases e | skip
      obtain ⟨g, e⟩ := when_ok e
      subst e
      obtain ⟨a, xs, rfl, h1, h2⟩ := rt_list hy
      obtain ⟨ps, kvs', rfl, hp, hk⟩ := pairs_of g h2
      exact call_dictP hc pins s σ H _ us Q I rv ⟨a, ps, kvs', rfl, h1, hp, fun p hpn => f.dctK hb (hk [] [] (by simp [RpK])) p hpn⟩
    | [], e => cases e
    | x :: y :: z, e => exact absurd e (by cases x <;> simp [biD])
  | tuple =>
    match ds, e with
    | [x], e =>
      obtain ⟨y, rfl, hy⟩ := r.one'
      cases x <;> simp only [biD] at e <;> first | cases e | skip
      · obtain ⟨a, xs, rfl, h1, h2⟩ := rt_list hy
        exact call_tuple_of pins s σ H _ us Q I rv ⟨a, xs, rfl, .inl ⟨h1, f.tup hb h2⟩⟩
      · have hy' := hy
        obtain ⟨a, xs, rfl, h1, h2⟩ := rp_tup hy
        exact call_tuple_of pins s σ H _ us Q I rv ⟨a, xs, rfl, .inr ⟨h1.sq, f.old hy'⟩⟩
    | [], e => cases e
    | x :: y :: z, e => exact absurd e (by cases x <;> simp [biD])
  | repr =>
    match ds, e with
    | [x], e =>
      obtain ⟨y, rfl, hy⟩ := r.one'
      simp only [biD] at e
      obtain ⟨g, e⟩ := when_ok e
      subst e
      obtain ⟨u, rfl, ru⟩ := vals1 rv
      exact repr_top I hg hu g ru hy f.str
    | [], e => cases e
    | x :: y :: z, e => exact absurd e (by simp [biD])
  | sortedR => cases hb0
  | sset => cases hb0
  | lset => cases hb0
end
end Pv
end
section
set_option maxHeartbeats 3200000
/-! P36: sets of ints and texts; sorted(set(..)). -/
namespace Pv
open PySem PySem.Spec PyProof.Rows L2
instance decMem (k : Key) (l : List Key) : Decidable (k ∈ l) := @List.instDecidableMemOfLawfulBEq Key instBEqOfDecidableEq inferInstance k l
def keyM (e : Int × Value) : Key :=
  match e.2 with
  | .int i _ => .inl i
  | .str x _ => .inr x
  | _ => .inl 0
def GoodM (P : Program) (w : World) (e : Int × Value) : Prop := ∃ q, RelV (kV q) e.2 ∧ e.1 = (mixKind P w).hash q
/-- the set at ad: M its members, cnt their number -/
def SetM (P : Program) (w : World) (hp : Heap) (ad : Addr) (M : Key → Bool) (cnt : Nat) : Prop :=
  ∃ ob xs er tb, hp.get? ad = some ob ∧ ob.ExactSet ∧ ob.data = .set xs er tb ∧ (∀ e ∈ xs.toList, GoodM P w e) ∧ (xs.toList.map keyM).Nodup ∧ (∀ q, M q = true ↔ q ∈ xs.toList.map keyM) ∧
    xs.size < scanBound ∧ tb.fits xs.size = true ∧ xs.size = cnt ∧ Ris tb.place.toList ∧ (w.params.followText "set-order" = true ∨ tb.led = true)
theorem keyM_of {q : Key} {v : Value} {n : Int} (r : RelV (kV q) v) : keyM (n, v) = q := by
  cases q with
  | inl i =>
    obtain ⟨t, rfl⟩ := r
    rfl
  | inr x =>
    obtain ⟨t, rfl⟩ := r
    rfl
section
variable {P : Program} {w : World} {A : Around} {E : Value → Shared → Prop} {st : Shared} {hp hp' : Heap} {ad : Addr} {M : Key → Bool} {cnt : Nat}
theorem SetM.at (R : SetM P w hp ad M cnt) (k : ∀ o, hp.get? ad = some o → hp'.get? ad = some o) : SetM P w hp' ad M cnt := by
  obtain ⟨ob, xs, er, tb, go, r⟩ := R
  exact ⟨ob, xs, er, tb, k ob go, r⟩
theorem SetM.congr {M' : Key → Bool} (R : SetM P w hp ad M cnt) (e : ∀ k, M' k = M k) : SetM P w hp ad M' cnt := by
  have z : M' = M := funext e
  rw [z]; exact R
theorem goodM_elems {l : List (Int × Value)} (gg : ∀ e ∈ l, GoodM P w e) : ElemsOf (mixKind P w) l := fun e he => by
  obtain ⟨q, r1, r2⟩ := gg e he
  exact ⟨⟨q, kV_is r1, r2⟩, key_scan r1⟩
theorem goodM_is {e : Int × Value} (gg : GoodM P w e) (q : Key) : (mixKind P w).is q e.2 = true ↔ keyM e = q := by
  obtain ⟨z, r1, _⟩ := gg
  have e1 : keyM e = z := keyM_of (n := e.1) r1
  rw [e1]
  exact ⟨fun y => ((mixKind P w).inj e.2 z q (kV_is r1) y), fun y => y ▸ kV_is r1⟩
theorem goodM_mem {l : List (Int × Value)} (gg : ∀ e ∈ l, GoodM P w e) (q : Key) : q ∈ l.map keyM ↔ ∃ e ∈ l, (mixKind P w).is q e.2 = true := by
  rw [List.mem_map]
  exact ⟨fun ⟨e, he, y⟩ => ⟨e, he, (goodM_is (gg e he) q).2 y⟩, fun ⟨e, he, y⟩ => ⟨e, he, (goodM_is (gg e he) q).1 y⟩⟩
theorem storeM_at {hp : Heap} {ad : Addr} {ob : Obj} {xs es' : Array (Int × Value)} {er : Nat} {tb t' : SetTable} (gO : hp.get? ad = some ob) (gD : ob.data = .set xs er tb) :
    (hp.update ad (Obj.putSet es' t')).get? ad = some { ob with data := .set es' (er + 1) t' } := by
  have z3 := Heap.get?_update_self (Obj.putSet es' t') gO (by rw [putSet_of es' t' gD]; rfl)
  rw [putSet_of es' t' gD] at z3
  exact z3

theorem setM_add_tail {gg : Bool → Sem Unit} (hg : ∀ (bo : Bool) (st1 : Shared) (Qz : Unit → Shared → Prop), Qz () st1 → wpAny (model P w) A (gg bo) Qz E st1)
    {ob : Obj} {xs : Array (Int × Value)} {er : Nat} {tb : SetTable} (gO : st.heap.get? ad = some ob) (gX : ob.ExactSet) (gD : ob.data = .set xs er tb)
    {ys : Array (Int × Value)} {tz : SetTable} {M' : Key → Bool} (gg1 : ∀ en ∈ ys.toList, GoodM P w en) (uq1 : (ys.toList.map keyM).Nodup) (mm1 : ∀ q, M' q = true ↔ q ∈ ys.toList.map keyM)
    (bb1 : ys.size < scanBound) (ff2 : tz.fits ys.size = true) (rr : Ris tz.place.toList) (ll : w.params.followText "set-order" = true ∨ tz.led = true) {wd : Bool} {Rr : Option Bool → Shared → Prop}
    (hG : ∀ hp', Heap.SameBut ad st.heap hp' → SetM P w hp' ad M' ys.size → Rr (some true) { st with heap := hp' }) :
    wpAny (model P w) A (do
        storeSet ad ys tz
        if (!wd && tz.tooFull) = true then do
            gg (relayAll tz ys (SetTable.grown ys.size)).2.2
            storeSet ad (relayAll tz ys (SetTable.grown ys.size)).1 (relayAll tz ys (SetTable.grown ys.size)).2.1
            pure (some true)
          else pure (some true)) Rr E st := by
  refine wpAny_bind (wpAny_storeSet_of gO gD ?_ (fits_of_scanBound bb1))
  have gO1 := storeM_at (es' := ys) (t' := tz) gO gD
  have sb2 := Heap.SameBut.update st.heap ad (Obj.putSet ys tz)
  split
  · have pp := relayAll_perm tz ys (SetTable.grown ys.size)
    have ff3 := relayAll_fits tz ys (SetTable.grown ys.size)
    have rr3 := relayAll_ris tz ys (SetTable.grown ys.size)
    have ll3 := relayAll_led tz ys (SetTable.grown ys.size)
    generalize relayAll tz ys (SetTable.grown ys.size) = ZZ at pp ff3 rr3 ll3 ⊢
    obtain ⟨zs, ty, gv⟩ := ZZ
    dsimp only at pp ff3 rr3 ll3 ⊢
    have zz : zs.size = ys.size := by rw [← Array.length_toList, pp.length_eq, Array.length_toList]
    have bb2 : zs.size < scanBound := by rw [zz]; exact bb1
    refine wpAny_bind (hg _ _ _ ?_)
    refine wpAny_bind (wpAny_storeSet_of gO1 rfl ?_ (fits_of_scanBound bb2))
    have gO2 := storeM_at (es' := zs) (t' := ty) gO1 rfl
    refine wpAny_pure (hG _ (sb2.trans (Heap.SameBut.update _ ad _)) ?_)
    exact ⟨_, zs, _, ty, gO2, gX, rfl, fun en hen => gg1 en (pp.mem_iff.mp hen), (pp.map keyM).nodup_iff.mpr uq1, fun q => (mm1 q).trans (pp.map keyM).mem_iff.symm, bb2, ff3, zz, rr3,
      ll.imp id fun zq => by rw [ll3]; exact zq⟩
  · exact wpAny_pure (hG _ sb2 ⟨_, ys, _, tz, gO1, gX, rfl, gg1, uq1, mm1, bb1, ff2, rfl, rr, ll⟩)

theorem setM_add_hashed {q : Key} {u : Value} (ru : RelV (kV q) u) {Q : Bool → Shared → Prop} (Rr : SetM P w st.heap ad M cnt) (fits : cnt + 1 < scanBound)
    (hG : ∀ hp', Heap.SameBut ad st.heap hp' → SetM P w hp' ad (fun j => M j || decide (j = q)) (if M q = true then cnt else cnt + 1) → Q (!M q) { st with heap := hp' }) :
    wpAny (model P w) A (setAddHashed ad u ((mixKind P w).hash q)) Q E st := by
  obtain ⟨ob, xs, er, tb, gO, gX, gD, gg, uq, mm, bb, ff, nn, rr, ll⟩ := Rr
  have hq : (mixKind P w).is q u = true := kV_is ru
  have sc : u.scannable = true := key_scan ru
  have el : ElemsOf (mixKind P w) xs.toList := goodM_elems gg
  unfold setAddHashed setAddHashedIn
  refine wpAny_holding (wpAny_bind (wpAny_setState_of gO gD ff ?_))
  dsimp only
  rw [byScan_of sc bb el]
  simp only [↓reduceIte]
  unfold setAddByScan
  refine wpAny_bind ?_
  refine wpAny_bind (wpAny_rule ?_)
  refine wpAny_bind (wpAny_setScan_of hq gO gD ff el ?_)
  cases fi : List.findIdx? (fun en => (mixKind P w).is q en.2) xs.toList with
  | some j =>
    dsimp only
    obtain ⟨jj, pj2, _⟩ := List.findIdx?_eq_some_iff_getElem.mp fi
    have Mq : M q = true := (mm q).2 ((goodM_mem (P := P) (w := w) gg q).2 ⟨xs.toList[j], List.getElem_mem jj, pj2⟩)
    refine wpAny_pure (wpAny_pure ?_)
    have z3 := hG st.heap (Heap.SameBut.refl ad st.heap) ⟨ob, xs, er, tb, gO, gX, gD, gg, uq, fun ix => by
      rw [Bool.or_eq_true, decide_eq_true_eq, ← mm ix]
      exact ⟨fun zq => zq.elim id (fun en => en ▸ Mq), .inl⟩, bb, ff, by rw [if_pos Mq]; exact nn, rr, ll⟩
    rw [Mq] at z3
    exact z3
  | none =>
    dsimp only
    have nq : q ∉ xs.toList.map keyM := fun zq => by
      obtain ⟨en, hen, z3⟩ := (goodM_mem (P := P) (w := w) gg q).1 zq
      have cc := List.findIdx?_eq_none_iff.mp fi en hen
      rw [z3] at cc
      cases cc
    have Mq : M q = false := by
      cases z3 : M q with
      | false => rfl
      | true => exact absurd ((mm q).1 z3) nq
    have gw : ∀ (bo : Bool) {st1 : Shared} {Qz : Unit → Shared → Prop}, Qz () st1 → wpAny (model P w) A (match bo with | true => rule "set.scan.the-table-gave-way" | false => pure ()) Qz E st1 :=
      fun bo st1 Qz z3 => by cases bo <;> first | exact wpAny_pure z3 | exact wpAny_rule z3
    have pp := layNew_perm tb xs ((mixKind P w).hash q) u
    have ff1 := layNew_fits tb xs ((mixKind P w).hash q) u
    have rr1 := layNew_ris tb xs ((mixKind P w).hash q) u rr
    have ll1 := layNew_led tb xs ((mixKind P w).hash q) u
    generalize layNew tb xs ((mixKind P w).hash q) u = ZZ at pp ff1 rr1 ll1 ⊢
    obtain ⟨ys, tx, wd, gv⟩ := ZZ
    dsimp only at pp ff1 rr1 ll1 ⊢
    rw [Array.toList_push] at pp
    have pe : ys.toList.Perm (((mixKind P w).hash q, u) :: xs.toList) := pp.trans (List.perm_append_singleton _ _)
    have pv : (ys.toList.map keyM).Perm (q :: xs.toList.map keyM) := by
      have e0 := pe.map keyM
      rw [List.map_cons, keyM_of ru] at e0
      exact e0
    have gg1 : ∀ en ∈ ys.toList, GoodM P w en := fun en hen => by
      rcases List.mem_cons.mp (pe.mem_iff.mp hen) with zq | zq
      · rw [zq]; exact ⟨q, ru, rfl⟩
      · exact gg en zq
    have uq1 : (ys.toList.map keyM).Nodup := pv.nodup_iff.mpr (List.nodup_cons.mpr ⟨nq, uq⟩)
    have mm1 : ∀ ix, (M ix || decide (ix = q)) = true ↔ ix ∈ ys.toList.map keyM := fun ix => by
      rw [Bool.or_eq_true, decide_eq_true_eq, mm ix, pv.mem_iff, List.mem_cons]
      exact Or.comm
    have zz : ys.size = cnt + 1 := by rw [← Array.length_toList, pe.length_eq, List.length_cons, Array.length_toList, nn]
    have bb1 : ys.size < scanBound := by rw [zz]; exact fits
    have led : w.params.followText "set-order" = true ∨ tx.led = true := ll.imp id fun zq => by rw [ll1]; exact zq
    have done : ∀ hp', Heap.SameBut ad st.heap hp' → SetM P w hp' ad (fun j => M j || decide (j = q)) ys.size → Q true { st with heap := hp' } := fun hp' sm rz => by
      have z3 := hG hp' sm
      rw [Mq] at z3
      rw [zz] at rz
      exact z3 rz
    refine wpAny_bind (gw _ ?_)
    split
    · refine wpAny_bind ?_
      rw [hashByValue_scannable 8 sc]
      refine wpAny_pure ?_
      refine setM_add_tail ?_ gO gX gD gg1 uq1 mm1 bb1 ?_ ?_ ?_ ?_
      · intro bo st1 Qz z3; cases bo <;> first | exact wpAny_pure z3 | exact wpAny_rule z3
      · first | (split <;> first | exact ff1 | exact SetTable.fits_plain_off ff1) | exact ff1
      · first | (split <;> exact rr1) | exact rr1
      · first | (split <;> exact led) | exact led
      · intro hp' sm rz; dsimp only; exact wpAny_pure (done hp' sm rz)
    · refine wpAny_bind (wpAny_pure ?_)
      simp only [↓reduceIte]
      refine setM_add_tail ?_ gO gX gD gg1 uq1 mm1 bb1 ff1 rr1 led ?_
      · intro bo st1 Qz z3; cases bo <;> first | exact wpAny_pure z3 | exact wpAny_rule z3
      · intro hp' sm rz; dsimp only; exact wpAny_pure (done hp' sm rz)

set_option maxHeartbeats 3200000 in
theorem set_update_keys {It : Addr} {fq wq : List Addr} {Gg : Array GenState → Array GenState → Prop} {len : Nat} {Pw : Nat → Value → Prop} {Ss : Nat → Shared → Prop} {Rz : Result → Shared → Prop}
    (Wk : WalksS P w A.in1 It fq wq Gg len Pw Ss) (ad : Addr) (nf : ad ∉ fq) (ks : List Key) (hlen : len = ks.length) (hbq : ks.length + 1 < scanBound) (val : ∀ ix vv, Pw ix vv → ∃ kk, ks[ix]? = some kk ∧ RelV (kV kk) vv) :
    ∀ (m ix : Nat) (st : Shared), len - ix = m → ix ≤ len → Ss ix st → (∃ cc, cc ≤ ix ∧ SetM P w st.heap ad (fun jx => decide (jx ∈ ks.take ix)) cc) →
      (∀ st' cc, Moved (ad :: wq) Gg st st' → cc ≤ len → SetM P w st'.heap ad (fun jx => decide (jx ∈ ks)) cc → Rz (.ok (.ret .none)) st') →
      codeAny (model P w) A (.builtin "set.update.loop" ⟨[.ref ad, .ref It], []⟩) Rz st := by
  have nw : ad ∉ wq := fun hh => nf (Wk.sub _ hh)
  have hs2 : ∀ bq ∈ wq, bq ∈ ad :: wq := fun bq hbq => List.mem_cons_of_mem _ hbq
  intro m
  induction m with
  | zero =>
    intro ix st hmk hix hst2 ⟨cc, hcc, gS⟩ gR
    have hix2 : ix = len := by omega
    subst hix2
    refine codeAny_builtin F.entry_set_update_loop ?_
    rw [Around.under_plainId F.plain_set_update_loop _]
    show wpAny _ A.in1 (pyNext (.ref It) >>= _) _ _ st
    refine wpAny_bind (Wk.done st _ _ hst2 fun st' mv => ?_)
    show wpAny _ A.in1 (ret Value.none) _ _ st'
    have eq : ks.take ix = ks := List.take_of_length_le (by omega)
    rw [eq] at gS
    exact wpAny_pure (gR st' cc (mv.mono hs2) hcc (gS.at fun oq eq => mv.heap ad oq nw eq))
  | succ m ihm =>
    intro ix st hmk hix hst2 ⟨cc, hcc, gS⟩ gR
    have hl2 : ix < len := by omega
    refine codeAny_builtin F.entry_set_update_loop ?_
    rw [Around.under_plainId F.plain_set_update_loop _]
    show wpAny _ A.in1 (pyNext (.ref It) >>= _) _ _ st
    refine wpAny_bind (Wk.item ix st _ _ hl2 hst2 fun vv st' hPw hst3 mv => ?_)
    obtain ⟨kk, hkk, hkk2⟩ := val ix vv hPw
    have gS' : SetM P w st'.heap ad (fun jx => decide (jx ∈ ks.take ix)) cc := gS.at fun oq eq => mv.heap ad oq nw eq
    show wpAny _ A.in1 (holding [vv] (setAdd ad vv) >>= _) _ _ st'
    refine wpAny_bind (wpAny_holding ?_)
    unfold setAdd
    refine wpAny_holding ?_
    refine wpAny_bind ((mixKind P w).pyHash (k := kk) (kV_is hkk2) ?_)
    refine setM_add_hashed hkk2 (st := { st' with toks := st'.toks + 1 }) gS' (by omega) fun hp' sb gS2 => ?_
    have gS3 : SetM P w hp' ad (fun jx => decide (jx ∈ ks.take (ix + 1))) (if decide (kk ∈ ks.take ix) = true then cc else cc + 1) := gS2.congr fun jx => by
      rw [List.take_add_one, hkk]
      simp [List.mem_append]
    have hcc3 : (if decide (kk ∈ ks.take ix) = true then cc else cc + 1) ≤ ix + 1 := by
      split <;> omega
    refine wpAny_pure ⟨plainId_quiet F.plain_set_update_loop _, ihm (ix + 1) _ (by omega) hl2 (Wk.frame _ st' _ _ hst3 (Nat.le_succ _) fun bq hbq oq eq => ?_) ⟨_, hcc3, gS3⟩ fun st'' cc2 mv'' hcc'' gS'' => ?_⟩
    · rw [sb.2 bq (fun hh : bq = ad => nf (by rw [← hh]; exact hbq))]; exact eq
    · refine gR st'' cc2 (Moved.trans Wk.gtrans ((mv.mono hs2).then_heap (Nat.le_succ _) fun bq oq hbq eq => ?_) mv'') hcc'' gS''
      rw [sb.2 bq (fun hh : bq = ad => hbq (by rw [hh]; exact List.mem_cons_self))]; exact eq

theorem keys_val : ∀ {ks : List Key} {us : List Value} {i : Nat} {v : Value}, Vals (ks.map kV) us → us[i]? = some v → ∃ k, ks[i]? = some k ∧ RelV (kV k) v
  | [], us, i, v, r, e => by
    cases r
    simp at e
  | k :: ks, us, 0, v, r, e => by
    cases r with
    | cons r1 r2 =>
      simp at e
      subst e
      exact ⟨k, rfl, r1⟩
  | k :: ks, us, i + 1, v, r, e => by
    cases r with
    | cons r1 r2 =>
      simp only [List.getElem?_cons_succ] at e
      obtain ⟨z, e1, e2⟩ := keys_val r2 e
      exact ⟨z, by simpa using e1, e2⟩
theorem setM_new_at {hp : Heap} {ad : Addr} {ks : List Key} (gO : hp.get? ad = some { cls := .type "set", dict := none, data := .set #[] 0 (.fresh 0 0 (!w.params.followText "set-order")) }) : SetM P w hp ad (fun j => decide (j ∈ ks.take 0)) 0 := by
  refine ⟨_, #[], 0, _, gO, ⟨rfl, rfl, rfl⟩, rfl, ?_, ?_, fun k => ?_, by decide, by rfl, rfl, List.Pairwise.nil, ?_⟩
  · intro e he
    simp at he
  · simp
  · simp
  · show _ ∨ (!w.params.followText "set-order") = true
    cases w.params.followText "set-order" with
    | false => exact .inr rfl
    | true => exact .inl rfl
set_option maxHeartbeats 3200000 in
theorem call_set_tupM {lp : Addr} {its : Array Value} (ks : List Key) {Q : Value → Shared → Prop} (hc : A.handled = none) (lt0 : st.heap.IsTuple lp its) (ri : Vals (ks.map kV) its.toList) (room : ks.length + 1 < scanBound)
    (go : ∀ (hp' : Heap) (tq cc : Nat), SetM P w hp' st.heap.objs.size (fun j => decide (j ∈ ks)) cc → cc ≤ ks.length → (∀ bq oq, st.heap.get? bq = some oq → hp'.get? bq = some oq) → Q (.ref st.heap.objs.size) { st with heap := hp', toks := tq }) :
    wpAny (model P w) A (call (.type "set") [.ref lp]) Q E st := by
  have isz : its.size = ks.length := by
    have zq := Vals.length ri
    simp at zq
    exact zq.symm
  obtain ⟨cc, ctl, mro⟩ := F.called_set.mro
  have made := F.called_set.made
  have sub2 := F.called_set.sub
  refine wpAny_call (codeAny_of_tree ?_)
  show wpAny _ _ (callAny (.type "set") _) _ _ _
  refine wpAny_pure ⟨Code.quiet_builtin _ (by decide +kernel), codeAny_builtin F.entry_type_call ?_⟩
  rw [Around.under_plain (weight_type_call_type "set" [.ref lp] []) rfl]
  have nty := F.called_set.notType
  have cre := F.called_set.canCreate
  have tyc := F.typeCall_set_1 (.ref lp)
  repeat (any_goals (first | assumption | wp_step))

  refine codeAny_mono (code_set_led1 (.ref lp) (E := E) (Q₁ := fun ob st1 => ob = .ref st.heap.objs.size ∧ st1 = { st with heap := st.heap.push { cls := .type "set", dict := none, data := .set #[] 0 (.fresh 0 0 (!w.params.followText "set-order")) } }) ⟨rfl, rfl⟩) fun rr st1 hrr => ?_
  cases rr with
  | error ee => exact hrr
  | ok fw =>
    cases fw with
    | ret ob =>
      obtain ⟨rfl, rfl⟩ := hrr
      have gS : (st.heap.push { cls := .type "set", dict := none, data := .set #[] 0 (.fresh 0 0 (!w.params.followText "set-order")) }).get? st.heap.objs.size = some { cls := .type "set", dict := none, data := .set #[] 0 (.fresh 0 0 (!w.params.followText "set-order")) } := Heap.get?_push_size _ rfl
      have gT0 : Shared.TypeIs { st with heap := st.heap.push { cls := .type "set", dict := none, data := .set #[] 0 (.fresh 0 0 (!w.params.followText "set-order")) } } (.ref st.heap.objs.size) "set" := ⟨_, gS, rfl⟩
      have gli := F.called_set.init.lookup
      have gbi := F.called_set.init.bind (.ref st.heap.objs.size)
      repeat (any_goals (first | assumption | wp_step))

      refine codeAny_mono (codeAny_call_builtin (R := wants (fun rr st2 => rr = .none ∧ ∃ hp' tq cc, st2 = { st with heap := hp', toks := tq } ∧ SetM P w hp' st.heap.objs.size (fun j => decide (j ∈ ks)) cc ∧ cc ≤ ks.length ∧
          (∀ bq oq, st.heap.get? bq = some oq → hp'.get? bq = some oq)) E) F.called_set.init.plain F.entry_set_init (check_set_init_1 gT0 ?_)) fun rz st2 hrz => ?_
      · obtain ⟨tob, gtob, gcl, tn, gdl⟩ := lt0
        obtain ⟨tc, td, te, tf⟩ := tob
        simp only at gcl gdl
        subst gcl; subst gdl
        have gtob' : (st.heap.push { cls := .type "set", dict := none, data := .set #[] 0 (.fresh 0 0 (!w.params.followText "set-order")) }).get? lp = some { cls := .type "tuple", dict := td, data := .seq its tn, slots := tf } := Heap.get?_push_of_some _ gtob
        have sb1 := F.sub_tuple_set
        have sb2 := F.sub_tuple_frozenset
        have dne : (Value.type "tuple" == Value.type "dict") = false := by decide
        have tup1 : (st.heap.push { cls := .type "set", dict := none, data := .set #[] 0 (.fresh 0 0 (!w.params.followText "set-order")) }).IsTuple lp its := ⟨_, gtob', rfl, tn, rfl⟩
        unfold Builtin.«set.__init__» noKeywords Builtin.Frozenset.updateFrom
        generalize gPI : pyIter = PIt
        wp_walk
        subst gPI

        refine wpAny_pyIter_tuple tup1 ?_
        refine wpAny_bind (wpAny_runValue ?_)
        have lS : lp < st.heap.objs.size := Heap.lt_size gtob
        have hc3 : A.in1.in1.in1.handled = none := by simp [hc]
        have size1 : (st.heap.push { cls := .type "set", dict := none, data := .set #[] 0 (.fresh 0 0 (!w.params.followText "set-order")) }).objs.size = st.heap.objs.size + 1 := Heap.size_push ..
        have neI : lp ≠ (st.heap.push { cls := .type "set", dict := none, data := .set #[] 0 (.fresh 0 0 (!w.params.followText "set-order")) }).objs.size := by
          rw [Heap.size_push]; exact Nat.ne_of_lt (Nat.lt_succ_of_lt lS)
        have nSf : st.heap.objs.size ∉ [(st.heap.push { cls := .type "set", dict := none, data := .set #[] 0 (.fresh 0 0 (!w.params.followText "set-order")) }).objs.size, lp] := by
          rw [Heap.size_push]; simp only [List.mem_cons, List.mem_singleton, List.not_mem_nil, or_false, not_or]
          exact ⟨Nat.ne_of_lt (Nat.lt_succ_self _), Nat.ne_of_gt lS⟩
        have vals : ∀ (ix : Nat) (vv : Value), its[ix]? = some vv → ∃ kk, ks[ix]? = some kk ∧ RelV (kV kk) vv := fun ix vv hvv => keys_val ri (by rw [Array.getElem?_toList]; exact hvv)
        refine set_update_keys ((Walks.tuple hc3 _ lp neI its).toS) st.heap.objs.size
          nSf ks isz room vals (its.size - 0) 0 _ (by omega) (Nat.zero_le _)
          ⟨⟨_, Heap.get?_push_size _ rfl, rfl, rfl⟩, (tup1.push _)⟩ ?gS0 ?gR
        case gS0 =>
          have gget : ((st.heap.push { cls := .type "set", dict := none, data := .set #[] 0 (.fresh 0 0 (!w.params.followText "set-order")) }).push { cls := .type "tuple_iterator", data := .fields #[.ref lp, .int 0 0] }).get? st.heap.objs.size
              = some { cls := .type "set", dict := none, data := .set #[] 0 (.fresh 0 0 (!w.params.followText "set-order")) } := Heap.get?_push_of_some _ gS
          exact ⟨0, Nat.le_refl 0, setM_new_at gget⟩
        case gR =>
          intro st' cc' mv hcc' gS'
          obtain ⟨hp', gn, dr', tq', os2⟩ := st'
          have e1 : gn = st.gens := mv.gens
          have e2 : dr' = st.drawn := mv.drawn
          have e3 : os2 = st.os := mv.os
          subst e1; subst e2; subst e3
          show wpAny _ _ _ _ _ _
          refine wpAny_pure ?_
          show wpAny _ _ (ret Value.none) _ _ _
          rw [isz] at hcc'
          refine wpAny_pure ⟨rfl, hp', tq', cc', rfl, gS', hcc', fun bq oq ee => ?_⟩
          have bq0 : bq < st.heap.objs.size := Heap.lt_size ee
          have bq1 : bq ≠ st.heap.objs.size := Nat.ne_of_lt bq0
          have bq2 : bq ≠ (st.heap.push { cls := .type "set", dict := none, data := .set #[] 0 (.fresh 0 0 (!w.params.followText "set-order")) }).objs.size := by
            rw [Heap.size_push]; exact Nat.ne_of_lt (Nat.lt_succ_of_lt bq0)
          exact mv.heap bq oq (by simp only [List.mem_cons, List.mem_singleton, List.not_mem_nil, or_false, not_or]; exact ⟨bq1, bq2⟩) (Heap.get?_push_of_some _ (Heap.get?_push_of_some _ ee))

      · cases rz with
        | error ee => exact hrz
        | ok fz =>
          cases fz with
          | ret rr =>
            obtain ⟨rfl, hp', tq, cc', rfl, gS', hcc', keep'⟩ := hrz
            repeat (any_goals (first | assumption | wp_step))
            exact go _ _ _ gS' hcc' keep'
          | _ => exact hrz.elim
    | _ => exact hrr.elim
set_option maxHeartbeats 3200000 in
theorem call_set_listM {lp : Addr} {its : Array Value} (ks : List Key) {Q : Value → Shared → Prop} (hc : A.handled = none) (lt0 : st.heap.IsList lp its) (ri : Vals (ks.map kV) its.toList) (room : ks.length + 1 < scanBound)
    (go : ∀ (hp' : Heap) (tq cc : Nat), SetM P w hp' st.heap.objs.size (fun j => decide (j ∈ ks)) cc → cc ≤ ks.length → (∀ bq oq, st.heap.get? bq = some oq → hp'.get? bq = some oq) → Q (.ref st.heap.objs.size) { st with heap := hp', toks := tq }) :
    wpAny (model P w) A (call (.type "set") [.ref lp]) Q E st := by
  have isz : its.size = ks.length := by
    have zq := Vals.length ri
    simp at zq
    exact zq.symm
  obtain ⟨cc, ctl, mro⟩ := F.called_set.mro
  have made := F.called_set.made
  have sub2 := F.called_set.sub
  refine wpAny_call (codeAny_of_tree ?_)
  show wpAny _ _ (callAny (.type "set") _) _ _ _
  refine wpAny_pure ⟨Code.quiet_builtin _ (by decide +kernel), codeAny_builtin F.entry_type_call ?_⟩
  rw [Around.under_plain (weight_type_call_type "set" [.ref lp] []) rfl]
  have nty := F.called_set.notType
  have cre := F.called_set.canCreate
  have tyc := F.typeCall_set_1 (.ref lp)
  repeat (any_goals (first | assumption | wp_step))

  refine codeAny_mono (code_set_led1 (.ref lp) (E := E) (Q₁ := fun ob st1 => ob = .ref st.heap.objs.size ∧ st1 = { st with heap := st.heap.push { cls := .type "set", dict := none, data := .set #[] 0 (.fresh 0 0 (!w.params.followText "set-order")) } }) ⟨rfl, rfl⟩) fun rr st1 hrr => ?_
  cases rr with
  | error ee => exact hrr
  | ok fw =>
    cases fw with
    | ret ob =>
      obtain ⟨rfl, rfl⟩ := hrr
      have gS : (st.heap.push { cls := .type "set", dict := none, data := .set #[] 0 (.fresh 0 0 (!w.params.followText "set-order")) }).get? st.heap.objs.size = some { cls := .type "set", dict := none, data := .set #[] 0 (.fresh 0 0 (!w.params.followText "set-order")) } := Heap.get?_push_size _ rfl
      have gT0 : Shared.TypeIs { st with heap := st.heap.push { cls := .type "set", dict := none, data := .set #[] 0 (.fresh 0 0 (!w.params.followText "set-order")) } } (.ref st.heap.objs.size) "set" := ⟨_, gS, rfl⟩
      have gli := F.called_set.init.lookup
      have gbi := F.called_set.init.bind (.ref st.heap.objs.size)
      repeat (any_goals (first | assumption | wp_step))

      refine codeAny_mono (codeAny_call_builtin (R := wants (fun rr st2 => rr = .none ∧ ∃ hp' tq cc, st2 = { st with heap := hp', toks := tq } ∧ SetM P w hp' st.heap.objs.size (fun j => decide (j ∈ ks)) cc ∧ cc ≤ ks.length ∧
          (∀ bq oq, st.heap.get? bq = some oq → hp'.get? bq = some oq)) E) F.called_set.init.plain F.entry_set_init (check_set_init_1 gT0 ?_)) fun rz st2 hrz => ?_
      · obtain ⟨tob, gtob, gcl, tn, gdl⟩ := lt0
        obtain ⟨tc, td, te, tf⟩ := tob
        simp only at gcl gdl
        subst gcl; subst gdl
        have gtob' : (st.heap.push { cls := .type "set", dict := none, data := .set #[] 0 (.fresh 0 0 (!w.params.followText "set-order")) }).get? lp = some { cls := .type "list", dict := td, data := .seq its tn, slots := tf } := Heap.get?_push_of_some _ gtob
        have sb1 := F.sub_list_set
        have sb2 := F.sub_list_frozenset
        have dne : (Value.type "list" == Value.type "dict") = false := by decide
        have tup1 : (st.heap.push { cls := .type "set", dict := none, data := .set #[] 0 (.fresh 0 0 (!w.params.followText "set-order")) }).IsList lp its := ⟨_, gtob', rfl, tn, rfl⟩
        unfold Builtin.«set.__init__» noKeywords Builtin.Frozenset.updateFrom
        generalize gPI : pyIter = PIt
        wp_walk
        subst gPI

        refine wpAny_pyIter_list tup1 ?_
        refine wpAny_bind (wpAny_runValue ?_)
        have lS : lp < st.heap.objs.size := Heap.lt_size gtob
        have hc3 : A.in1.in1.in1.handled = none := by simp [hc]
        have size1 : (st.heap.push { cls := .type "set", dict := none, data := .set #[] 0 (.fresh 0 0 (!w.params.followText "set-order")) }).objs.size = st.heap.objs.size + 1 := Heap.size_push ..
        have neI : lp ≠ (st.heap.push { cls := .type "set", dict := none, data := .set #[] 0 (.fresh 0 0 (!w.params.followText "set-order")) }).objs.size := by
          rw [Heap.size_push]; exact Nat.ne_of_lt (Nat.lt_succ_of_lt lS)
        have nSf : st.heap.objs.size ∉ [(st.heap.push { cls := .type "set", dict := none, data := .set #[] 0 (.fresh 0 0 (!w.params.followText "set-order")) }).objs.size, lp] := by
          rw [Heap.size_push]; simp only [List.mem_cons, List.mem_singleton, List.not_mem_nil, or_false, not_or]
          exact ⟨Nat.ne_of_lt (Nat.lt_succ_self _), Nat.ne_of_gt lS⟩
        have vals : ∀ (ix : Nat) (vv : Value), its[ix]? = some vv → ∃ kk, ks[ix]? = some kk ∧ RelV (kV kk) vv := fun ix vv hvv => keys_val ri (by rw [Array.getElem?_toList]; exact hvv)
        refine set_update_keys ((Walks.list hc3 _ lp neI its).toS) st.heap.objs.size
          nSf ks isz room vals (its.size - 0) 0 _ (by omega) (Nat.zero_le _)
          ⟨⟨_, Heap.get?_push_size _ rfl, rfl, rfl⟩, (tup1.push _)⟩ ?gS0 ?gR
        case gS0 =>
          have gget : ((st.heap.push { cls := .type "set", dict := none, data := .set #[] 0 (.fresh 0 0 (!w.params.followText "set-order")) }).push { cls := .type "list_iterator", data := .fields #[.ref lp, .int 0 0] }).get? st.heap.objs.size
              = some { cls := .type "set", dict := none, data := .set #[] 0 (.fresh 0 0 (!w.params.followText "set-order")) } := Heap.get?_push_of_some _ gS
          exact ⟨0, Nat.le_refl 0, setM_new_at gget⟩
        case gR =>
          intro st' cc' mv hcc' gS'
          obtain ⟨hp', gn, dr', tq', os2⟩ := st'
          have e1 : gn = st.gens := mv.gens
          have e2 : dr' = st.drawn := mv.drawn
          have e3 : os2 = st.os := mv.os
          subst e1; subst e2; subst e3
          show wpAny _ _ _ _ _ _
          refine wpAny_pure ?_
          show wpAny _ _ (ret Value.none) _ _ _
          rw [isz] at hcc'
          refine wpAny_pure ⟨rfl, hp', tq', cc', rfl, gS', hcc', fun bq oq ee => ?_⟩
          have bq0 : bq < st.heap.objs.size := Heap.lt_size ee
          have bq1 : bq ≠ st.heap.objs.size := Nat.ne_of_lt bq0
          have bq2 : bq ≠ (st.heap.push { cls := .type "set", dict := none, data := .set #[] 0 (.fresh 0 0 (!w.params.followText "set-order")) }).objs.size := by
            rw [Heap.size_push]; exact Nat.ne_of_lt (Nat.lt_succ_of_lt bq0)
          exact mv.heap bq oq (by simp only [List.mem_cons, List.mem_singleton, List.not_mem_nil, or_false, not_or]; exact ⟨bq1, bq2⟩) (Heap.get?_push_of_some _ (Heap.get?_push_of_some _ ee))

      · cases rz with
        | error ee => exact hrz
        | ok fz =>
          cases fz with
          | ret rr =>
            obtain ⟨rfl, hp', tq, cc', rfl, gS', hcc', keep'⟩ := hrz
            repeat (any_goals (first | assumption | wp_step))
            exact go _ _ _ gS' hcc' keep'
          | _ => exact hrz.elim
    | _ => exact hrr.elim
end
end Pv
end
section
set_option maxHeartbeats 3200000
/-! P38: the sorted members of a set. -/
namespace Pv
open PySem PySem.Spec PyProof.Rows L2
section
variable {P : Program} {w : World}

/-! ### the sorted members -/
theorem beqD {A : Type} [DecidableEq A] [BEq A] [LawfulBEq A] (a b : A) : (a == b) = decide (a = b) := by
  by_cases h : a = b
  · simp [h]
  · simp [h]
theorem keys_eqv (a b : Key) : (kD a).eqv (kD b) = decide (a = b) := by
  cases a <;> cases b <;> simp [kD, PyData.eqv, beqD]
def onceK (ks : List Key) : List Key := ks.foldl (fun a x => if decide (x ∈ a) then a else a ++ [x]) []
theorem onceK_go : ∀ (ks acc : List Key), (ks.map kD).foldl (fun a x => if a.any (fun y => y.eqv x) then a else a ++ [x]) (acc.map kD) = (ks.foldl (fun a x => if decide (x ∈ a) then a else a ++ [x]) acc).map kD
  | [], acc => rfl
  | k :: ks, acc => by
    have e : (acc.map kD).any (fun y => y.eqv (kD k)) = decide (k ∈ acc) := by
      rw [List.any_map]
      rw [Bool.eq_iff_iff]
      simp only [List.any_eq_true, Function.comp, keys_eqv, decide_eq_true_eq]
      exact ⟨fun ⟨x, m, e⟩ => e ▸ m, fun m => ⟨k, m, rfl⟩⟩
    simp only [List.map_cons, List.foldl_cons]
    rw [e]
    by_cases c : k ∈ acc
    · simp only [c, decide_true, if_true]
      exact onceK_go ks acc
    · simp only [c, decide_false, Bool.false_eq_true, if_false]
      have := onceK_go ks (acc ++ [k])
      rw [List.map_append] at this
      exact this
theorem onceK_eq (ks : List Key) : onceL (ks.map kD) = (onceK ks).map kD := onceK_go ks []
theorem onceK_spec : ∀ (ks acc : List Key), acc.Nodup → (ks.foldl (fun a x => if decide (x ∈ a) then a else a ++ [x]) acc).Nodup ∧ ∀ k, k ∈ ks.foldl (fun a x => if decide (x ∈ a) then a else a ++ [x]) acc ↔ k ∈ acc ∨ k ∈ ks
  | [], acc, h => ⟨h, fun k => by simp⟩
  | x :: ks, acc, h => by
    simp only [List.foldl_cons]
    by_cases c : x ∈ acc
    · simp only [c, decide_true, if_true]
      obtain ⟨h1, h2⟩ := onceK_spec ks acc h
      refine ⟨h1, fun k => (h2 k).trans ?_⟩
      simp only [List.mem_cons]
      exact ⟨fun z => z.imp id .inr, fun z => z.elim .inl fun z => z.elim (fun e => .inl (e ▸ c)) .inr⟩
    · simp only [c, decide_false, Bool.false_eq_true, if_false]
      obtain ⟨h1, h2⟩ := onceK_spec ks (acc ++ [x]) (by
        rw [List.nodup_append]
        exact ⟨h, by simp, fun a ha b hb e => by simp at hb; subst hb; subst e; exact c ha⟩)
      refine ⟨h1, fun k => (h2 k).trans ?_⟩
      simp only [List.mem_append, List.mem_cons, List.not_mem_nil, or_false]
      exact or_assoc
theorem le_anti (a b : Key) (h1 : W.dataLe false kD a b = true) (h2 : W.dataLe false kD b a = true) : a = b := by
  have e : W.keyToks (kD a) = W.keyToks (kD b) := by
    refine (listOrd itemOrd).total _ _ ?_ ?_
    · simpa [W.dataLe, W.sortLe] using h2
    · simpa [W.dataLe, W.sortLe] using h1
  cases a with
  | inl i => cases b with
    | inl j => simp [kD, W.keyToks] at e; rw [e]
    | inr y => simp [kD, W.keyToks] at e
  | inr x => cases b with
    | inl j => simp [kD, W.keyToks] at e
    | inr y =>
      simp [kD, W.keyToks] at e
      rw [W.str_of_cps (x := x) (y := y) (by simpa using e)]
theorem sort_keys_eq {l m : List Key} (h : l.Perm m) : l.mergeSort (W.dataLe false kD) = m.mergeSort (W.dataLe false kD) := by
  have T := W.sortLe_total (listOrd itemOrd) false fun b : Key => W.keyToks (kD b)
  refine List.Perm.eq_of_pairwise (le := fun a b => W.dataLe false kD a b = true) (fun a b _ _ => le_anti a b) (List.pairwise_mergeSort (fun a b c => T.trans a b c) (fun a b => by have := T.total a b; simpa [W.dataLe] using this) l) (List.pairwise_mergeSort (fun a b c => T.trans a b c) (fun a b => by have := T.total a b; simpa [W.dataLe] using this) m) ?_
  exact (List.mergeSort_perm l _).trans (h.trans (List.mergeSort_perm m _).symm)
theorem sset_eq {l ks : List Key} (nd : l.Nodup) (hm : ∀ k, k ∈ l ↔ k ∈ ks) : (l.mergeSort (W.dataLe false kD)).map kD = sortL (onceL (ks.map kD)) := by
  obtain ⟨n1, m1⟩ := onceK_spec ks [] List.nodup_nil
  have p : l.Perm (onceK ks) := (List.perm_ext_iff_of_nodup nd n1).mpr fun k => (hm k).trans ((by simp : k ∈ ks ↔ k ∈ [] ∨ k ∈ ks).trans (m1 k).symm)
  rw [sort_keys_eq p, onceK_eq]
  have := W.sort_maps (r := W.dataLe false kD) (s := W.dataLe false id) kD (l := onceK ks) fun a _ b _ => rfl
  rw [this]
  rfl
/-- the set at ad, in the tracked heap -/

def SetMO (P : Program) (w : World) (ad : Addr) (M : Key → Bool) (cnt : Nat) : HO := .ext fun hp => SetM P w hp ad M cnt
end
section
variable {X : Cx}
theorem setMO_new {P : Program} {w : World} {H : Hp} {hp : Heap} {ad : Addr} {M : Key → Bool} {cnt : Nat} (R : SetM P w hp ad M cnt) : ObjOk P w H hp ad (SetMO P w ad M cnt) := by
  have ⟨o, _, _, _, go, _⟩ := R
  exact ⟨R, ⟨o, go⟩, fun _ _ p k => SetM.at p k⟩
theorem tup_of {h : Heap} {a : Addr} {its : Array Value} (p : IsTup h a its) : h.IsTuple a its := by
  obtain ⟨o, h1, h2, n, h3⟩ := p
  exact ⟨o, h1, h2, n, h3⟩
def rSetM (K : Fg) (P : Program) (w : World) : List V → Hp → VK → Prop := fun xs H Q => ∃ (l : Addr) (ks : List Key), xs = [V.ref l] ∧ (SqL K H l (ks.map kV) ∨ SqT K H l (ks.map kV)) ∧ ks.length + 1 < scanBound ∧
  ∀ b n, n ≤ ks.length → H b = none → Q (.ref b) (upd H b (SetMO P w b (fun j => decide (j ∈ ks)) n))
theorem cr_setM (hc : X.calm = true) : CallR X (.type "set") (rSetM X.K X.prog X.w) := by
  intro pins s σ H xs us Q I r h
  obtain ⟨l, ks, rfl, hl, room, q⟩ := h
  rw [Vals.ref1 r]
  have hn : H s.heap.objs.size = none := I.hok.fresh (Nat.le_refl _)
  rcases hl with hl | hl
  · obtain ⟨its, rv, pl, hz⟩ := I.list hl
    exact call_set_listM ks (I.ok.hd hc) pl.isList (by simpa using rv) room fun h' tk c R hcl k => ⟨.ref _, upd H s.heap.objs.size _, I.laid (t' := tk) k (Nat.le_refl _) (setMO_new R), rfl, q _ c hcl hn⟩
  · obtain ⟨its, rv, pl, hz⟩ := I.tuple hl
    exact call_set_tupM ks (I.ok.hd hc) (tup_of pl) (by simpa using rv) room fun h' tk c R hcl k => ⟨.ref _, upd H s.heap.objs.size _, I.laid (t' := tk) k (Nat.le_refl _) (setMO_new R), rfl, q _ c hcl hn⟩
def rSortedM (P : Program) (w : World) : List V → Hp → VK → Prop := fun xs H Q => ∃ (b : Addr) (ks : List Key) (n : Nat), xs = [V.ref b] ∧ H b = some (SetMO P w b (fun j => decide (j ∈ ks)) n) ∧ sortOk (ks.map kD) = true ∧
  ∀ (out : List Key) p, out.map kD = sortL (onceL (ks.map kD)) → H p = none → Q (.ref p) (upd H p (.lst (out.map kV)))
theorem keyM_each {P : Program} {w : World} : ∀ {l : List (Int × Value)}, (∀ e ∈ l, GoodM P w e) → ∀ v ∈ l.map (·.2), ∃ k, RelV (kV k) v := fun hl v hv => by
  obtain ⟨e, he, rfl⟩ := List.mem_map.mp hv
  obtain ⟨k, r, _⟩ := hl e he
  exact ⟨k, r⟩
def vKey (v : Value) : Key := keyM (0, v)
theorem vals_keys : ∀ (vs : List Value), (∀ v ∈ vs, ∃ k, RelV (kV k) v) → Vals ((vs.map vKey).map kV) vs
  | [], _ => .nil
  | v :: vs, h => by
    obtain ⟨k, r⟩ := h v List.mem_cons_self
    have e : vKey v = k := keyM_of r
    refine .cons ?_ (vals_keys vs fun u hu => h u (List.mem_cons_of_mem _ hu))
    rw [e]
    exact r
theorem sortable_sub {l m : List D} (h : ∀ d ∈ l, d ∈ m) (z : W.Sortable m) : W.Sortable l := z.imp (fun f d hd => f d (h d hd)) fun f d hd => f d (h d hd)
theorem cr_sortedM (hc : X.calm = true) (hu : X.A.units + 64 < cLine) : CallR X (.builtin "sorted") (rSortedM X.prog X.w) := by
  intro pins s σ H xs us Q I r h
  obtain ⟨b, ks, n, rfl, hb, gs, q⟩ := h
  rw [Vals.ref1 r]
  obtain ⟨ob, es, ep, tb, go, gx, gd, gg, uq, mm, bb, ff, nn, rr, ll⟩ := (show SetM X.prog X.w s.heap b (fun j => decide (j ∈ ks)) n from (I.hok b _ hb).1)
  obtain ⟨g1, g2, g3, g4⟩ := sort_of gs
  refine Calls.call_function_entry PyProof.Rows.kind_sorted PyProof.Rows.plain_sorted PyProof.Rows.entry_sorted (PyProof.Rows.args_sorted1 _) ?_
  unfold Builtin.«sorted»
  refine wpAny_bind (m := checkCount "sorted" 1 1 _) (wpAny_pure ?_)
  refine wpAny_bind (collect_set (A := X.A.in1) (I.ok.hd hc) ⟨ob, go, gx.1, gd⟩ ff bb rr ll fun s1 vs k1 hz e1 e2 pm => ?_)
  have hvl : vs.length = es.size := by rw [pm.length_eq, List.length_map, Array.length_toList]
  have each : ∀ v ∈ vs, ∃ k, RelV (kV k) v := fun v hv => keyM_each gg v (pm.mem_iff.mp hv)
  have rv := vals_keys vs each
  have ea := each_keys rv
  have pk : (vs.map vKey).Perm (es.toList.map keyM) := by
    have z := pm.map vKey
    rw [List.map_map] at z
    exact z
  have ndk := pk.nodup_iff.mpr uq
  have mk : ∀ k, k ∈ vs.map vKey ↔ k ∈ ks := fun k => by rw [pk.mem_iff, ← mm k, decide_eq_true_eq]
  have hmem : ∀ d ∈ (vs.map vKey).map kD, d ∈ ks.map kD := fun d hd => by
    obtain ⟨k, hk, rfl⟩ := List.mem_map.mp hd
    exact List.mem_map.mpr ⟨k, (mk k).mp hk, rfl⟩
  have a1 : W.AllAlike ((vs.map vKey).map kD) := fun x hx y hy => g1 x (hmem x hx) y (hmem y hy)
  have a2 : W.Sortable ((vs.map vKey).map kD) := sortable_sub hmem g2
  have hsl : vs.length ≤ sizeLine := by
    rw [hvl]
    exact fits_of_scanBound bb
  refine wpAny_bind (wpAny_newList ?_ hsl)
  have hoL : (s1.heap.push (seqObj "list" vs.toArray 0)).get? s1.heap.objs.size = some (seqObj "list" vs.toArray 0) := Heap.get?_push_size _ rfl
  refine wpAny_bind (wpAny_holding (W.list_sort_data (A := X.A.in1) (s := { s1 with heap := s1.heap.push (seqObj "list" vs.toArray 0) }) (vs := vs) (bs := vs.map vKey) (enc := kD) hoL ea (ea.mono fun v k q => ⟨[], key_reads q, by simp⟩) a1 a2
    (by rw [List.length_map]; exact hsl) (fun k hk => ?_) fun out ho eo => ?_))
  · have := g4 (kD k) (hmem _ (List.mem_map.mpr ⟨k, hk, rfl⟩))
    show X.A.units + 1 + 1 + (kD k).depth < cLine
    omega
  · have v2 := keys_each eo
    obtain ⟨e', he'⟩ := PyProof.Rows.sortedHeap_at (vs := vs) (out := out.toArray) hoL
    have hlw : (((vs.map vKey).mergeSort (W.dataLe false kD)).map kV).length ≤ sizeLine := by
      rw [List.length_map, List.length_mergeSort, List.length_map]
      exact hsl
    have hp : H s1.heap.objs.size = none := I.hok.fresh hz
    have kk : ∀ c u, s.heap.get? c = some u → (sortedHeap (s1.heap.push (seqObj "list" vs.toArray 0)) s1.heap.objs.size vs out.toArray).get? c = some u := fun c u e => by
      have e := k1 c u e
      have hb : c < s1.heap.objs.size := Heap.lt_size e
      rw [PyProof.Rows.sortedHeap_old (Nat.ne_of_lt hb) (by rw [size_push']; exact Nat.lt_succ_of_lt hb)]
      exact Heap.get?_push_of_some _ e
    have J : Inv X pins σ (upd H s1.heap.objs.size (.lst (((vs.map vKey).mergeSort (W.dataLe false kD)).map kV))) { s with heap := sortedHeap (s1.heap.push (seqObj "list" vs.toArray 0)) s1.heap.objs.size vs out.toArray, gens := s1.gens, drawn := s1.drawn, toks := s1.toks } :=
      I.call (ch := []) (Un.laid kk hz hp) (I.hok.laid kk hz ⟨hlw, out, e', v2, he'⟩) (by rw [e1]; exact I.bare) (fun _ z => nomatch z)
    refine wpAny_pure ⟨_, rfl, .ref s1.heap.objs.size, _, ?_, rfl, q _ _ (sset_eq ndk mk) hp⟩
    have e : ({ s1 with heap := sortedHeap (s1.heap.push (seqObj "list" vs.toArray 0)) s1.heap.objs.size vs out.toArray } : Shared) = { s with heap := sortedHeap (s1.heap.push (seqObj "list" vs.toArray 0)) s1.heap.objs.size vs out.toArray, gens := s1.gens, drawn := s1.drawn, toks := s1.toks } := by
      cases s1
      cases s
      cases e2
      rfl
    exact e ▸ J
end
end Pv
end
section
/-! P7: the state that the evaluator speaks of, steps, values that wait. -/
namespace Pv
open PySem PySem.Spec PyProof.Rows L2

/-! ### outcomes -/
def wp {A : Type} (o : Out A) (Q : A → Prop) (E : Str → D → Prop) : Prop :=
  match o with
  | .ok a => Q a
  | .exc c d => E c d
  | .bad => False
section
variable {A B : Type} {Q Q' : A → Prop} {Z : Str → D → Prop}
@[simp] theorem wp_ok {a : A} : wp (.ok a) Q Z = Q a := rfl
@[simp] theorem wp_exc {c : Str} {d : D} : wp (.exc c d : Out A) Q Z = Z c d := rfl
@[simp] theorem wp_bad : wp (.bad : Out A) Q Z = False := rfl
theorem wp_bind {x : Out A} {f : A → Out B} {R : B → Prop} : wp (x.bind f) R Z = wp x (fun a => wp (f a) R Z) Z := by cases x <;> rfl
theorem wp_when {b : Bool} {a : A} : wp (.when b a) Q Z ↔ b = true ∧ Q a := by
  cases b
  · exact ⟨fun h => h.elim, fun h => by cases h.1⟩
  · exact ⟨fun h => ⟨rfl, h⟩, fun h => h.2⟩
theorem wp.imp {x : Out A} (h : wp x Q Z) (k : ∀ a, Q a → Q' a) : wp x Q' Z := by
  cases x with
  | ok a => exact k a h
  | exc c d => exact h
  | bad => exact h
/-- an outcome that is no exception -/
def NoX (x : Out A) : Prop := ∀ c d, x ≠ .exc c d
theorem wp.get {x : Out A} (h : wp x Q Z) (n : NoX x) : ∃ a, x = .ok a ∧ Q a := by
  cases x with
  | ok a => exact ⟨a, rfl, h⟩
  | exc c d => exact absurd rfl (n c d)
  | bad => exact h.elim
theorem NoX.ok {a : A} : NoX (.ok a) := fun _ _ z => by cases z
theorem NoX.bad : NoX (.bad : Out A) := fun _ _ z => by cases z
theorem NoX.when {b : Bool} {a : A} : NoX (.when b a) := by
  cases b
  · exact NoX.bad
  · exact NoX.ok
theorem NoX.bind {x : Out A} {f : A → Out B} (h : NoX x) (k : ∀ a, NoX (f a)) : NoX (x.bind f) := by
  cases x with
  | ok a => exact k a
  | exc c d => exact absurd rfl (h c d)
  | bad => exact NoX.bad
end

/-! ### objects that may be owned -/
def isLD : HO → Bool
  | .lst _ => true
  | .dK _ => true
  | .dT _ => true
  | .ext _ => true
  | _ => false
section
variable {K : Fg} {H H' : Hp} {B B' no : No}
mutual
theorem Ow.ld : ∀ (n : Nat) (d : D) (v : V) (as : List Addr), Ow K H no n d v as → ∀ a ∈ as, ∃ o, H a = some o ∧ isLD o = true
  | 0, d, v, as, h, a, ha => by
    rw [(Ow.zero.mp h).1] at ha
    cases ha
  | n + 1, .list ds, v, as, h, a, ha => by
    simp only [Ow] at h
    obtain ⟨b, xs, bs, e, h1, e2, h2⟩ := h
    subst e2
    rcases List.mem_cons.mp ha with rfl | ha
    · exact ⟨_, h1, rfl⟩
    · exact OwL.ld n ds xs bs h2 a ha
  | n + 1, .tuple ds, v, as, h, a, ha => by
    simp only [Ow] at h
    rw [h.1] at ha
    cases ha
  | n + 1, .dict kvs, v, as, h, a, ha => by
    simp only [Ow] at h
    obtain ⟨b, bs, e, e2, h⟩ := h
    subst e2
    rcases List.mem_cons.mp ha with rfl | ha
    · rcases h with ⟨es, h1, h2⟩ | ⟨es, h1, h2⟩
      · exact ⟨_, h1, rfl⟩
      · exact ⟨_, h1, rfl⟩
    · rcases h with ⟨es, h1, h2⟩ | ⟨es, h1, h2⟩
      · exact OwK.ld n kvs es bs h2 a ha
      · exact OwT.ld n kvs es bs h2 a ha
  | n + 1, .none, v, as, h, a, ha => by simp only [Ow] at h; rw [h.1] at ha; cases ha
  | n + 1, .bool b, v, as, h, a, ha => by simp only [Ow] at h; rw [h.1] at ha; cases ha
  | n + 1, .int i, v, as, h, a, ha => by simp only [Ow] at h; rw [h.1] at ha; cases ha
  | n + 1, .str x, v, as, h, a, ha => by simp only [Ow] at h; rw [h.1] at ha; cases ha
theorem OwL.ld : ∀ (n : Nat) (ds : List D) (vs : List V) (as : List Addr), OwL K H no n ds vs as → ∀ a ∈ as, ∃ o, H a = some o ∧ isLD o = true
  | n, [], vs, as, h, a, ha => by simp only [OwL] at h; rw [h.2] at ha; cases ha
  | n, d :: ds, vs, as, h, a, ha => by
    simp only [OwL] at h
    obtain ⟨v, r, bs, cs, e, e2, h1, h2⟩ := h
    subst e2
    rcases List.mem_append.mp ha with ha | ha
    · exact Ow.ld n d v bs h1 a ha
    · exact OwL.ld n ds r cs h2 a ha
theorem OwK.ld : ∀ (n : Nat) (ds : List (D × D)) (vs : List (Key × V)) (as : List Addr), OwK K H no n ds vs as → ∀ a ∈ as, ∃ o, H a = some o ∧ isLD o = true
  | n, [], vs, as, h, a, ha => by simp only [OwK] at h; rw [h.2] at ha; cases ha
  | n, (k, d) :: ds, vs, as, h, a, ha => by
    simp only [OwK] at h
    obtain ⟨q, v, r, bs, cs, e, e1, e2, h1, h2⟩ := h
    subst e2
    rcases List.mem_append.mp ha with ha | ha
    · exact Ow.ld n d v bs h1 a ha
    · exact OwK.ld n ds r cs h2 a ha
theorem OwT.ld : ∀ (n : Nat) (ds : List (D × D)) (vs : List (List Key × V)) (as : List Addr), OwT K H no n ds vs as → ∀ a ∈ as, ∃ o, H a = some o ∧ isLD o = true
  | n, [], vs, as, h, a, ha => by simp only [OwT] at h; rw [h.2] at ha; cases ha
  | n, (k, d) :: ds, vs, as, h, a, ha => by
    simp only [OwT] at h
    obtain ⟨q, v, r, bs, cs, e, e1, e2, h1, h2⟩ := h
    subst e2
    rcases List.mem_append.mp ha with ha | ha
    · exact Ow.ld n d v bs h1 a ha
    · exact OwT.ld n ds r cs h2 a ha
end
/-- one storey owned at most: to be read, all bans in force -/
theorem Ow.rt1 {n : Nat} (hn : n ≤ 1) {d : D} {v : V} {as : List Addr} (h : Ow K H no n d v as) : Rt K H no d v := by
  match n, hn with
  | 0, _ => exact (Ow.zero.mp h).2.rt
  | 1, _ =>
    cases d <;> simp only [Ow] at h
    · exact h.2
    · exact h.2
    · exact h.2
    · exact h.2
    · obtain ⟨a, xs, bs, e, h1, _, h2⟩ := h
      exact ⟨a, xs, e, .of h1, (OwL.zero.mp h2).2⟩
    · exact h.2
    · obtain ⟨a, bs, e, _, h⟩ := h
      refine ⟨a, e, ?_⟩
      rcases h with ⟨es, h1, h2⟩ | ⟨es, h1, h2⟩
      · exact .inl ⟨es, .inl h1, (OwK.zero.mp h2).2⟩
      · exact .inr ⟨es, .inl h1, (OwT.zero.mp h2).2⟩
/-- all bans forgotten -/
theorem Ow.rp0 {n : Nat} {d : D} {v : V} {as : List Addr} (h : Ow K H no n d v as) : Rp K H (fun _ => False) d v := Ow.rp n d v as (fun _ z => z.elim) (fun _ _ z => z) h
end

/-! ### the state -/
abbrev AsT := Nat → List Addr
structure Good (K : Fg) (lv : List Nat) (σ : Sg) (H : Hp) (r : Env) (B : No) (As : AsT) : Prop where
  slot : ∀ i d, r[i]? = some (some d) → ∃ v, σ[i]? = some (some v) ∧ Ow K H B (lv.getD i 0) d v (As i)
  off : ∀ i, (∀ d, r[i]? ≠ some (some d)) → As i = []
  nd : ∀ i, (As i).Nodup
  dj : ∀ i j a, i ≠ j → a ∈ As i → a ∉ As j
  ban : ∀ i a, a ∈ As i → B a
  bin : ∀ a, B a → ∃ o, H a = some o ∧ isLD o = true
  len : r.length = σ.length
structure Stp (W : Nat → Prop) (H : Hp) (B : No) (As : AsT) (H' : Hp) (B' : No) (As' : AsT) : Prop where
  keep : ∀ a o, H a = some o → (∀ i, W i → a ∉ As i) → H' a = some o
  ban : ∀ a, B' a → B a ∨ H a = none
  hold : ∀ a, B a → (∀ i, W i → a ∉ As i) → B' a
  frm : ∀ i, W i → ∀ a ∈ As' i, (∃ j, W j ∧ a ∈ As j) ∨ H a = none
  same : ∀ i, ¬ W i → As' i = As i
/-- where a value's own objects come from -/
def Src (W : Nat → Prop) (H : Hp) (As : AsT) (a : Addr) : Prop := H a = none ∨ ∃ i, W i ∧ a ∈ As i
structure Val (K : Fg) (H : Hp) (B : No) (As : AsT) (src : No) (al : List Nat) (n : Nat) (d : D) (v : V) (as : List Addr) : Prop where
  ow : Ow K H B n d v as
  nd : as.Nodup
  ban : ∀ a ∈ as, B a
  own : al = [] → ∀ a ∈ as, src a ∧ ∀ i, a ∉ As i
  bor : al ≠ [] → ∀ a ∈ as, ∃ i ∈ al, a ∈ As i
abbrev ofL (l : List Nat) : Nat → Prop := fun i => i ∈ l
section
variable {K : Fg} {lv : List Nat} {σ : Sg} {H H' H'' : Hp} {r r' : Env} {B B' B'' : No} {As As' As'' : AsT} {W W' : Nat → Prop}
theorem Good.noin (G : Good K lv σ H r B As) : NoIn H B := fun a z => let ⟨o, e, _⟩ := G.bin a z; ⟨o, e⟩
theorem Good.here (G : Good K lv σ H r B As) {i : Nat} {a : Addr} (h : a ∈ As i) : ∃ o, H a = some o := let ⟨o, e, _⟩ := G.bin a (G.ban i a h); ⟨o, e⟩
theorem Good.new (G : Good K lv σ H r B As) {a : Addr} (h : H a = none) : ¬ B a := fun z => by
  obtain ⟨o, e, _⟩ := G.bin a z
  rw [h] at e
  cases e
theorem Stp.refl : Stp W H B As H B As where
  keep := fun _ _ e _ => e
  ban := fun _ z => .inl z
  hold := fun _ z _ => z
  frm := fun i w a h => .inl ⟨i, w, h⟩
  same := fun _ _ => rfl
theorem Stp.wide (h : Stp W H B As H' B' As') (k : ∀ i, W i → W' i) : Stp W' H B As H' B' As' where
  keep := fun a o e n => h.keep a o e fun i w => n i (k i w)
  ban := h.ban
  hold := fun a z n => h.hold a z fun i w => n i (k i w)
  frm := fun i w a ha => by
    by_cases c : W i
    · exact (h.frm i c a ha).imp (fun ⟨j, wj, hj⟩ => ⟨j, k j wj, hj⟩) id
    · rw [h.same i c] at ha
      exact .inl ⟨i, w, ha⟩
  same := fun i w => h.same i fun c => w (k i c)
theorem Stp.src (h : Stp W H B As H' B' As') {a : Addr} (hs : Src W' H' As' a) : Src (fun i => W i ∨ W' i) H As a := by
  rcases hs with z | ⟨i, w, z⟩
  · cases e : H a with
    | none => exact .inl e
    | some o =>
      refine .inr ?_
      by_cases c : ∃ i, W i ∧ a ∈ As i
      · obtain ⟨i, w, m⟩ := c
        exact ⟨i, .inl w, m⟩
      · have := h.keep a o e fun i w m => c ⟨i, w, m⟩
        rw [z] at this
        cases this
  · by_cases c : W i
    · rcases h.frm i c a z with ⟨j, w2, m⟩ | e
      · exact .inr ⟨j, .inl w2, m⟩
      · exact .inl e
    · rw [h.same i c] at z
      exact .inr ⟨i, .inr w, z⟩
theorem Stp.trans (G : Good K lv σ H r B As) (h : Stp W H B As H' B' As') (k : Stp W' H' B' As' H'' B'' As'') : Stp (fun i => W i ∨ W' i) H B As H'' B'' As'' where
  keep := fun a o e n => by
    refine k.keep a o (h.keep a o e fun i w => n i (.inl w)) fun i w m => ?_
    by_cases c : W i
    · rcases h.frm i c a m with ⟨j, w2, m⟩ | z
      · exact n j (.inl w2) m
      · rw [e] at z
        cases z
    · rw [h.same i c] at m
      exact n i (.inr w) m
  ban := fun a z => by
    rcases k.ban a z with z | z
    · exact h.ban a z
    · cases e : H a with
      | none => exact .inr rfl
      | some o =>
        by_cases c : B a
        · exact .inl c
        · exfalso
          have := h.keep a o e fun i w m => c (G.ban i a m)
          rw [z] at this
          cases this
  hold := fun a z n => by
    refine k.hold a (h.hold a z fun i w => n i (.inl w)) fun i w m => ?_
    by_cases c : W i
    · rcases h.frm i c a m with ⟨j, w2, m⟩ | e
      · exact n j (.inl w2) m
      · obtain ⟨o, e2, _⟩ := G.bin a z
        rw [e] at e2
        cases e2
    · rw [h.same i c] at m
      exact n i (.inr w) m
  frm := fun i w a m => by
    have hs : Src (fun i => W i ∨ W' i) H As a := by
      by_cases c : W' i
      · rcases k.frm i c a m with ⟨j, w2, m⟩ | e
        · exact h.src (.inr ⟨j, w2, m⟩)
        · exact h.src (W' := W') (.inl e)
      · rw [k.same i c] at m
        have : W i := w.elim id fun z => absurd z c
        rcases h.frm i this a m with ⟨j, w2, m⟩ | e
        · exact .inr ⟨j, .inl w2, m⟩
        · exact .inl e
    rcases hs with e | ⟨j, w, m⟩
    · exact .inr e
    · exact .inl ⟨j, w, m⟩
  same := fun i w => by rw [k.same i fun z => w (.inr z), h.same i fun z => w (.inl z)]
/-- what lies in other heaps grown from this one -/
theorem Stp.same' (s : Same H H') (f : ∀ a, B' a → B a ∨ H a = none) (g : ∀ a, B a → B' a) : Stp W H B As H' B' As where
  keep := fun a o e _ => s a o e
  ban := f
  hold := fun a z _ => g a z
  frm := fun i w a h => .inl ⟨i, w, h⟩
  same := fun _ _ => rfl
theorem Good.kp (G : Good K lv σ H r B As) (s : Stp W H B As H' B' As') : Kp H H' B B' where
  keep := fun a o e n => s.keep a o e fun i _ m => n (G.ban i a m)
  ban := s.ban
/-- new objects, more bans -/
theorem Good.grow (G : Good K lv σ H r B As) {as : List Addr} (s : Same H H') (f : ∀ a ∈ as, H a = none) (l : ∀ a ∈ as, ∃ o, H' a = some o ∧ isLD o = true) : Good K lv σ H' r (fun a => a ∈ as ∨ B a) As where
  slot := fun i d e => by
    obtain ⟨v, e2, h⟩ := G.slot i d e
    exact ⟨v, e2, Ow.kp ⟨fun a o e _ => s a o e, fun a z => z.elim (fun z => .inr (f a z)) .inl⟩ _ d v _ (fun a o _ e => s a o e) h⟩
  off := G.off
  nd := G.nd
  dj := G.dj
  ban := fun i a h => .inr (G.ban i a h)
  bin := fun a z => z.elim (l a) fun z => let ⟨o, e, q⟩ := G.bin a z; ⟨o, s a o e, q⟩
  len := G.len
theorem Val.step (G : Good K lv σ H r B As) {src : No} {al : List Nat} {n : Nat} {d : D} {v : V} {as : List Addr} (x : Val K H B As src al n d v as) (s : Stp W H B As H' B' As') (k : ∀ i ∈ al, ¬ W i) : Val K H' B' As' src al n d v as where
  ow := by
    refine Ow.kp (G.kp s) n d v as (fun a o ha e => s.keep a o e fun i w m => ?_) x.ow
    by_cases c : al = []
    · exact (x.own c a ha).2 i m
    · obtain ⟨j, hj, m2⟩ := x.bor c a ha
      exact G.dj j i a (fun e => k j hj (e ▸ w)) m2 m
  nd := x.nd
  ban := fun a ha => s.hold a (x.ban a ha) fun i w m => by
    by_cases c : al = []
    · exact (x.own c a ha).2 i m
    · obtain ⟨j, hj, m2⟩ := x.bor c a ha
      exact G.dj j i a (fun e => k j hj (e ▸ w)) m2 m
  own := fun c a ha => ⟨(x.own c a ha).1, fun i m => by
    by_cases w : W i
    · rcases s.frm i w a m with ⟨j, _, m⟩ | e
      · exact (x.own c a ha).2 j m
      · obtain ⟨o, e2, _⟩ := G.bin a (x.ban a ha)
        rw [e] at e2
        cases e2
    · rw [s.same i w] at m
      exact (x.own c a ha).2 i m⟩
  bor := fun c a ha => by
    obtain ⟨j, hj, m2⟩ := x.bor c a ha
    exact ⟨j, hj, by rw [s.same j (k j hj)]; exact m2⟩
theorem Val.src {src src' : No} {al : List Nat} {n : Nat} {d : D} {v : V} {as : List Addr} (x : Val K H B As src al n d v as) (k : ∀ a, src a → src' a) : Val K H B As src' al n d v as :=
  ⟨x.ow, x.nd, x.ban, fun c a ha => ⟨k a (x.own c a ha).1, (x.own c a ha).2⟩, x.bor⟩
theorem Val.rt {src : No} {al : List Nat} {n : Nat} {d : D} {v : V} {as : List Addr} (x : Val K H B As src al n d v as) (hn : n ≤ 1) : Rt K H B d v := x.ow.rt1 hn
end
end Pv
end
section
/-! P8: expressions, the plain ones. -/
namespace Pv
open PySem PySem.Spec PyProof.Rows L2

/-! ### what an expression writes, owns, borrows -/
mutual
def wrE : E → List Nat
  | .mv i => [i]
  | .bin _ a b => wrE a ++ wrE b
  | .neg a => wrE a
  | .not a => wrE a
  | .cmp _ a b => wrE a ++ wrE b
  | .cmp2 _ _ a b c => wrE a ++ (wrE b ++ wrE c)
  | .and a b => wrE a ++ wrE b
  | .or a b => wrE a ++ wrE b
  | .ite c a b => wrE c ++ (wrE a ++ wrE b)
  | .lst l => wrL l
  | .tup l => wrL l
  | .ix a i => wrE a ++ wrE i
  | .ix2 a i => wrE a ++ wrE i
  | .sl _ a lo hi => wrE a ++ (wrE lo ++ wrE hi)
  | .rev a => wrE a
  | .isa a _ => wrE a
  | .bi _ l => wrL l
  | .me _ a l => wrE a ++ wrL l
  | .mu _ i l => i :: wrL l
  | .call _ _ l _ io _ => wrL l ++ io.map (·.2)
  | .cc _ _ _ l io => wrL l ++ io.map (·.2)
  | .dct l => wrL l
  | .ss a => wrE a
  | .chk _ a => wrE a
  | .lo a => wrE a
  | .dclr i => [i]
  | .bcall _ l io => wrL l ++ io.map (·.2)
  | .dn _ a => wrE a
  | .lc e _ _ il ifs own => wrL il ++ (own ++ (wrL ifs ++ wrE e))
  | .lc2 e _ _ il ifs _ _ il2 ifs2 own _ => wrL il ++ (own ++ (wrL ifs ++ (wrL il2 ++ (wrL ifs2 ++ wrE e))))
  | .ls2 e _ _ il ifs _ _ il2 ifs2 own _ => wrL il ++ (own ++ (wrL ifs ++ (wrL il2 ++ (wrL ifs2 ++ wrE e))))
  | .dc k e _ _ il ifs own => wrL il ++ (own ++ (wrL ifs ++ (wrE k ++ wrE e)))
  | .dc2 k e _ _ il ifs _ _ il2 ifs2 own _ => wrL il ++ (own ++ (wrL ifs ++ (wrL il2 ++ (wrL ifs2 ++ (wrE k ++ wrE e)))))
  | .k _ => []
  | .v _ => []
  | .io _ => []
  | .gl _ => []
  | .bad => []
def wrL : List E → List Nat
  | [] => []
  | e :: l => wrE e ++ wrL l
end
mutual
def lvE (lv : List Nat) : E → Nat
  | .v i => lv.getD i 0
  | .mv i => lv.getD i 0
  | .bin o _ _ => lvB o
  | .ite _ a _ => lvE lv a
  | .lst l => lvL lv l + 1
  | .ix2 a _ => lvE lv a - 1
  | .sl n _ _ _ => n
  | .bi b _ => lvBi b
  | .mu m i _ => match m with | .pop => lv.getD i 0 - 1 | .pop0 => lv.getD i 0 - 1 | _ => 0
  | .call _ n _ _ _ _ => n
  | .cc _ n _ _ _ => n
  | .dct _ => 1
  | .ss _ => 1
  | .chk n _ => n
  | .dn n _ => n
  | .lc e _ _ _ _ _ => lvE lv e + 1
  | .lc2 e _ _ _ _ _ _ _ _ _ _ => lvE lv e + 1
  | .dc _ e _ _ _ _ _ => lvE lv e + 1
  | .dc2 _ e _ _ _ _ _ _ _ _ _ _ => lvE lv e + 1
  | _ => 0
def lvL (lv : List Nat) : List E → Nat
  | [] => 0
  | e :: _ => lvE lv e
end
mutual
def alE (lv : List Nat) : E → List Nat
  | .v i => if lv.getD i 0 = 0 then [] else [i]
  | .ite _ a b => alE lv a ++ alE lv b
  | .ix2 a _ => alE lv a
  | .lo a => bE lv a
  | _ => []
/-- what a loose value is made of -/
def bE (lv : List Nat) : E → List Nat
  | .lst l => bL lv l
  | .tup l => bL lv l
  | .bcall _ l _ => bL lv l
  | _ => []
def bL (lv : List Nat) : List E → List Nat
  | [] => []
  | e :: l => alE lv e ++ bL lv l
end

/-- what stands behind an expression -/
def Pst (K : Fg) (lv : List Nat) (W : Nat → Prop) (al : List Nat) (n : Nat) (σ : Sg) (H : Hp) (B : No) (As : AsT) (d : D) (r' : Env) (v : V) (H' : Hp) : Prop :=
  ∃ B' As' as, Good K lv σ H' r' B' As' ∧ Stp W H B As H' B' As' ∧ Val K H' B' As' (Src W H As) al n d v as
/-- an expression, by the evaluator -/
def tEv (K : Fg) (F : Fns) (lv : List Nat) (Z : Str → D → Prop) (e : E) : TE := fun σ H Q =>
  ∃ r B As, Good K lv σ H r B As ∧ wp (evE F e r) (fun p => ∀ H' v, Pst K lv (ofL (wrE e)) (alE lv e) (lvE lv e) σ H B As p.1 p.2 v H' → Q v H') Z
abbrev SE (X : Cx) (F : Fns) (lv : List Nat) (Z : Str → D → Prop) (x : E) (e : Expr) : Prop := PE X e (tEv X.K F lv Z x)
theorem pe_of {X : Cx} {e : Expr} {t t' : TE} (h : PE X e t) (k : ∀ σ H Q, t' σ H Q → t σ H Q) : PE X e t' := ⟨fun pins s σ H Q I q => h.run pins s σ H Q I (k σ H Q q)⟩

section
variable {K : Fg} {F : Fns} {lv : List Nat} {Z : Str → D → Prop} {σ : Sg} {H H' : Hp} {r r' : Env} {B B' : No} {As As' : AsT} {W W' : Nat → Prop}
theorem tEv.mk {e : E} {Q : VK} {R : D × Env → Prop} (G : Good K lv σ H r B As) (h : wp (evE F e r) R Z)
    (k : ∀ d r' H' B' As' v as, R (d, r') → Good K lv σ H' r' B' As' → Stp (ofL (wrE e)) H B As H' B' As' → Val K H' B' As' (Src (ofL (wrE e)) H As) (alE lv e) (lvE lv e) d v as → Q v H') : tEv K F lv Z e σ H Q :=
  ⟨r, B, As, G, h.imp fun p hp H' v ⟨B', As', as, G', S, x⟩ => k p.1 p.2 H' B' As' v as hp G' S x⟩
theorem Stp.widen {l : List Nat} (S : Stp W H B As H' B' As') (k : ∀ i, W i → i ∈ l) : Stp (ofL l) H B As H' B' As' := S.wide k
theorem Src.wide {a : Addr} (h : Src W H As a) (k : ∀ i, W i → W' i) : Src W' H As a := h.imp id fun ⟨i, w, m⟩ => ⟨i, k i w, m⟩
/-- a value laid from here -/
theorem fin_of {n : Nat} {d : D} {Q : VK} (G0 : Good K lv σ H r B As) (S : Stp W H B As H' B' As') (G : Good K lv σ H' r' B' As') (q : ∀ H2 v, Pst K lv W [] n σ H B As d r' v H2 → Q v H2) : Fin K H' B' n d Q := by
  intro H2 v as same nd fr ow
  refine q H2 v ⟨_, As', as, G.grow same fr (Ow.ld n d v as ow), ?_, ow, nd, fun a ha => .inl ha, fun _ a ha => ⟨?_, fun i m => ?_⟩, fun c => absurd rfl c⟩
  · exact (S.trans (W' := fun _ => False) G0 (Stp.same' same (fun a z => z.elim (fun z => .inr (fr a z)) .inl) fun a z => .inr z)).wide fun i w => w.elim id False.elim
  · exact (S.src (W' := fun _ => False) (.inl (fr a ha))).wide fun i w => w.elim id False.elim
  · obtain ⟨o, e⟩ := G.here m
    rw [fr a ha] at e
    cases e
/-- two values in a row -/
theorem ev2 {a b : E} {R : D × Env → Prop} {g : D × Env → D × Env → Out (D × Env)} {T : V → V → Hp → Prop} (G : Good K lv σ H r B As) (h : wp ((evE F a r).bind fun x => (evE F b x.2).bind fun y => g x y) R Z) (dj : ∀ i ∈ alE lv a, i ∉ wrE b)
    (k : ∀ dx dy r1 r2 H2 B2 As2 x y asx asy, wp (g (dx, r1) (dy, r2)) R Z → Good K lv σ H2 r2 B2 As2 → Stp (ofL (wrE a ++ wrE b)) H B As H2 B2 As2 → Val K H2 B2 As2 (Src (ofL (wrE a)) H As) (alE lv a) (lvE lv a) dx x asx →
      Val K H2 B2 As2 (Src (ofL (wrE a ++ wrE b)) H As) (alE lv b) (lvE lv b) dy y asy → T x y H2) :
    tEv K F lv Z a σ H fun x H1 => tEv K F lv Z b σ H1 fun y H2 => T x y H2 := by
  rw [wp_bind] at h
  refine tEv.mk G h fun dx r1 H1 B1 As1 x asx h1 G1 S1 X1 => ?_
  rw [wp_bind] at h1
  refine tEv.mk G1 h1 fun dy r2 H2 B2 As2 y asy h2 G2 S2 X2 => ?_
  refine k dx dy r1 r2 H2 B2 As2 x y asx asy h2 G2 ((S1.trans G S2).wide fun i w => ?_) (X1.step G1 S2 dj) (X2.src fun a z => (S1.src z).wide fun i w => ?_)
  · exact w.elim (List.mem_append_left _) (List.mem_append_right _)
  · exact w.elim (List.mem_append_left _) (List.mem_append_right _)
/-- what is no list and no dict within meets no ban -/
theorem imm_ban {no no' : No} (G : ∀ a, no' a → ∃ o, H a = some o ∧ isLD o = true) : ∀ (d : D) (v : V), immD d = true → Rp K H no d v → Rp K H no' d v
  | .none, _, _, h => by simpa only [Rp] using h
  | .bool _, _, _, h => by simpa only [Rp] using h
  | .int _, _, _, h => by simpa only [Rp] using h
  | .str _, _, _, h => by simpa only [Rp] using h
  | .list _, _, e, _ => by cases e
  | .dict _, _, e, _ => by cases e
  | .tuple ds, v, e, h => by
    simp only [Rp] at h ⊢
    obtain ⟨a, xs, e2, h1, h2⟩ := h
    refine ⟨a, xs, e2, ⟨h1.1, fun z => ?_⟩, imm_banL G ds xs e h2⟩
    obtain ⟨o, e3, e4⟩ := G a z
    rw [h1.1] at e3
    cases e3
    cases e4
where imm_banL {no no' : No} (G : ∀ a, no' a → ∃ o, H a = some o ∧ isLD o = true) : ∀ (ds : List D) (vs : List V), immD.immL ds = true → RpL K H no ds vs → RpL K H no' ds vs
  | [], _, _, h => h
  | d :: ds, vs, e, h => by
    simp only [immD.immL, Bool.and_eq_true] at e
    simp only [RpL] at h ⊢
    obtain ⟨v, r, e2, h1, h2⟩ := h
    exact ⟨v, r, e2, imm_ban G d v e.1 h1, imm_banL G ds r e.2 h2⟩
theorem imm_ow {no : No} {d : D} {v : V} (n : Nat) (e : immD d = true) (h : Rp K H no d v) : Ow K H no n d v [] := by
  cases n with
  | zero => exact Ow.zero.mpr ⟨rfl, h⟩
  | succ n =>
    cases d <;> simp only [Ow] <;> first | exact ⟨trivial, h⟩ | (simp only [Rp] at h; exact ⟨trivial, h⟩) | cases e
/-- a plain answer needs no ban -/
theorem Fin.plain {d : D} {Q : VK} {no no' : No} (f : Fin K H no 0 d Q) (e : immD d = true) (hb : ∀ a, no a → ∃ o, H a = some o ∧ isLD o = true) : Fin K H no' 0 d Q := by
  intro H' v as same nd fr ow
  obtain ⟨e1, h⟩ := Ow.zero.mp ow
  refine f H' v [] same List.nodup_nil (by simp) (Ow.zero.mpr ⟨rfl, imm_ban (fun a z => ?_) d v e h⟩)
  rcases z with z | z
  · cases z
  · obtain ⟨o, q, l⟩ := hb a z
    exact ⟨o, same a o q, l⟩
end

section
variable {X : Cx} {F : Fns} {lv : List Nat} {Z : Str → D → Prop} {pos : Pos}
/-- a name read -/
theorem s_v {i : Nat} {x : Str} (hN : X.N[i]? = some x) (hv : Vis X.env.scope x) (hd : (x == ("__debug__" : Str)) = false) (hcd : (x == ("__classdict__" : Str)) = false) : SE X F lv Z (.v i) (.Name x pos) := by
  refine pe_of (pe_var hN hv hd hcd) fun σ H Q h => ?_
  obtain ⟨r, B, As, G, w⟩ := h
  simp only [evE] at w
  split at w
  · rename_i d e
    obtain ⟨v, e2, ow⟩ := G.slot i d e
    refine ⟨v, e2, w H v ⟨B, As, As i, G, Stp.refl, ?_⟩⟩
    simp only [lvE, alE]
    by_cases c : lv.getD i 0 = 0
    · rw [c] at ow
      have z := (Ow.zero.mp ow).1
      rw [if_pos c, c, z]
      rw [z] at ow
      exact ⟨ow, List.nodup_nil, by simp, by simp, by simp⟩
    · rw [if_neg c]
      exact ⟨ow, G.nd i, fun a ha => G.ban i a ha, fun z => (by cases z), fun _ a ha => ⟨i, List.mem_singleton.mpr rfl, ha⟩⟩
  · cases w
theorem Good.drop {K : Fg} {σ : Sg} {H : Hp} {r : Env} {B : No} {As : AsT} (G : Good K lv σ H r B As) (i : Nat) : Good K lv σ H (r.set i none) B (fun j => if j = i then [] else As j) where
  slot := fun j d e => by
    by_cases c : j = i
    · subst c
      rw [List.getElem?_set] at e
      simp at e
    · rw [List.getElem?_set_ne (fun z => c z.symm)] at e
      rw [if_neg c]
      exact G.slot j d e
  off := fun j h => by
    by_cases c : j = i
    · rw [if_pos c]
    · rw [if_neg c]
      refine G.off j fun d z => h d ?_
      rw [List.getElem?_set_ne (fun z => c z.symm)]
      exact z
  nd := fun j => by
    by_cases c : j = i
    · rw [if_pos c]; exact List.nodup_nil
    · rw [if_neg c]; exact G.nd j
  dj := fun j k a n h h2 => by
    by_cases c : j = i
    · rw [if_pos c] at h; cases h
    · by_cases c2 : k = i
      · rw [if_pos c2] at h2; cases h2
      · rw [if_neg c] at h
        rw [if_neg c2] at h2
        exact G.dj j k a n h h2
  ban := fun j a h => by
    by_cases c : j = i
    · rw [if_pos c] at h; cases h
    · rw [if_neg c] at h; exact G.ban j a h
  bin := G.bin
  len := by rw [List.length_set]; exact G.len
theorem Stp.drop {H : Hp} {B : No} {As : AsT} {i : Nat} : Stp (ofL [i]) H B As H B (fun j => if j = i then [] else As j) where
  keep := fun _ _ e _ => e
  ban := fun _ z => .inl z
  hold := fun _ z _ => z
  frm := fun j w a h => by
    have : j = i := List.mem_singleton.mp w
    rw [if_pos this] at h
    cases h
  same := fun j w => if_neg fun z => w (List.mem_singleton.mpr z)
/-- a name read for the last time -/
theorem s_mv {i : Nat} {x : Str} (hN : X.N[i]? = some x) (hv : Vis X.env.scope x) (hd : (x == ("__debug__" : Str)) = false) (hcd : (x == ("__classdict__" : Str)) = false) : SE X F lv Z (.mv i) (.Name x pos) := by
  refine pe_of (pe_var hN hv hd hcd) fun σ H Q h => ?_
  obtain ⟨r, B, As, G, w⟩ := h
  simp only [evE] at w
  split at w
  · rename_i d e
    obtain ⟨v, e2, ow⟩ := G.slot i d e
    refine ⟨v, e2, w H v ⟨B, _, As i, G.drop i, Stp.drop, ow, G.nd i, fun a ha => G.ban i a ha, fun _ a ha => ⟨.inr ⟨i, List.mem_singleton.mpr rfl, ha⟩, fun j m => ?_⟩, fun c => absurd rfl c⟩⟩
    by_cases c : j = i
    · rw [if_pos c] at m; cases m
    · rw [if_neg c] at m
      exact G.dj i j a (fun z => c z.symm) ha m
  · cases w
/-- written constants -/
theorem fin_here {K : Fg} {σ : Sg} {H : Hp} {r : Env} {B : No} {As : AsT} {d : D} {Q : VK} {W : Nat → Prop} {v : V} {n : Nat} (G : Good K lv σ H r B As) (q : ∀ H2 v, Pst K lv W [] n σ H B As d r v H2 → Q v H2) (e : immD d = true) (rp : Rp K H B d v) : Q v H :=
  q H v ⟨B, As, [], G, Stp.refl, imm_ow n e rp, List.nodup_nil, by simp, by simp, by simp⟩
theorem s_int {i : Int} {j : Nat} : SE X F lv Z (.k (.int i)) (.Constant (.int i) j pos) :=
  pe_of pe_int fun σ H Q ⟨r, B, As, G, w⟩ => fin_here G w rfl (by simp only [Rp])
theorem s_bool {i : Bool} {j : Nat} : SE X F lv Z (.k (.bool i)) (.Constant (.bool i) j pos) :=
  pe_of pe_bl fun σ H Q ⟨r, B, As, G, w⟩ => fin_here G w rfl (by simp only [Rp])
theorem s_none {j : Nat} : SE X F lv Z (.k .none) (.Constant .none j pos) :=
  pe_of pe_non fun σ H Q ⟨r, B, As, G, w⟩ => fin_here G w rfl (by simp only [Rp])
theorem s_str {i : Str} {j : Nat} : SE X F lv Z (.k (.str i)) (.Constant (.str i) j pos) :=
  pe_of pe_str fun σ H Q ⟨r, B, As, G, w⟩ => fin_here G w rfl (by simp only [Rp])
/-- a module's constant -/
def GlOk (X : Cx) (x : Str) (d : D) : Prop := immD d = true ∧ ∃ u v, X.mg x = some u ∧ RelV v u ∧ ∀ H no, Rp X.K H no d v
theorem s_gl {x : Str} (hg : Gl X x) (hd : (x == ("__debug__" : Str)) = false) (h : ∀ d, F.gl x = some d → GlOk X x d) : SE X F lv Z (.gl x) (.Name x pos) := by
  refine ⟨fun pins s σ H Q I ⟨r, B, As, G, w⟩ => ?_⟩
  simp only [evE] at w
  split at w
  · rename_i d e
    obtain ⟨e1, u, v, hm, ru, rp⟩ := h d e
    exact ld_glob I hg hm ⟨v, H, I, ru, fin_here (lv := lv) (W := ofL (wrE (.gl x))) (n := 0) G w e1 (rp H B)⟩ hd
  · cases w

/-! ### operators -/
theorem addD_nx (x y : D) : NoX (addD x y) := by
  intro c d
  unfold addD
  split <;> first | exact NoX.when c d | exact NoX.ok c d | exact NoX.bad c d
theorem bin_nx (o : BOp) (x y : D) : NoX (binD o x y) := by
  intro c d
  cases o <;> simp only [binD] <;> first | exact addD_nx x y c d | skip
  · unfold subD
    split <;> first | exact NoX.when c d | exact NoX.ok c d | exact NoX.bad c d
  · unfold mulD
    split <;> first | exact NoX.when c d | exact NoX.ok c d | exact NoX.bad c d
  · unfold fdivD
    split <;> first | exact NoX.when c d | exact NoX.ok c d | exact NoX.bad c d
  · unfold modD
    split <;> first | exact NoX.when c d | exact NoX.ok c d | exact NoX.bad c d
  · unfold powD
    split <;> first | exact NoX.when c d | exact NoX.ok c d | exact NoX.bad c d
  · unfold catD
    split <;> first | exact NoX.when c d | exact NoX.ok c d | exact NoX.bad c d
  · unfold repD
    split <;> first | exact NoX.when c d | exact NoX.ok c d | exact NoX.bad c d
variable {a b c : E} {ea eb ec : Expr}
def rBinD (K : Fg) (o : BOp) : R2 := fun x y H Q => ∃ (no : No) (dx dy d : D), Rt K H no dx x ∧ Rt K H no dy y ∧ NoIn H no ∧ binD o dx dy = .ok d ∧ Fin K H no (lvB o) d Q
theorem op_binD (o : BOp) : OpR X (binaryOp (bop o)) (rBinD X.K o) := by
  intro pins s σ H x y v u Q I rx ry ⟨no, dx, dy, d, h1, h2, h3, h4, h5⟩
  exact bin_ok o pins s σ H x y v u dx dy d no Q I rx ry h1 h2 h3 h4 h5
theorem s_bin {o : BOp} (ha : SE X F lv Z a ea) (hb : SE X F lv Z b eb) (dj : ∀ i ∈ alE lv a, i ∉ wrE b) (la : lvE lv a ≤ 1) (lb : lvE lv b ≤ 1) : SE X F lv Z (.bin o a b) (.BinOp ea (bop o) eb pos) := by
  refine pe_of (pe_op (op_binD o) ha hb) fun σ H Q ⟨r, B, As, G, w⟩ => ?_
  simp only [evE] at w
  refine ev2 G w dj fun dx dy r1 r2 H2 B2 As2 x y asx asy h2 G2 S2 X1 X2 => ?_
  rw [wp_bind] at h2
  obtain ⟨d, e, q⟩ := h2.get (bin_nx o dx dy)
  exact ⟨B2, dx, dy, d, X1.rt la, X2.rt lb, G2.noin, e, fin_of G S2 G2 q⟩
theorem s_neg (ha : SE X F lv Z a ea) : SE X F lv Z (.neg a) (.UnaryOp .USub ea pos) := by
  refine pe_of (pe_un un_neg ha) fun σ H Q ⟨r, B, As, G, w⟩ => ?_
  simp only [evE] at w
  rw [wp_bind] at w
  refine tEv.mk G w fun dx r1 H1 B1 As1 x asx h1 G1 S1 X1 => ?_
  rw [wp_bind] at h1
  cases dx <;> simp only [negD] at h1 <;> first | exact h1.elim | skip
  rename_i i
  have hx := X1.ow.rp0
  simp only [Rp] at hx
  exact ⟨i, hx, (fin_of (n := 0) G S1 G1 h1).int⟩
end
end Pv
end
section
/-! P9: comparisons, tests, displays, built-in functions. -/
namespace Pv
open PySem PySem.Spec PyProof.Rows L2

def tru2 (F : Fns) (a : E) (r : Env) : Out (Bool × Env) := (evE F a r).bind fun x => (truD x.1).bind fun z => .ok (z, x.2)
/-- a test, by the evaluator -/
def tTv (K : Fg) (F : Fns) (lv : List Nat) (Z : Str → D → Prop) (e : E) : TT := fun σ H Q =>
  ∃ r B As, Good K lv σ H r B As ∧ wp (tru2 F e r) (fun p => ∀ H' B' As', Good K lv σ H' p.2 B' As' → Stp (ofL (wrE e)) H B As H' B' As' → Q p.1 H') Z
abbrev ST (X : Cx) (F : Fns) (lv : List Nat) (Z : Str → D → Prop) (x : E) (e : Expr) : Prop := PT X e (tTv X.K F lv Z x)
abbrev SW (X : Cx) (F : Fns) (lv : List Nat) (Z : Str → D → Prop) (x : E) (e : Expr) : Prop := PW X e (tTv X.K F lv Z x)
theorem pt_of {X : Cx} {e : Expr} {t t' : TT} (h : PT X e t) (k : ∀ σ H Q, t' σ H Q → t σ H Q) : PT X e t' := ⟨fun pins s σ H Q I q => h.run pins s σ H Q I (k σ H Q q)⟩
theorem pw_of {X : Cx} {e : Expr} {t t' : TT} (h : PW X e t) (k : ∀ σ H Q, t' σ H Q → t σ H Q) : PW X e t' := ⟨fun wh pins s σ H Q I q => h.run wh pins s σ H Q I (k σ H Q q)⟩
section
variable {K : Fg} {F : Fns} {lv : List Nat} {Z : Str → D → Prop} {σ : Sg} {H H' : Hp} {r r' : Env} {B B' : No} {As As' : AsT}
theorem tTv.mk {e : E} {Q : Bool → Hp → Prop} {R : Bool × Env → Prop} (G : Good K lv σ H r B As) (h : wp (tru2 F e r) R Z)
    (k : ∀ z r' H' B' As', R (z, r') → Good K lv σ H' r' B' As' → Stp (ofL (wrE e)) H B As H' B' As' → Q z H') : tTv K F lv Z e σ H Q :=
  ⟨r, B, As, G, h.imp fun p hp H' B' As' G' S => k p.1 p.2 H' B' As' hp G' S⟩
end
theorem tru_nx (d : D) : NoX (truD d) := by
  intro c e
  unfold truD
  split <;> first | exact NoX.when c e | exact NoX.ok c e | exact NoX.bad c e
theorem eqD_nx (x y : D) : NoX (eqD x y) := by
  intro c d
  unfold eqD
  split
  · exact NoX.ok c d
  · split
    · exact NoX.ok c d
    · exact NoX.when c d
theorem inD_nx (x y : D) : NoX (inD x y) := by
  intro c d
  unfold inD
  split <;> first | exact NoX.when c d | exact NoX.ok c d | exact NoX.bad c d
theorem cmp_nx (o : COp) (x y : D) : NoX (cmpD o x y) := by
  intro c d
  unfold cmpD
  split <;> first | exact NoX.when c d | exact NoX.ok c d | exact eqD_nx _ _ c d | exact inD_nx _ _ c d | exact (eqD_nx _ _).bind (fun _ => NoX.ok) c d | exact (inD_nx _ _).bind (fun _ => NoX.ok) c d
section
variable {X : Cx} {F : Fns} {lv : List Nat} {Z : Str → D → Prop} {pos : Pos} {a b c : E} {ea eb ec : Expr}
/-- e is tested by its value -/
def plainTest : Expr → Bool
  | .UnaryOp .Not _ _ => false
  | .BoolOp _ _ _ => false
  | .IfExp _ _ _ _ => false
  | .Compare _ _ _ _ => false
  | _ => true
theorem plainTest_ok {e : Expr} (h : plainTest e = true) (env : PySem.Env) (whole : Sem Value) : isTrue e env whole = (do let v ← whole; standAt e.pos; holding [v] (truthy v)) := by
  cases e <;> first | rfl | (cases h; done) | skip
  rename_i op _ _
  cases op <;> first | rfl | cases h
theorem t_val (ha : SE X F lv Z a ea) (h : plainTest ea = true) : ST X F lv Z a ea := by
  refine ⟨fun pins s σ H Q I ⟨r, B, As, G, w⟩ => ?_⟩
  unfold tru2 at w
  rw [wp_bind] at w
  refine isTrue_plain (thn (ha.run pins s σ H (fun x H1 => ∃ d z, Rp X.K H1 (fun _ => False) d x ∧ truD d = .ok z ∧ Q z H1) I (tEv.mk G w fun dx r1 H1 B1 As1 x asx h1 G1 S1 X1 => ?_)) fun v s1 ⟨x, H1, I1, r1, d, z, rp, e, q⟩ => truth_ok I1 r1 rp e q) (plainTest_ok h X.env _)
  rw [wp_bind] at h1
  obtain ⟨z, e, q⟩ := h1.get (tru_nx dx)
  exact ⟨dx, z, X1.ow.rp0, e, q H1 B1 As1 G1 S1⟩
theorem s_not (ha : SE X F lv Z a ea) : SE X F lv Z (.not a) (.UnaryOp .Not ea pos) := by
  refine ⟨fun pins s σ H Q I ⟨r, B, As, G, w⟩ => ?_⟩
  simp only [evE] at w
  rw [wp_bind] at w
  refine UnaryOp_ (thn (ha.run pins s σ H (fun x H1 => ∃ d z, Rp X.K H1 (fun _ => False) d x ∧ truD d = .ok z ∧ Q (.bl (!z)) H1) I (tEv.mk G w fun dx r1 H1 B1 As1 x asx h1 G1 S1 X1 => ?_)) fun v s1 ⟨x, H1, I1, r1, d, z, rp, e, q⟩ => ?_)
  · rw [wp_bind] at h1
    obtain ⟨z, e, q⟩ := h1.get (tru_nx dx)
    exact ⟨dx, z, X1.ow.rp0, e, (fin_of (n := 0) G S1 G1 q).bool⟩
  · exact not_of (thn (truth_ok (Q := fun z H1 => Q (.bl (!z)) H1) I1 r1 rp e q) fun c s2 ⟨H2, I2, q2⟩ => ⟨.bl (!c), H2, I2, rfl, q2⟩)
theorem t_not (ha : ST X F lv Z a ea) : ST X F lv Z (.not a) (.UnaryOp .Not ea pos) := by
  refine pt_of (pt_not ha) fun σ H Q ⟨r, B, As, G, w⟩ => ?_
  refine ⟨r, B, As, G, ?_⟩
  unfold tru2 at w ⊢
  simp only [evE] at w
  rw [wp_bind, wp_bind] at w
  rw [wp_bind]
  refine w.imp fun x hx => ?_
  rw [wp_bind] at hx ⊢
  exact hx.imp fun z hz => hz
/-! ### and, or -/
variable {rest : List Expr}
theorem s_and (ha : SE X F lv Z a ea) (hb : SE X F lv Z b (.BoolOp .And (eb :: rest) pos)) (la : lvE lv a = 0) (aa : alE lv a = []) (lb : lvE lv b = 0) (ab : alE lv b = []) : SE X F lv Z (.and a b) (.BoolOp .And (ea :: eb :: rest) pos) := by
  refine ⟨fun pins s σ H Q I ⟨r, B, As, G, w⟩ => ?_⟩
  simp only [evE] at w
  rw [wp_bind] at w
  refine BoolOp_and (thn (ha.run pins s σ H (fun x H1 => ∃ d z, Rp X.K H1 (fun _ => False) d x ∧ truD d = .ok z ∧ if z = true then tEv X.K F lv Z b σ H1 Q else Q x H1) I (tEv.mk G w fun dx r1 H1 B1 As1 x asx h1 G1 S1 X1 => ?_)) fun v s1 ⟨x, H1, I1, r1, d, z, rp, e, q⟩ => ?_)
  · rw [wp_bind] at h1
    obtain ⟨z, e, q⟩ := h1.get (tru_nx dx)
    refine ⟨dx, z, X1.ow.rp0, e, ?_⟩
    cases z with
    | true =>
      simp only [if_true] at q ⊢
      refine tEv.mk G1 q fun dy r2 H2 B2 As2 y asy h2 G2 S2 X2 => ?_
      refine h2 H2 y ⟨B2, As2, asy, G2, (S1.trans G S2).wide fun i w => w.elim (List.mem_append_left _) (List.mem_append_right _), ?_⟩
      have X3 := X2.src fun u z => (S1.src z).wide fun i w => show i ∈ wrE a ++ wrE b from w.elim (List.mem_append_left _) (List.mem_append_right _)
      rw [ab, lb] at X3
      exact X3
    | false =>
      simp only [Bool.false_eq_true, if_false] at q ⊢
      refine q H1 x ⟨B1, As1, asx, G1, S1.wide fun i w => List.mem_append_left _ w, ?_⟩
      have X3 := X1.src fun u z => z.wide fun i w => show i ∈ wrE a ++ wrE b from List.mem_append_left _ w
      rw [aa, la] at X3
      exact X3
  · refine thn (truth_ok (Q := fun z H1 => if z = true then tEv X.K F lv Z b σ H1 Q else Q x H1) I1 r1 rp e q) fun c s2 ⟨H2, I2, q2⟩ => ?_
    cases c with
    | true => exact hb.run pins s2 σ H2 Q I2 q2
    | false => exact ⟨x, H2, I2, r1, q2⟩
theorem s_or (ha : SE X F lv Z a ea) (hb : SE X F lv Z b (.BoolOp .Or (eb :: rest) pos)) (la : lvE lv a = 0) (aa : alE lv a = []) (lb : lvE lv b = 0) (ab : alE lv b = []) : SE X F lv Z (.or a b) (.BoolOp .Or (ea :: eb :: rest) pos) := by
  refine ⟨fun pins s σ H Q I ⟨r, B, As, G, w⟩ => ?_⟩
  simp only [evE] at w
  rw [wp_bind] at w
  refine BoolOp_or (thn (ha.run pins s σ H (fun x H1 => ∃ d z, Rp X.K H1 (fun _ => False) d x ∧ truD d = .ok z ∧ if z = true then Q x H1 else tEv X.K F lv Z b σ H1 Q) I (tEv.mk G w fun dx r1 H1 B1 As1 x asx h1 G1 S1 X1 => ?_)) fun v s1 ⟨x, H1, I1, r1, d, z, rp, e, q⟩ => ?_)
  · rw [wp_bind] at h1
    obtain ⟨z, e, q⟩ := h1.get (tru_nx dx)
    refine ⟨dx, z, X1.ow.rp0, e, ?_⟩
    cases z with
    | false =>
      simp only [Bool.false_eq_true, if_false] at q ⊢
      refine tEv.mk G1 q fun dy r2 H2 B2 As2 y asy h2 G2 S2 X2 => ?_
      refine h2 H2 y ⟨B2, As2, asy, G2, (S1.trans G S2).wide fun i w => w.elim (List.mem_append_left _) (List.mem_append_right _), ?_⟩
      have X3 := X2.src fun u z => (S1.src z).wide fun i w => show i ∈ wrE a ++ wrE b from w.elim (List.mem_append_left _) (List.mem_append_right _)
      rw [ab, lb] at X3
      exact X3
    | true =>
      simp only [if_true] at q ⊢
      refine q H1 x ⟨B1, As1, asx, G1, S1.wide fun i w => List.mem_append_left _ w, ?_⟩
      have X3 := X1.src fun u z => z.wide fun i w => show i ∈ wrE a ++ wrE b from List.mem_append_left _ w
      rw [aa, la] at X3
      exact X3
  · refine thn (truth_ok (Q := fun z H1 => if z = true then Q x H1 else tEv X.K F lv Z b σ H1 Q) I1 r1 rp e q) fun c s2 ⟨H2, I2, q2⟩ => ?_
    cases c with
    | false => exact hb.run pins s2 σ H2 Q I2 q2
    | true => exact ⟨x, H2, I2, r1, q2⟩
theorem s_one {op : BoolOp} (ha : SE X F lv Z a ea) : SE X F lv Z a (.BoolOp op [ea] pos) := pe_one ha
theorem w_and1 (ha : ST X F lv Z a ea) : SW X F lv Z a (.BoolOp .And [ea] pos) := pw_and1 ha
theorem w_or1 (ha : ST X F lv Z a ea) : SW X F lv Z a (.BoolOp .Or [ea] pos) := pw_or1 ha
theorem w_and (ha : ST X F lv Z a ea) (hb : SW X F lv Z b (.BoolOp .And (eb :: rest) pos)) : SW X F lv Z (.and a b) (.BoolOp .And (ea :: eb :: rest) pos) := by
  refine pw_of (pw_and ha hb) fun σ H Q ⟨r, B, As, G, w⟩ => ?_
  unfold tru2 at w
  simp only [evE] at w
  rw [wp_bind, wp_bind] at w
  show tTv X.K F lv Z a σ H fun c H1 => if c = true then tTv X.K F lv Z b σ H1 Q else Q false H1
  refine ⟨r, B, As, G, ?_⟩
  unfold tru2
  rw [wp_bind]
  refine w.imp fun x hx => ?_
  rw [wp_bind] at hx ⊢
  obtain ⟨z, e, q⟩ := hx.get (tru_nx x.1)
  rw [e]
  show ∀ H' B' As', _
  intro H1 B1 As1 G1 S1
  cases z with
  | true =>
    simp only [if_true] at q ⊢
    refine tTv.mk G1 (by unfold tru2; rw [wp_bind]; exact q) fun z r2 H2 B2 As2 h2 G2 S2 => ?_
    exact h2 H2 B2 As2 G2 ((S1.trans G S2).wide fun i w => w.elim (List.mem_append_left _) (List.mem_append_right _))
  | false =>
    simp only [Bool.false_eq_true, if_false] at q ⊢
    rw [wp_ok, wp_bind, e] at q
    exact q H1 B1 As1 G1 (S1.wide fun i w => List.mem_append_left _ w)
theorem w_or (ha : ST X F lv Z a ea) (hb : SW X F lv Z b (.BoolOp .Or (eb :: rest) pos)) : SW X F lv Z (.or a b) (.BoolOp .Or (ea :: eb :: rest) pos) := by
  refine pw_of (pw_or ha hb) fun σ H Q ⟨r, B, As, G, w⟩ => ?_
  unfold tru2 at w
  simp only [evE] at w
  rw [wp_bind, wp_bind] at w
  show tTv X.K F lv Z a σ H fun c H1 => if c = true then Q true H1 else tTv X.K F lv Z b σ H1 Q
  refine ⟨r, B, As, G, ?_⟩
  unfold tru2
  rw [wp_bind]
  refine w.imp fun x hx => ?_
  rw [wp_bind] at hx ⊢
  obtain ⟨z, e, q⟩ := hx.get (tru_nx x.1)
  rw [e]
  show ∀ H' B' As', _
  intro H1 B1 As1 G1 S1
  cases z with
  | false =>
    simp only [Bool.false_eq_true, if_false] at q ⊢
    refine tTv.mk G1 (by unfold tru2; rw [wp_bind]; exact q) fun z r2 H2 B2 As2 h2 G2 S2 => ?_
    exact h2 H2 B2 As2 G2 ((S1.trans G S2).wide fun i w => w.elim (List.mem_append_left _) (List.mem_append_right _))
  | true =>
    simp only [if_true] at q ⊢
    rw [wp_ok, wp_bind, e] at q
    exact q H1 B1 As1 G1 (S1.wide fun i w => List.mem_append_left _ w)
/-! ### a if c else b -/
theorem s_ite (hc : ST X F lv Z c ec) (ha : SE X F lv Z a ea) (hb : SE X F lv Z b eb) (lab : lvE lv b = lvE lv a) (hal : alE lv a = alE lv b ∨ True) (ha1 : alE lv a = [] → alE lv b = []) (hb1 : alE lv b = [] → alE lv a = []) : SE X F lv Z (.ite c a b) (.IfExp ec ea eb pos) := by
  refine pe_of (pe_ifExp hc ha hb) fun σ H Q ⟨r, B, As, G, w⟩ => ?_
  simp only [evE] at w
  show tTv X.K F lv Z c σ H fun z H1 => if z = true then tEv X.K F lv Z a σ H1 Q else tEv X.K F lv Z b σ H1 Q
  refine ⟨r, B, As, G, ?_⟩
  unfold tru2
  rw [wp_bind] at w ⊢
  refine w.imp fun x hx => ?_
  rw [wp_bind] at hx ⊢
  refine hx.imp fun z hz H1 B1 As1 G1 S1 => ?_
  have fin : ∀ (e : E) (H2 : Hp) (y : V) (dy : D) (r2 : Env) (B2 : No) (As2 : AsT) (asy : List Addr), (∀ H' v, Pst X.K lv (ofL (wrE (.ite c a b))) (alE lv (.ite c a b)) (lvE lv (.ite c a b)) σ H B As dy r2 v H' → Q v H') → Good X.K lv σ H2 r2 B2 As2 → Stp (ofL (wrE e)) H1 B1 As1 H2 B2 As2 →
      Val X.K H2 B2 As2 (Src (ofL (wrE e)) H1 As1) (alE lv e) (lvE lv e) dy y asy → (∀ i, i ∈ wrE e → i ∈ wrE a ++ wrE b) → lvE lv e = lvE lv a → (∀ i ∈ alE lv e, i ∈ alE lv a ++ alE lv b) → (alE lv e = [] ↔ alE lv a ++ alE lv b = []) → Q y H2 := by
    intro e H2 y dy r2 B2 As2 asy q G2 S2 X2 k1 k2 k3 k4
    have ww : ∀ i, ofL (wrE c) i ∨ ofL (wrE e) i → i ∈ wrE (.ite c a b) := fun i w => w.elim (List.mem_append_left _) fun w => List.mem_append_right _ (k1 i w)
    refine q H2 y ⟨B2, As2, asy, G2, (S1.trans G S2).wide ww, ?_, X2.nd, X2.ban, fun n u ha => ⟨(S1.src ((X2.own (k4.mpr n) u ha).1)).wide ww, (X2.own (k4.mpr n) u ha).2⟩, fun n u ha => ?_⟩
    · show Ow _ _ _ (lvE lv a) _ _ _
      rw [← k2]
      exact X2.ow
    · obtain ⟨i, hi, m⟩ := X2.bor (fun z => n (k4.mp z)) u ha
      exact ⟨i, k3 i hi, m⟩
  cases z with
  | true =>
    simp only [if_true] at hz ⊢
    refine tEv.mk G1 hz fun dy r2 H2 B2 As2 y asy h2 G2 S2 X2 => ?_
    refine fin a H2 y dy r2 B2 As2 asy h2 G2 S2 X2 (fun i => List.mem_append_left _) rfl (fun i => List.mem_append_left _) ⟨fun z => by rw [z, ha1 z]; rfl, fun z => (List.append_eq_nil_iff.mp z).1⟩
  | false =>
    simp only [Bool.false_eq_true, if_false] at hz ⊢
    refine tEv.mk G1 hz fun dy r2 H2 B2 As2 y asy h2 G2 S2 X2 => ?_
    refine fin b H2 y dy r2 B2 As2 asy h2 G2 S2 X2 (fun i => List.mem_append_right _) lab (fun i => List.mem_append_right _) ⟨fun z => by rw [z, hb1 z]; rfl, fun z => (List.append_eq_nil_iff.mp z).2⟩
/-! ### comparisons -/
def rCmpD (K : Fg) (o : COp) : R2 := fun x y H Q => ∃ (no : No) (dx dy : D) (z : Bool), Rp K H no dx x ∧ Rp K H no dy y ∧ cmpD o dx dy = .ok z ∧ Q (.bl z) H
theorem op_cmpD (hu : X.A.units + 64 < cLine) (o : COp) : OpR X (compareOp (cop o)) (rCmpD X.K o) := by
  intro pins s σ H x y v u Q I rx ry ⟨no, dx, dy, z, h1, h2, h3, h4⟩
  exact cmp_ok hu o pins s σ H x y v u dx dy z no Q I rx ry h1 h2 h3 h4
def notSet : Expr → Bool
  | .Set _ _ _ => false
  | _ => true
theorem mark_ok {e : Expr} {op : CmpOp} (h : notSet e = true) : behindInMarks op e = false := by
  cases e <;> first | rfl | cases h
theorem s_cmp (hu : X.A.units + 64 < cLine) {o : COp} (ha : SE X F lv Z a ea) (hb : SE X F lv Z b eb) (dj : ∀ i ∈ alE lv a, i ∉ wrE b) (hm : notSet eb = true) : SE X F lv Z (.cmp o a b) (.Compare ea [cop o] [eb] pos) := by
  refine pe_of (pe_cmpR (op_cmpD hu o) ha hb (mark_ok hm)) fun σ H Q ⟨r, B, As, G, w⟩ => ?_
  simp only [evE] at w
  refine ev2 G w dj fun dx dy r1 r2 H2 B2 As2 x y asx asy h2 G2 S2 X1 X2 => ?_
  rw [wp_bind] at h2
  obtain ⟨z, e, q⟩ := h2.get (cmp_nx o dx dy)
  exact ⟨_, dx, dy, z, X1.ow.rp0, X2.ow.rp0, e, (fin_of (n := 0) G S2 G2 q).bool⟩
theorem t_cmp (hu : X.A.units + 64 < cLine) {o : COp} (ha : SE X F lv Z a ea) (hb : SE X F lv Z b eb) (dj : ∀ i ∈ alE lv a, i ∉ wrE b) (hm : notSet eb = true) : ST X F lv Z (.cmp o a b) (.Compare ea [cop o] [eb] pos) := by
  refine pt_of (pt_cmpR (op_cmpD hu o) ha hb (mark_ok hm)) fun σ H Q ⟨r, B, As, G, w⟩ => ?_
  unfold tru2 at w
  simp only [evE] at w
  rw [wp_bind, wp_bind] at w
  refine tEv.mk G w fun dx r1 H1 B1 As1 x asx h1 G1 S1 X1 => ?_
  rw [wp_bind] at h1
  refine tEv.mk G1 h1 fun dy r2 H2 B2 As2 y asy h2 G2 S2 X2 => ?_
  rw [wp_bind] at h2
  obtain ⟨z, e, q⟩ := h2.get (cmp_nx o dx dy)
  exact ⟨_, dx, dy, z, (X1.step G1 S2 dj).ow.rp0, X2.ow.rp0, e, z, rfl, q H2 B2 As2 G2 ((S1.trans G S2).wide fun i w => w.elim (List.mem_append_left _) (List.mem_append_right _))⟩
theorem s_cmp2 (hu : X.A.units + 64 < cLine) {o p : COp} (ha : SE X F lv Z a ea) (hb : SE X F lv Z b eb) (hc : SE X F lv Z c ec) (dj : ∀ i ∈ alE lv a, i ∉ wrE b) (dj2 : ∀ i ∈ alE lv b, i ∉ wrE c) (hm : notSet ec = true) :
    SE X F lv Z (.cmp2 o p a b c) (.Compare ea [cop o, cop p] [eb, ec] pos) := by
  refine pe_of (pe_chain (op_cmpD hu o) (op_cmpD hu p) ha hb hc (show behindInMarks (cop p) ec = false from mark_ok hm)) fun σ H Q ⟨r, B, As, G, w⟩ => ?_
  simp only [evE] at w
  rw [wp_bind] at w
  refine tEv.mk G w fun dx r1 H1 B1 As1 x asx h1 G1 S1 X1 => ?_
  rw [wp_bind] at h1
  refine tEv.mk G1 h1 fun dy r2 H2 B2 As2 y asy h2 G2 S2 X2 => ?_
  rw [wp_bind] at h2
  obtain ⟨z, e, q⟩ := h2.get (cmp_nx o dx dy)
  have S12 := (S1.trans G S2).wide (W' := ofL (wrE a ++ wrE b)) fun i w => w.elim (List.mem_append_left _) (List.mem_append_right _)
  refine ⟨_, dx, dy, z, (X1.step G1 S2 dj).ow.rp0, X2.ow.rp0, e, z, rfl, ?_⟩
  cases z with
  | true =>
    simp only [if_true] at q ⊢
    rw [wp_bind] at q
    refine tEv.mk G2 q fun du r3 H3 B3 As3 u asu h3 G3 S3 X3 => ?_
    rw [wp_bind] at h3
    obtain ⟨z, e, q⟩ := h3.get (cmp_nx p dy du)
    refine ⟨_, dy, du, z, (X2.step G2 S3 dj2).ow.rp0, X3.ow.rp0, e, (fin_of (n := 0) G ((S12.trans G S3).wide fun i w => ?_) G3 q).bool⟩
    show i ∈ wrE a ++ (wrE b ++ wrE c)
    rcases w with w | w
    · rcases List.mem_append.mp w with w | w
      · exact List.mem_append_left _ w
      · exact List.mem_append_right _ (List.mem_append_left _ w)
    · exact List.mem_append_right _ (List.mem_append_right _ w)
  | false =>
    simp only [Bool.false_eq_true, if_false] at q ⊢
    refine (fin_of (n := 0) G (S12.wide fun i w => ?_) G2 q).bool
    show i ∈ wrE a ++ (wrE b ++ wrE c)
    rcases List.mem_append.mp w with w | w
    · exact List.mem_append_left _ w
    · exact List.mem_append_right _ (List.mem_append_left _ w)
end
end Pv
end
section
/-! P10: several values in a row; displays; built-in functions; subscripts. -/
namespace Pv
open PySem PySem.Spec PyProof.Rows L2

/-- how an argument waits: its alias and storeys, or the slot that is handed over -/
inductive Wy where
  | val (al : List Nat) (n : Nat)
  | io (i : Nat)
  | lo (al : List Nat)
def wyE (lv : List Nat) : E → Wy
  | .io i => .io i
  | .lo a => .lo (bE lv a)
  | e => .val (alE lv e) (lvE lv e)
def isIo : E → Bool
  | .io _ => true
  | .lo _ => true
  | _ => false
theorem wy_val {lv : List Nat} {e : E} (h : isIo e = false) : wyE lv e = .val (alE lv e) (lvE lv e) := by cases e <;> first | rfl | cases h
/-- all bans but of the slots al -/
def lsB (B : No) (As : AsT) (al : List Nat) : No := fun a => B a ∧ ∀ i ∈ al, a ∉ As i
/-- values in a row, waiting -/
def PdL (K : Fg) (σ : Sg) (H : Hp) (B : No) (As : AsT) (src : No) : List Wy → List D → List V → List (List Addr) → Prop
  | [], ds, vs, ass => ds = [] ∧ vs = [] ∧ ass = []
  | .val al n :: ws, ds, vs, ass => ∃ d ds' v vs' as ass', ds = d :: ds' ∧ vs = v :: vs' ∧ ass = as :: ass' ∧ Val K H B As src al n d v as ∧ (al = [] → ∀ a ∈ as, ∀ bs ∈ ass', a ∉ bs) ∧ PdL K σ H B As src ws ds' vs' ass'
  | .io i :: ws, ds, vs, ass => ∃ ds' v vs' ass', ds = .none :: ds' ∧ vs = v :: vs' ∧ ass = [] :: ass' ∧ σ[i]? = some (some v) ∧ PdL K σ H B As src ws ds' vs' ass'
  | .lo al :: ws, ds, vs, ass => ∃ d ds' v vs' ass', ds = d :: ds' ∧ vs = v :: vs' ∧ ass = [] :: ass' ∧ Rp K H (lsB B As al) d v ∧ PdL K σ H B As src ws ds' vs' ass'
def PstL (K : Fg) (lv : List Nat) (W : Nat → Prop) (ws : List Wy) (σ : Sg) (H : Hp) (B : No) (As : AsT) (ds : List D) (r' : Env) (vs : List V) (H' : Hp) : Prop :=
  ∃ B' As' ass, Good K lv σ H' r' B' As' ∧ Stp W H B As H' B' As' ∧ PdL K σ H' B' As' (Src W H As) ws ds vs ass
def tEvL (K : Fg) (F : Fns) (lv : List Nat) (Z : Str → D → Prop) (l : List E) : TA := fun σ H Q =>
  ∃ r B As, Good K lv σ H r B As ∧ wp (evL F l r) (fun p => ∀ H' vs, PstL K lv (ofL (wrL l)) (l.map (wyE lv)) σ H B As p.1 p.2 vs H' → Q vs H') Z
abbrev SA (X : Cx) (F : Fns) (lv : List Nat) (Z : Str → D → Prop) (l : List E) (es : List Expr) : Prop := PA X es (tEvL X.K F lv Z l)
theorem pa_of {X : Cx} {es : List Expr} {t t' : TA} (h : PA X es t) (k : ∀ σ H Q, t' σ H Q → t σ H Q) : PA X es t' := ⟨fun p pins s σ H Q I q => h.run p pins s σ H Q I (k σ H Q q)⟩
section
variable {K : Fg} {F : Fns} {lv : List Nat} {Z : Str → D → Prop} {σ : Sg} {H H' : Hp} {r r' : Env} {B B' : No} {As As' : AsT} {W W' : Nat → Prop}
theorem tEvL.mk {l : List E} {Q : List V → Hp → Prop} {R : List D × Env → Prop} (G : Good K lv σ H r B As) (h : wp (evL F l r) R Z)
    (k : ∀ ds r' H' B' As' vs ass, R (ds, r') → Good K lv σ H' r' B' As' → Stp (ofL (wrL l)) H B As H' B' As' → PdL K σ H' B' As' (Src (ofL (wrL l)) H As) (l.map (wyE lv)) ds vs ass → Q vs H') : tEvL K F lv Z l σ H Q :=
  ⟨r, B, As, G, h.imp fun p hp H' vs ⟨B', As', ass, G', S, x⟩ => k p.1 p.2 H' B' As' vs ass hp G' S x⟩
theorem PdL.src {src src' : No} (k : ∀ a, src a → src' a) : ∀ {ws : List Wy} {ds : List D} {vs : List V} {ass : List (List Addr)}, PdL K σ H B As src ws ds vs ass → PdL K σ H B As src' ws ds vs ass
  | [], ds, vs, ass, h => h
  | .val al n :: ws, ds, vs, ass, h => by
    obtain ⟨d, ds', v, vs', as, ass', e1, e2, e3, x, dj, t⟩ := h
    exact ⟨d, ds', v, vs', as, ass', e1, e2, e3, x.src k, dj, t.src k⟩
  | .io i :: ws, ds, vs, ass, h => by
    obtain ⟨ds', v, vs', ass', e1, e2, e3, x, t⟩ := h
    exact ⟨ds', v, vs', ass', e1, e2, e3, x, t.src k⟩
  | .lo al :: ws, ds, vs, ass, h => by
    obtain ⟨d, ds', v, vs', ass', e1, e2, e3, x, t⟩ := h
    exact ⟨d, ds', v, vs', ass', e1, e2, e3, x, t.src k⟩
/-- every object of the row was owned by a slot, or is there since H -/
theorem PdL.mem {src : No} : ∀ {ws : List Wy} {ds : List D} {vs : List V} {ass : List (List Addr)}, PdL K σ H B As src ws ds vs ass → ∀ bs ∈ ass, ∀ a ∈ bs, (src a ∧ ∀ i, a ∉ As i) ∨ ∃ i, a ∈ As i
  | [], ds, vs, ass, h, bs, hb, a, ha => by rw [h.2.2] at hb; cases hb
  | .val al n :: ws, ds, vs, ass, h, bs, hb, a, ha => by
    obtain ⟨d, ds', v, vs', as, ass', e1, e2, e3, x, dj, t⟩ := h
    rw [e3] at hb
    rcases List.mem_cons.mp hb with rfl | hb
    · by_cases c : al = []
      · exact .inl (x.own c a ha)
      · obtain ⟨i, _, m⟩ := x.bor c a ha
        exact .inr ⟨i, m⟩
    · exact t.mem bs hb a ha
  | .io i :: ws, ds, vs, ass, h, bs, hb, a, ha => by
    obtain ⟨ds', v, vs', ass', e1, e2, e3, x, t⟩ := h
    rw [e3] at hb
    rcases List.mem_cons.mp hb with rfl | hb
    · cases ha
    · exact t.mem bs hb a ha
  | .lo al :: ws, ds, vs, ass, h, bs, hb, a, ha => by
    obtain ⟨d, ds', v, vs', ass', e1, e2, e3, x, t⟩ := h
    rw [e3] at hb
    rcases List.mem_cons.mp hb with rfl | hb
    · cases ha
    · exact t.mem bs hb a ha
theorem PdL.len {src : No} : ∀ {ws : List Wy} {ds : List D} {vs : List V} {ass : List (List Addr)}, PdL K σ H B As src ws ds vs ass → ds.length = ws.length ∧ vs.length = ws.length
  | [], ds, vs, ass, h => by rw [h.1, h.2.1]; exact ⟨rfl, rfl⟩
  | .val al n :: ws, ds, vs, ass, h => by
    obtain ⟨d, ds', v, vs', as, ass', e1, e2, e3, x, dj, t⟩ := h
    rw [e1, e2]
    simp [t.len.1, t.len.2]
  | .io i :: ws, ds, vs, ass, h => by
    obtain ⟨ds', v, vs', ass', e1, e2, e3, x, t⟩ := h
    rw [e1, e2]
    simp [t.len.1, t.len.2]
  | .lo al :: ws, ds, vs, ass, h => by
    obtain ⟨d, ds', v, vs', ass', e1, e2, e3, x, t⟩ := h
    rw [e1, e2]
    simp [t.len.1, t.len.2]
/-- all of one storey at most: to be read -/
def rdWy : Wy → Bool
  | .val _ n => decide (n ≤ 1)
  | .io _ => false
  | .lo _ => false
theorem PdL.rt {src : No} : ∀ {ws : List Wy} {ds : List D} {vs : List V} {ass : List (List Addr)}, ws.all rdWy = true → PdL K σ H B As src ws ds vs ass → RtL K H B ds vs
  | [], ds, vs, ass, _, h => by rw [h.1, h.2.1]; rfl
  | .val al n :: ws, ds, vs, ass, g, h => by
    obtain ⟨d, ds', v, vs', as, ass', e1, e2, e3, x, dj, t⟩ := h
    simp only [List.all_cons, Bool.and_eq_true, rdWy, decide_eq_true_eq] at g
    subst e1 e2
    exact ⟨v, vs', rfl, x.rt g.1, t.rt g.2⟩
  | .io i :: ws, ds, vs, ass, g, h => by simp [rdWy] at g
  | .lo al :: ws, ds, vs, ass, g, h => by simp [rdWy] at g
def valWy : Wy → Bool
  | .val _ _ => true
  | .io _ => false
  | .lo _ => false
/-- all bans forgotten -/
theorem PdL.rp0 {src : No} : ∀ {ws : List Wy} {ds : List D} {vs : List V} {ass : List (List Addr)}, ws.all valWy = true → PdL K σ H B As src ws ds vs ass → RpL K H (fun _ => False) ds vs
  | [], ds, vs, ass, _, h => by rw [h.1, h.2.1]; simp [RpL]
  | .val al n :: ws, ds, vs, ass, g, h => by
    obtain ⟨d, ds', v, vs', as, ass', e1, e2, e3, x, dj, t⟩ := h
    simp only [List.all_cons, Bool.and_eq_true] at g
    subst e1 e2
    simp only [RpL]
    exact ⟨v, vs', rfl, x.ow.rp0, t.rp0 g.2⟩
  | .io i :: ws, ds, vs, ass, g, h => by simp [valWy] at g
  | .lo al :: ws, ds, vs, ass, g, h => by simp [valWy] at g
/-- all of the storey n, none an alias: one row of owned things -/
def evWy (n : Nat) : Wy → Bool
  | .val al m => al.isEmpty && decide (m = n)
  | .io _ => false
  | .lo _ => false
theorem PdL.owl {src : No} {n : Nat} : ∀ {ws : List Wy} {ds : List D} {vs : List V} {ass : List (List Addr)}, ws.all (evWy n) = true → PdL K σ H B As src ws ds vs ass →
    OwL K H B n ds vs ass.flatten ∧ ass.flatten.Nodup ∧ (∀ a ∈ ass.flatten, B a ∧ src a ∧ ∀ i, a ∉ As i)
  | [], ds, vs, ass, _, h => by
    rw [h.1, h.2.1, h.2.2]
    exact ⟨by simp [OwL], by simp, by simp⟩
  | .val al m :: ws, ds, vs, ass, g, h => by
    obtain ⟨d, ds', v, vs', as, ass', e1, e2, e3, x, dj, t⟩ := h
    simp only [List.all_cons, Bool.and_eq_true, evWy, decide_eq_true_eq, List.isEmpty_iff] at g
    obtain ⟨⟨g1, g2⟩, g3⟩ := g
    subst e1 e2 e3 g1 g2
    obtain ⟨q1, q2, q3⟩ := t.owl g3
    refine ⟨?_, ?_, fun a ha => ?_⟩
    · simp only [OwL, List.flatten_cons]
      exact ⟨v, vs', as, _, rfl, rfl, x.ow, q1⟩
    · rw [List.flatten_cons]
      refine List.nodup_append.mpr ⟨x.nd, q2, fun a ha b hb e => ?_⟩
      subst e
      obtain ⟨bs, h1, h2⟩ := List.mem_flatten.mp hb
      exact dj rfl a ha bs h1 h2
    · rw [List.flatten_cons] at ha
      rcases List.mem_append.mp ha with ha | ha
      · exact ⟨x.ban a ha, x.own rfl a ha⟩
      · exact q3 a ha
  | .io i :: ws, ds, vs, ass, g, h => by simp [evWy] at g
  | .lo al :: ws, ds, vs, ass, g, h => by simp [evWy] at g
end
section
variable {X : Cx} {F : Fns} {lv : List Nat} {Z : Str → D → Prop} {pos : Pos} {a b c : E} {ea eb ec : Expr} {l : List E} {es : List Expr}
def notStar : Expr → Bool
  | .Starred _ _ => false
  | _ => true
theorem star_ok {e : Expr} (h : notStar e = true) (es : List Expr) (env : PySem.Env) : starEach (e :: es) env = (false, eval e env) :: starEach es env := by cases e <;> first | rfl | cases h
theorem a_nil : SA X F lv Z [] [] := pa_of pa_nil fun σ H Q ⟨r, B, As, G, w⟩ => w H [] ⟨B, As, [], G, Stp.refl, rfl, rfl, rfl⟩
theorem a_cons (ha : SE X F lv Z a ea) (hl : SA X F lv Z l es) (hio : isIo a = false) (dj : ∀ i ∈ alE lv a, i ∉ wrL l) (hs : notStar ea = true) : SA X F lv Z (a :: l) (ea :: es) := by
  refine pa_of (pa_cons ha hl (star_ok hs es X.env)) fun σ H Q ⟨r, B, As, G, w⟩ => ?_
  simp only [evL] at w
  rw [wp_bind] at w
  refine tEv.mk G w fun dx r1 H1 B1 As1 x asx h1 G1 S1 X1 => ?_
  rw [wp_bind] at h1
  refine tEvL.mk G1 h1 fun ds r2 H2 B2 As2 vs ass h2 G2 S2 P2 => ?_
  have ww : ∀ i, ofL (wrE a) i ∨ ofL (wrL l) i → i ∈ wrL (a :: l) := fun i w => w.elim (List.mem_append_left _) (List.mem_append_right _)
  have X3 := X1.step G1 S2 dj
  refine h2 H2 (x :: vs) ⟨B2, As2, asx :: ass, G2, (S1.trans G S2).wide ww, ?_⟩
  rw [List.map_cons, wy_val hio]
  refine ⟨dx, ds, x, vs, asx, ass, rfl, rfl, rfl, X3.src fun u z => z.wide fun i w => ww i (.inl w), fun e u hu bs hb m => ?_, P2.src fun u z => (S1.src z).wide ww⟩
  rcases P2.mem bs hb u m with ⟨z, _⟩ | ⟨i, z⟩
  · rcases z with z | ⟨i, w, z⟩
    · obtain ⟨o, e2, _⟩ := G1.bin u (X1.ban u hu)
      rw [z] at e2
      cases e2
    · exact (X1.own e u hu).2 i z
  · exact (X3.own e u hu).2 i z
theorem a_io {i : Nat} {x : Str} (hN : X.N[i]? = some x) (hv : Vis X.env.scope x) (hd : (x == ("__debug__" : Str)) = false) (hcd : (x == ("__classdict__" : Str)) = false) (hl : SA X F lv Z l es) : SA X F lv Z (.io i :: l) (.Name x pos :: es) := by
  refine pa_of (pa_cons (pe_var hN hv hd hcd) hl (star_ok rfl es X.env)) fun σ H Q ⟨r, B, As, G, w⟩ => ?_
  simp only [evL, evE] at w
  split at w
  · rename_i d e
    obtain ⟨v, ev, _⟩ := G.slot i d e
    rw [wp_bind, wp_ok, wp_bind] at w
    refine ⟨v, ev, ?_⟩
    refine tEvL.mk G w fun ds r2 H2 B2 As2 vs ass h2 G2 S2 P2 => ?_
    exact h2 H2 (v :: vs) ⟨B2, As2, [] :: ass, G2, S2, ds, v, vs, ass, rfl, rfl, rfl, ev, P2⟩
  · cases w
/-! ### displays -/
theorem s_tup {k : Nat} (hl : SA X F lv Z l es) (hz : decide (l.length ≤ 1000) = true) (h : (l.map (wyE lv)).all (evWy 0) = true) : SE X F lv Z (.tup l) (.Tuple es k pos) := by
  refine pe_of (pe_tup hl) fun σ H Q ⟨r, B, As, G, w⟩ => ?_
  simp only [evE] at w
  rw [wp_bind] at w
  refine tEvL.mk G w fun ds r2 H2 B2 As2 vs ass h2 G2 S2 P2 => ?_
  have hz := of_decide_eq_true hz
  refine ⟨by rw [P2.len.2, List.length_map]; exact Nat.le_trans hz (by decide), ?_⟩
  have o := (P2.owl h).1
  exact (fin_of (n := 0) G S2 G2 h2).tup G2.noin (OwL.zero.mp o).2
theorem s_lst (hl : SA X F lv Z l es) (hz : decide (l.length ≤ 1000) = true) (h : (l.map (wyE lv)).all (evWy (lvL lv l)) = true) : SE X F lv Z (.lst l) (.List es pos) := by
  refine pe_of (pe_lst hl) fun σ H Q ⟨r, B, As, G, w⟩ => ?_
  simp only [evE] at w
  rw [wp_bind] at w
  refine tEvL.mk G w fun ds r2 H2 B2 As2 vs ass h2 G2 S2 P2 => ?_
  have hz := of_decide_eq_true hz
  refine ⟨by rw [P2.len.2, List.length_map]; exact Nat.le_trans hz (by decide), fun p hp => ?_⟩
  obtain ⟨q1, q2, q3⟩ := P2.owl h
  have hn := G2.new hp
  refine h2 _ _ ⟨fun a => a ∈ [p] ∨ B2 a, As2, p :: ass.flatten, G2.grow (Same.upd hp) (fun a ha => by rw [List.mem_singleton.mp ha]; exact hp) (fun a ha => ⟨.lst vs, by rw [List.mem_singleton.mp ha]; exact upd_same, rfl⟩), ?_, ?_, ?_, fun a ha => ?_, fun _ a ha => ?_, fun c => absurd rfl c⟩
  · exact (S2.trans (W' := fun _ => False) G (Stp.same' (Same.upd hp) (fun a z => z.elim (fun z => .inr (by rw [List.mem_singleton.mp z]; exact hp)) .inl) fun a z => .inr z)).wide fun i w => w.elim id False.elim
  · simp only [lvE, Ow]
    refine ⟨p, vs, _, rfl, upd_same, rfl, OwL.kp ⟨fun a o e _ => Same.upd hp a o e, fun a z => z.elim (fun z => .inr (by rw [List.mem_singleton.mp z]; exact hp)) .inl⟩ _ _ _ _ (fun a o _ e => Same.upd hp a o e) q1⟩
  · refine List.nodup_cons.mpr ⟨fun m => hn (q3 p m).1, q2⟩
  · rcases List.mem_cons.mp ha with e | ha
    · exact .inl (List.mem_singleton.mpr e)
    · exact .inr (q3 a ha).1
  · rcases List.mem_cons.mp ha with e | ha
    · subst e
      refine ⟨(S2.src (W' := fun _ => False) (.inl hp)).wide fun i w => w.elim id False.elim, fun i m => ?_⟩
      obtain ⟨o, e2⟩ := G2.here m
      rw [hp] at e2
      cases e2
    · exact (q3 a ha).2
/-! ### subscripts -/
def plainIx : Expr → Bool
  | .Slice _ _ none _ => false
  | _ => true
theorem plainIx_ok {e : Expr} (h : plainIx e = true) : PlainIx e := by
  intro o i
  cases e <;> first | rfl | skip
  rename_i lo hi st p
  cases st
  · cases h
  · rfl
theorem getD_nx (x y : D) : NoX (getD x y) := by
  intro c d
  unfold getD
  split <;> first | exact NoX.bad c d | skip
  · split <;> first | exact NoX.ok c d | exact NoX.bad c d
  · split <;> first | exact NoX.ok c d | exact NoX.bad c d
  · split <;> first | exact NoX.when c d | exact NoX.bad c d
  · split <;> first | exact NoX.ok c d | exact NoX.bad c d
theorem s_ix (hu : X.A.units + 64 < cLine) (ha : SE X F lv Z a ea) (hb : SE X F lv Z b eb) (dj : ∀ i ∈ alE lv a, i ∉ wrE b) (la : lvE lv a ≤ 1) (lb : lvE lv b ≤ 1) (hs : plainIx eb = true) : SE X F lv Z (.ix a b) (.Subscript ea eb pos) := by
  refine pe_of (pe_ix (ix_ok hu) ha hb (plainIx_ok hs)) fun σ H Q ⟨r, B, As, G, w⟩ => ?_
  simp only [evE] at w
  refine ev2 G w dj fun dx dy r1 r2 H2 B2 As2 x y asx asy h2 G2 S2 X1 X2 => ?_
  rw [wp_bind] at h2
  obtain ⟨d, e, q⟩ := h2.get (getD_nx dx dy)
  exact ⟨B2, dx, dy, d, X1.rt la, X2.rt lb, e, fun v hv => (fin_of (n := 0) G S2 G2 q).old hv⟩
theorem end_nx (x : D) : NoX (endI x) := by
  intro c d
  unfold endI
  split <;> first | exact NoX.ok c d | exact NoX.bad c d
theorem slice_nx (x : D) (l h : Option Int) : NoX (sliceD x l h) := by
  intro c d
  unfold sliceD
  split <;> first | exact NoX.when c d | exact NoX.ok c d | exact NoX.bad c d
/-- a part of a slice: not there, an int -/
def evP (F : Fns) (a : E) (r : Env) : Out (Option Int × Env) := if isAbs a then .ok (none, r) else (evE F a r).bind fun y => (endI y.1).bind fun l => .ok (some l, y.2)
def tEvP (K : Fg) (F : Fns) (lv : List Nat) (Z : Str → D → Prop) (a : E) : TO := fun σ H Q =>
  ∃ r B As, Good K lv σ H r B As ∧ wp (evP F a r) (fun p => ∀ H' B' As', Good K lv σ H' p.2 B' As' → Stp (ofL (wrE a)) H B As H' B' As' → Q p.1 H') Z
abbrev SO (X : Cx) (F : Fns) (lv : List Nat) (Z : Str → D → Prop) (a : E) (o : Option Expr) : Prop := PO X o (tEvP X.K F lv Z a)
theorem po_of {o : Option Expr} {t t' : TO} (h : PO X o t) (k : ∀ σ H Q, t' σ H Q → t σ H Q) : PO X o t' := ⟨fun pins s σ H Q I q => h.run pins s σ H Q I (k σ H Q q)⟩
theorem o_none : SO X F lv Z (.k .none) none := po_of po_none fun σ H Q ⟨r, B, As, G, w⟩ => w H B As G Stp.refl
theorem o_some (ha : SE X F lv Z a ea) (hn : isAbs a = false) : SO X F lv Z a (some ea) := by
  refine po_of (po_some ha) fun σ H Q ⟨r, B, As, G, w⟩ => ?_
  unfold evP at w
  rw [hn] at w
  simp only [Bool.false_eq_true, if_false] at w
  rw [wp_bind] at w
  refine tEv.mk G w fun dx r1 H1 B1 As1 x asx h1 G1 S1 X1 => ?_
  rw [wp_bind] at h1
  have hx := X1.ow.rp0
  cases dx <;> simp only [endI] at h1 <;> first | exact h1.elim | skip
  simp only [Rp] at hx
  exact ⟨_, hx, h1 H1 B1 As1 G1 S1⟩
theorem s_sl {n : Nat} {lo hi : E} {el eh : Option Expr} {p2 : Pos} (ha : SE X F lv Z a ea) (hl : SO X F lv Z lo el) (hh : SO X F lv Z hi eh) (dj : ∀ i ∈ alE lv a, i ∉ wrE lo) (dj2 : ∀ i ∈ alE lv a, i ∉ wrE hi) (la : lvE lv a ≤ 1) :
    SE X F lv Z (.sl n a lo hi) (.Subscript ea (.Slice el eh none p2) pos) := by
  refine pe_of (pe_slice sl_ok ha hl hh) fun σ H Q ⟨r, B, As, G, w⟩ => ?_
  simp only [evE] at w
  rw [wp_bind] at w
  refine tEv.mk G w fun dx r1 H1 B1 As1 x asx h1 G1 S1 X1 => ?_
  rw [wp_bind] at h1
  refine ⟨r1, B1, As1, G1, wp.imp (x := evP F lo r1) h1 fun y hy H2 B2 As2 G2 S2 => ?_⟩
  rw [wp_bind] at hy
  refine ⟨y.2, B2, As2, G2, wp.imp (x := evP F hi y.2) hy fun z hz H3 B3 As3 G3 S3 => ?_⟩
  rw [wp_bind] at hz
  obtain ⟨_, g, q⟩ := wp.get hz NoX.when
  obtain ⟨g, _⟩ := when_ok g
  rw [wp_bind] at q
  obtain ⟨d, e, q⟩ := q.get (slice_nx dx y.1 z.1)
  have X3 := (X1.step G1 S2 dj).step G2 S3 dj2
  have S13 : Stp (ofL (wrE (.sl n a lo hi))) H B As H3 B3 As3 := ((S1.trans G S2).trans G S3).wide fun i w => by
    rcases w with (w | w) | w
    · exact List.mem_append_left _ w
    · exact List.mem_append_right _ (List.mem_append_left _ w)
    · exact List.mem_append_right _ (List.mem_append_right _ w)
  simp only [Bool.or_eq_true, Bool.and_eq_true, beq_iff_eq] at g
  refine ⟨B3, dx, d, n, X3.rt la, G3.noin, e, ?_, ?_, fin_of G S13 G3 q⟩
  · rcases g with g | g <;> omega
  · exact g.imp id fun g => g.2
end
end Pv
end
section
/-! P11: reversed slices, built-in functions, types. -/
namespace Pv
open PySem PySem.Spec PyProof.Rows L2 HT
section
variable {prog : Program} {w : World} {A : Around} {E : Value → Shared → Prop} {s : Shared}
theorem adjust_rev (n : Nat) : Builtin.Slice.sliceAdjust none none (-1) (n : Int) = ((n : Int) - 1, -1) := by
  unfold Builtin.Slice.sliceAdjust
  simp
theorem places_rev (n : Nat) : Builtin.Slice.slicePlaces ((n : Int) - 1) (-1) (-1) = n := by
  unfold Builtin.Slice.slicePlaces
  simp
  try omega
theorem sliceApplied_rev {sl : Addr} {vl vu vs : Value} {n : Nat} {Q : Int × Int × Nat → Shared → Prop} (hs : s.heap.IsSliceOf sl vl vu vs) (pl : IsPart vl none) (pu : IsPart vu none) (ps : IsPart vs (some (-1)))
    (h : Q ((n : Int) - 1, -1, n) s) : wpAny (model prog w) A (Builtin.Slice.sliceApplied (.ref sl) (pure (n : Int))) Q E s := by
  obtain ⟨os, hos, hcs, hds⟩ := id hs
  unfold Builtin.Slice.sliceApplied Builtin.Slice.sliceFields
  refine wpAny_bind (wpAny_bind (wpAny_field hos hds (x := vl) rfl (wpAny_bind (wpAny_field hos hds (x := vu) rfl (wpAny_bind (wpAny_field hos hds (x := vs) rfl (wpAny_pure ?_)))))))
  refine wpAny_bind (slicePart_ ps ?_)
  show wpAny _ _ (if ((-1 : Int) == 0) = true then _ else _) _ _ s
  rw [if_neg (by decide)]
  refine wpAny_bind (slicePart_ pl (wpAny_bind (slicePart_ pu (wpAny_bind (wpAny_pure ?_)))))
  show wpAny _ _ (match Builtin.Slice.sliceAdjust none none (-1) (n : Int) with | (lo, hi) => pure (lo, (-1 : Int), Builtin.Slice.slicePlaces lo hi (-1))) _ _ s
  rw [adjust_rev n]
  show wpAny _ _ (pure ((n : Int) - 1, (-1 : Int), Builtin.Slice.slicePlaces ((n : Int) - 1) (-1) (-1))) _ _ s
  rw [places_rev]
  exact wpAny_pure h
theorem pick_rev (xs : Array Value) : ((List.range xs.size).filterMap fun (k : Nat) => xs[((xs.size : Int) - 1 + (k : Int) * -1).toNat]?).toArray = xs.toList.reverse.toArray := by
  have e : (fun (k : Nat) => xs[((xs.size : Int) - 1 + (k : Int) * -1).toNat]?) = (fun i => xs[i]?) ∘ fun k => xs.size - 1 - k := by
    funext k
    have : ((xs.size : Int) - 1 + (k : Int) * -1).toNat = xs.size - 1 - k := by omega
    simp only [Function.comp]
    rw [this]
  rw [e, ← List.filterMap_map, PySem.W.krv_range, List.filterMap_reverse, PySem.W.krv_all]
theorem getItem_tuple_rev {t sl : Addr} {items : Array Value} {vl vu vs : Value} {Q : Value → Shared → Prop} (ht : IsTup s.heap t items) (hs : s.heap.IsSliceOf sl vl vu vs) (pl : IsPart vl none) (pu : IsPart vu none) (ps : IsPart vs (some (-1)))
    (h : Q (.ref s.heap.objs.size) { s with heap := s.heap.push { cls := .type "tuple", data := .seq items.toList.reverse.toArray } })
    (hsz : items.size ≤ sizeLine) : wpAny (model prog w) A (getItem (.ref t) (.ref sl)) Q E s := by
  have htake : sizeOk (.seq items.toList.reverse.toArray) := by
    show items.toList.reverse.toArray.size ≤ sizeLine
    rw [List.size_toArray, List.length_reverse, Array.length_toList]
    exact hsz
  obtain ⟨os, hos, hcs, hds⟩ := id hs
  have hTs : s.TypeIs (.ref sl) "slice" := ⟨os, hos, hcs⟩
  unfold getItem
  try with_reducible refine wpAny_holding ?_
  first | refine wpAny_bind (wpAny_pure ?_) | skip
  refine wpAny_bind (wpAny_sequenceKey ht.typeIs (by decide) ?_)
  refine wpAny_bind (wpAny_callSpecial?_slot (name := Str.ofString "__getitem__") ht.typeIs PyProof.Rows.slot_tuple_getitem
    (wpAny_call_entry PyProof.Rows.slot_tuple_getitem ht.typeIs entry_tuple_getitem ?_ (args_tuple_getitem _ _)))
  show wpAny _ _ (Builtin.Tuple.tupleItemsOf (.ref t) >>= _) _ _ s
  refine wpAny_bind (tupleItemsOf_ ht ?_)
  refine wpAny_bind (wpAny_typeOf hTs ?_)
  rw [if_pos (by decide)]
  refine wpAny_bind (sliceApplied_rev hs pl pu ps ?_)
  have hno : ¬ (((items.size : Int) - 1 == 0 && (-1 : Int) == 1 && items.size == items.size) = true) := by simp
  show wpAny _ _ (if ((items.size : Int) - 1 == 0 && (-1 : Int) == 1 && items.size == items.size) = true then _ else _) _ _ s
  rw [if_neg hno, pick_rev]
  first
    | exact wpAny_bind (m := Builtin.Tuple.tupleExact _) (wpAny_newObj_type (wpAny_pure ⟨_, rfl, wpAny_pure h⟩) htake)
    | exact wpAny_bind (m := Builtin.Tuple.tupleExact _) (wpAny_newObj_type (wpAny_bind (wpAny_pure (wpAny_pure ⟨_, rfl, wpAny_pure h⟩))) htake)
    | exact wpAny_bind (wpAny_bind (m := Builtin.Tuple.tupleExact _) (wpAny_newObj_type (wpAny_pure (wpAny_pure ⟨_, rfl, wpAny_pure h⟩)) htake))
    | exact wpAny_bind (wpAny_bind (m := Builtin.Tuple.tupleExact _) (wpAny_newObj_type (wpAny_pure ⟨_, rfl, wpAny_pure h⟩) htake))
end
section
variable {X : Cx} {F : Fns} {lv : List Nat} {Z : Str → D → Prop} {pos : Pos} {a b c : E} {ea eb ec : Expr} {l : List E} {es : List Expr}
theorem rev_nx (x : D) : NoX (revD x) := by
  intro c d
  unfold revD
  split <;> first | exact NoX.ok c d | exact NoX.bad c d
theorem s_rev {k : Nat} {p1 p2 p3 : Pos} (ha : SE X F lv Z a ea) (la : lvE lv a ≤ 1) : SE X F lv Z (.rev a) (.Subscript ea (.Slice none none (some (.UnaryOp .USub (.Constant (.int 1) k p1) p2)) p3) pos) := by
  refine ⟨fun pins s σ H Q I ⟨r, B, As, G, w⟩ => ?_⟩
  simp only [evE] at w
  rw [wp_bind] at w
  refine Subscript_ (thn (ha.run pins s σ H (fun x H1 => ∃ B dx d, Rt X.K H1 B dx x ∧ NoIn H1 B ∧ revD dx = .ok d ∧ Fin X.K H1 B 0 d Q) I (tEv.mk G w fun dx r1 H1 B1 As1 x asx h1 G1 S1 X1 => ?_)) fun v s1 ⟨x, H1, I1, r1, B, dx, d, rt, hb, e, f⟩ => ?_)
  · rw [wp_bind] at h1
    obtain ⟨d, e, q⟩ := h1.get (rev_nx dx)
    exact ⟨B1, dx, d, X1.rt la, G1.noin, e, fin_of (n := 0) G S1 G1 q⟩
  · have hst : PO X (some (.UnaryOp .USub (.Constant (.int 1) k p1) p2)) (tPart (tUn (rU fun i => .int (-i)) (tC (.int 1)))) := L2.po_some (pe_un un_neg pe_int)
    refine wpAny_Slice (thn (po_none.run pins s1 σ H1 (fun o H2 => o = none ∧ H2 = H1) I1 ⟨rfl, rfl⟩) fun vl s2 ⟨l, H2, I2, pl, el, e2⟩ => ?_)
    subst el e2
    refine thn (po_none.run pins s2 σ H2 (fun o H3 => o = none ∧ H3 = H2) I2 ⟨rfl, rfl⟩) fun vu s3 ⟨u, H3, I3, pu, eu, e3⟩ => ?_
    subst eu e3
    refine thn (hst.run pins s3 σ H3 (fun o H4 => o = some (-1) ∧ H4 = H3) I3 ⟨1, rfl, -1, rfl, rfl, rfl⟩) fun vs s4 ⟨o, H4, I4, ps, eo, e4⟩ => ?_
    subst eo e4
    have I5 : Inv X pins σ H4 { s4 with heap := s4.heap.push { cls := .type "slice", data := .fields #[vl, vu, vs] } } := I4.kept (t' := s4.toks) fun b ob q => Heap.get?_push_of_some _ q
    show wpAny (model X.prog X.w) X.A (subscriptTail ea (.Slice none none (some (.UnaryOp .USub (.Constant (.int 1) k p1) p2)) p3) v (.ref s4.heap.objs.size)) (EP X pins σ Q) X.xe { s4 with heap := s4.heap.push { cls := .type "slice", data := .fields #[vl, vu, vs] } }
    cases dx <;> simp only [revD] at e <;> first | (cases e; done) | skip
    · obtain ⟨a, xs, its, rfl, rfl, q1, rp, v1, l1, z1, e1, e2⟩ := list_at I5 r1 rt
      cases e
      refine tail_any (ops := [.ref a, .ref s4.heap.objs.size]) l1.typeIs (PySem.slot_list_getitem.lookup) ?_ (by with_unfolding_all rfl)
      refine wpAny_getItem_list_slice l1 (Heap.IsSliceOf.new _ vl vu vs) pl pu ps (by decide) ?_ (by rw [List.size_toArray]; omega)
      rw [PySem.W.krv_pick]
      exact ⟨.ref _, _, I5.laid (t' := s4.toks) (o := .lst xs.reverse) (fun b ob q => Heap.get?_push_of_some _ q) (Nat.le_refl _) ⟨by rw [List.length_reverse]; exact z1, _, 0, v1.reverse, Heap.get?_push_size _ rfl⟩, rfl, f.lst hb (Nat.zero_le _) rp.rev _ (I5.hok.fresh (Nat.le_refl _))⟩
    · obtain ⟨a, xs, its, rfl, rfl, q1, rp, v1, l1, z1, e1, e2⟩ := tup_at I5 r1 rt
      cases e
      refine tail_any (ops := [.ref a, .ref s4.heap.objs.size]) l1.typeIs (PyProof.Rows.slot_tuple_getitem.lookup) ?_ (by with_unfolding_all rfl)
      refine getItem_tuple_rev l1 (Heap.IsSliceOf.new _ vl vu vs) pl pu ps ?_ (by rw [List.size_toArray]; omega)
      exact ⟨.ref _, _, I5.laid (t' := s4.toks) (o := .tup xs.reverse) (fun b ob q => Heap.get?_push_of_some _ q) (Nat.le_refl _) ⟨by rw [List.length_reverse]; exact z1, _, v1.reverse, IsTup.new _ _⟩, rfl, f.tup hb rp.rev _ (I5.hok.fresh (Nat.le_refl _))⟩
/-! ### built-in functions -/
def biName : Bi → Str
  | .len => "len" | .all => "all" | .any => "any" | .sum => "sum" | .min => "min" | .max => "max" | .sorted => "sorted"
  | .abs => "abs" | .int => "int" | .str => "str" | .repr => "repr" | .list => "list" | .tuple => "tuple" | .dict => "dict" | .bool => "bool" | _ => ""
def biImm : Bi → Bool
  | .len => true | .all => true | .any => true | .sum => true | .abs => true | .int => true | .str => true | .repr => true | .bool => true | _ => false
theorem lenD_imm {x d : D} (h : lenD x = .ok d) : immD d = true := by
  unfold lenD at h
  split at h <;> first | (cases h; done) | (obtain ⟨_, rfl⟩ := when_ok h; rfl) | (cases h; rfl)
theorem biD_imm {b : Bi} {ds : List D} {d : D} (hb : biImm b = true) (h : biD b ds = .ok d) : immD d = true := by
  unfold biD at h
  split at h <;> first | (cases hb; done) | (cases h; done) | exact lenD_imm h | (cases h; rfl) | (obtain ⟨_, rfl⟩ := when_ok h; rfl) | skip
  · unfold allD at h
    split at h <;> first | (cases h; done) | (obtain ⟨_, rfl⟩ := when_ok h; rfl)
  · unfold anyD at h
    split at h <;> first | (cases h; done) | (obtain ⟨_, rfl⟩ := when_ok h; rfl)
  · unfold sumD at h
    split at h <;> first | (cases h; done) | (obtain ⟨_, rfl⟩ := when_ok h; rfl)
theorem bi_nx (b : Bi) (ds : List D) : NoX (biD b ds) := by
  intro c d h
  unfold biD at h
  split at h <;> first | (exact NoX.when c d h) | (exact NoX.ok c d h) | (exact NoX.bad c d h) | skip
  · unfold lenD at h
    split at h <;> first | (exact NoX.when c d h) | (exact NoX.ok c d h) | (exact NoX.bad c d h)
  · unfold allD at h
    split at h <;> first | (exact NoX.when c d h) | (exact NoX.ok c d h) | (exact NoX.bad c d h)
  · unfold anyD at h
    split at h <;> first | (exact NoX.when c d h) | (exact NoX.ok c d h) | (exact NoX.bad c d h)
  · unfold sumD at h
    split at h <;> first | (exact NoX.when c d h) | (exact NoX.ok c d h) | (exact NoX.bad c d h)
  all_goals
    first | unfold minL at h | unfold maxL at h
    split at h <;> first | (exact NoX.when c d h) | (exact NoX.ok c d h) | (exact NoX.bad c d h)
theorem star_any {pos : Pos} {env : PySem.Env} : ∀ {es : List Expr}, es.all notStar = true → (backTo pos (starEach es env)).any (·.1) = false
  | [], _ => rfl
  | e :: es, h => by
    simp only [List.all_cons, Bool.and_eq_true] at h
    rw [star_ok h.1]
    have := star_any (pos := pos) (env := env) h.2
    unfold backTo at this ⊢
    simpa using this
theorem tEvL.bi {n : Nat} {b : Bi} {σ : Sg} {H : Hp} {Q : VK} (hn : n = lvBi b) (hw : (l.map (wyE lv)).all rdWy = true ∨ ((l.map (wyE lv)).all valWy = true ∧ biImm b = true)) (h : tEv X.K F lv Z (.bi b l) σ H Q) :
    tEvL X.K F lv Z l σ H fun vs H1 => rBi X.K b n vs H1 Q := by
  subst hn
  obtain ⟨r, B, As, G, w⟩ := h
  simp only [evE] at w
  rw [wp_bind] at w
  refine tEvL.mk G w fun ds r2 H2 B2 As2 vs ass h2 G2 S2 P2 => ?_
  rw [wp_bind] at h2
  obtain ⟨d, e, q⟩ := h2.get (bi_nx b ds)
  have f := fin_of (n := lvBi b) G S2 G2 q
  rcases hw with hw | ⟨hw, hi⟩
  · exact ⟨B2, ds, d, P2.rt hw, G2.noin, e, f⟩
  · have z : lvBi b = 0 := by cases b <;> first | rfl | cases hi
    rw [z] at f ⊢
    exact ⟨fun _ => False, ds, d, (P2.rp0 hw).rt, fun _ z => z.elim, e, f.plain (biD_imm hi e) G2.bin⟩
theorem s_bi (hc : X.calm = true) (hu : X.A.units + 64 < cLine) (hgd : X.A.guards = some []) {b : Bi} {nm : Pos} (hb : biHere b = true) (hg : Gl X (biName b)) (hm : X.mg (biName b) = none) (hl : SA X F lv Z (a :: l) (ea :: es))
    (hs : (ea :: es).all notStar = true) (hw : ((a :: l).map (wyE lv)).all rdWy = true ∨ (((a :: l).map (wyE lv)).all valWy = true ∧ biImm b = true)) : SE X F lv Z (.bi b (a :: l)) (.Call (.Name (biName b) nm) (ea :: es) [] pos) := by
  have hs' : notStar ea = true ∧ es.all notStar = true := by simpa only [List.all_cons, Bool.and_eq_true] using hs
  have h1 := star_ok hs'.1 es X.env
  have h2 := star_any (pos := pos) (env := X.env) hs'.2
  have go : ∀ (n : Nat), n = lvBi b → CallR X (biVal b) (rBi X.K b n) := fun n e => by rw [e]; exact bi_ok hc hu hgd b hb
  cases b <;> first | (cases hb; done) | skip
  all_goals
    first
      | exact pe_of (pe_callB (go _ rfl) hg hm (by rfl) hl (by decide) (by decide) h1 h2) fun σ H Q h => tEvL.bi rfl hw h
      | exact pe_of (pe_callTy (go _ rfl) hg hm (by rfl) hl (by decide) (by decide) h1 h2) fun σ H Q h => tEvL.bi rfl hw h
end
end Pv
end
section
/-! P12: fewer storeys, owned items, methods. -/
namespace Pv
open PySem PySem.Spec PyProof.Rows L2
section
variable {K : Fg} {F : Fns} {lv : List Nat} {Z : Str → D → Prop} {σ : Sg} {H H' H0 : Hp} {r r' : Env} {B B' B0 : No} {As As' As0 : AsT} {W W' : Nat → Prop}
/-- ownership given up -/
theorem Good.less (G : Good K lv σ H r B As) {as bs : List Addr} (h : ∀ i a, a ∈ As i → a ∉ as) : Good K lv σ H r (Less B as bs) As where
  slot := fun i d e => by
    obtain ⟨v, e2, ow⟩ := G.slot i d e
    exact ⟨v, e2, ow.ban fun a z => z.1⟩
  off := G.off
  nd := G.nd
  dj := G.dj
  ban := fun i a m => ⟨G.ban i a m, fun z => absurd z (h i a m)⟩
  bin := fun a z => G.bin a z.1
  len := G.len
theorem Stp.less (G0 : Good K lv σ H0 r B0 As0) (S : Stp W H0 B0 As0 H B As) {as bs : List Addr} (h : ∀ a ∈ as, Src W H0 As0 a) : Stp W H0 B0 As0 H (Less B as bs) As where
  keep := S.keep
  ban := fun a z => S.ban a z.1
  hold := fun a z n => ⟨S.hold a z n, fun m => by
    rcases h a m with e | ⟨i, w, m2⟩
    · obtain ⟨o, e2, _⟩ := G0.bin a z
      rw [e] at e2
      cases e2
    · exact absurd m2 (n i w)⟩
  frm := S.frm
  same := S.same
/-- the slot i rewritten, its object at a -/
theorem Good.put (G : Good K lv σ H r B As) {i : Nat} {a : Addr} {o : HO} {d : D} {v : V} {as : List Addr} (ha : a ∈ As i) (hl : isLD o = true) (hv : σ[i]? = some (some v)) (hi : i < r.length) (ow : Ow K (upd H a o) B (lv.getD i 0) d v as) (nd : as.Nodup)
    (h : ∀ z ∈ as, B z ∧ ∀ j, j ≠ i → z ∉ As j) : Good K lv σ (upd H a o) (r.set i (some d)) B (fun j => if j = i then as else As j) where
  slot := fun j x e => by
    by_cases c : j = i
    · subst c
      rw [List.getElem?_set_self hi] at e
      cases e
      rw [if_pos rfl]
      exact ⟨v, hv, ow⟩
    · rw [List.getElem?_set_ne (fun z => c z.symm)] at e
      obtain ⟨y, e2, q⟩ := G.slot j x e
      rw [if_neg c]
      have n1 : ∀ b, ¬ B b → b ≠ a := fun b n z => by
        subst z
        exact n (G.ban i b ha)
      have n2 : ∀ b, b ∈ As j → b ≠ a := fun b hb z => by
        subst z
        exact G.dj j i b c hb ha
      exact ⟨y, e2, Ow.kp ⟨fun b u e n => (upd_ne (n1 b n)).trans e, fun b z => .inl z⟩ _ x y _ (fun b u hb e => (upd_ne (n2 b hb)).trans e) q⟩
  off := fun j q => by
    by_cases c : j = i
    · subst c
      exact absurd (List.getElem?_set_self hi) (q d)
    · rw [if_neg c]
      refine G.off j fun x z => q x ?_
      rw [List.getElem?_set_ne (fun z => c z.symm)]
      exact z
  nd := fun j => by
    by_cases c : j = i
    · rw [if_pos c]; exact nd
    · rw [if_neg c]; exact G.nd j
  dj := fun j k z n m m2 => by
    by_cases c : j = i
    · rw [if_pos c] at m
      rw [if_neg (fun e => n (c.trans e.symm))] at m2
      exact (h z m).2 k (fun e => n (c.trans e.symm)) m2
    · rw [if_neg c] at m
      by_cases c2 : k = i
      · rw [if_pos c2] at m2
        exact (h z m2).2 j c m
      · rw [if_neg c2] at m2
        exact G.dj j k z n m m2
  ban := fun j z m => by
    by_cases c : j = i
    · rw [if_pos c] at m; exact (h z m).1
    · rw [if_neg c] at m; exact G.ban j z m
  bin := fun z q => by
    by_cases c : z = a
    · exact ⟨o, by rw [c]; exact upd_same, hl⟩
    · rw [upd_ne c]
      exact G.bin z q
  len := by rw [List.length_set]; exact G.len
theorem Stp.put (S : Stp W H0 B0 As0 H B As) {i : Nat} {a : Addr} {o : HO} {as : List Addr} (hi : W i) (ha : a ∈ As i) (h : ∀ z ∈ as, Src W H0 As0 z) : Stp W H0 B0 As0 (upd H a o) B (fun j => if j = i then as else As j) where
  keep := fun z u e n => by
    rw [upd_ne]
    · exact S.keep z u e n
    · intro c
      subst c
      rcases S.frm i hi z ha with ⟨j, w, m⟩ | e2
      · exact n j w m
      · rw [e] at e2
        cases e2
  ban := S.ban
  hold := S.hold
  frm := fun j w z m => by
    by_cases c : j = i
    · rw [if_pos c] at m
      exact (h z m).elim .inr .inl
    · rw [if_neg c] at m
      exact S.frm j w z m
  same := fun j w => by
    have : j ≠ i := fun c => by
      subst c
      exact w hi
    exact (if_neg this).trans (S.same j w)
theorem Stp.srcOf (S : Stp W H0 B0 As0 H B As) {i : Nat} (hi : W i) {z : Addr} (m : z ∈ As i) : Src W H0 As0 z := (S.frm i hi z m).elim .inr .inl
theorem OwL.get : ∀ {n : Nat} {ds : List D} {xs : List V} {as : List Addr} {i : Nat} {d : D}, OwL K H B n ds xs as → ds[i]? = some d → ∃ v bs, xs[i]? = some v ∧ bs.Sublist as ∧ Ow K H B n d v bs
  | n, [], xs, as, i, d, h, e => by simp at e
  | n, x :: ds, xs, as, 0, d, h, e => by
    simp only [OwL] at h
    obtain ⟨v, r, bs, cs, rfl, rfl, h1, h2⟩ := h
    simp at e
    subst e
    exact ⟨v, bs, rfl, List.sublist_append_left _ _, h1⟩
  | n, x :: ds, xs, as, i + 1, d, h, e => by
    simp only [OwL] at h
    obtain ⟨v, r, bs, cs, rfl, rfl, h1, h2⟩ := h
    obtain ⟨w, es, e1, e2, e3⟩ := h2.get (i := i) (d := d) (by simpa using e)
    exact ⟨w, es, by simpa using e1, e2.trans (List.sublist_append_right _ _), e3⟩
theorem OwL.app : ∀ {n : Nat} {ds es : List D} {xs ys : List V} {as bs : List Addr}, OwL K H B n ds xs as → OwL K H B n es ys bs → OwL K H B n (ds ++ es) (xs ++ ys) (as ++ bs)
  | n, [], es, xs, ys, as, bs, h, k => by
    simp only [OwL] at h
    obtain ⟨rfl, rfl⟩ := h
    exact k
  | n, d :: ds, es, xs, ys, as, bs, h, k => by
    simp only [OwL] at h
    obtain ⟨v, r, cs, ts, rfl, rfl, h1, h2⟩ := h
    simp only [List.cons_append, OwL]
    exact ⟨v, r ++ ys, cs, ts ++ bs, rfl, by rw [List.append_assoc], h1, h2.app k⟩
theorem OwL.one {n : Nat} {d : D} {v : V} {as : List Addr} (h : Ow K H B n d v as) : OwL K H B n [d] [v] as := by
  simp only [OwL]
  exact ⟨v, [], as, [], rfl, by simp, h, rfl, rfl⟩
/-- an item taken out: what it owns, what stays -/
theorem OwL.ers : ∀ {n : Nat} {ds : List D} {xs : List V} {as : List Addr} {i : Nat} {d : D}, OwL K H B n ds xs as → as.Nodup → ds[i]? = some d →
    ∃ v bs cs, xs[i]? = some v ∧ bs.Sublist as ∧ cs.Sublist as ∧ (∀ a ∈ bs, a ∉ cs) ∧ Ow K H B n d v bs ∧ OwL K H B n (ds.eraseIdx i) (xs.eraseIdx i) cs
  | n, [], xs, as, i, d, h, nd, e => by simp at e
  | n, x :: ds, xs, as, 0, d, h, nd, e => by
    simp only [OwL] at h
    obtain ⟨v, r, bs, cs, rfl, rfl, h1, h2⟩ := h
    simp at e
    subst e
    exact ⟨v, bs, cs, rfl, List.sublist_append_left _ _, List.sublist_append_right _ _, fun a m m2 => (List.nodup_append.mp nd).2.2 a m a m2 rfl, h1, by simpa using h2⟩
  | n, x :: ds, xs, as, i + 1, d, h, nd, e => by
    simp only [OwL] at h
    obtain ⟨v, r, bs, cs, rfl, rfl, h1, h2⟩ := h
    have nd' := List.nodup_append.mp nd
    obtain ⟨w, es, ts, e1, e2, e3, e4, e5, e6⟩ := h2.ers (i := i) (d := d) nd'.2.1 (by simpa using e)
    refine ⟨w, es, bs ++ ts, by simpa using e1, e2.trans (List.sublist_append_right _ _), (List.Sublist.refl bs).append e3, fun a m m2 => ?_, e5, ?_⟩
    · rcases List.mem_append.mp m2 with m2 | m2
      · exact nd'.2.2 a m2 a (e2.subset m) rfl
      · exact e4 a m m2
    · simp only [List.eraseIdx_cons_succ, OwL]
      exact ⟨v, r.eraseIdx i, bs, ts, rfl, rfl, h1, e6⟩
theorem rest_len {α : Type} {xs : List α} {i : Nat} {a : α} (h : xs[i]? = some a) : i < xs.length := (List.getElem?_eq_some_iff.mp h).1
end
section
variable {X : Cx} {F : Fns} {lv : List Nat} {Z : Str → D → Prop} {pos : Pos} {a b c : E} {ea eb ec : Expr} {l : List E} {es : List Expr}
theorem s_dn {m : Nat} (ha : SE X F lv Z a ea) (hm : m ≤ lvE lv a) (hal : alE lv a = []) : SE X F lv Z (.dn m a) ea := by
  refine pe_of ha fun σ H Q ⟨r, B, As, G, w⟩ => ?_
  simp only [evE] at w
  refine tEv.mk G w fun dx r1 H1 B1 As1 x asx h1 G1 S1 X1 => ?_
  obtain ⟨bs, sb, ow⟩ := Ow.down _ m dx x asx hm X1.nd X1.ow
  refine h1 H1 x ⟨Less B1 asx bs, As1, bs, G1.less fun i u m z => (X1.own hal u z).2 i m, S1.less G fun u z => (X1.own hal u z).1, ow, sb.nodup X1.nd, fun u m => ⟨X1.ban u (sb.subset m), fun _ => m⟩, fun _ u m => X1.own hal u (sb.subset m), fun c => absurd rfl c⟩
theorem s_chk {m : Nat} (ha : SE X F lv Z a ea) (hm : lvE lv a = 0) : SE X F lv Z (.chk m a) ea := by
  refine pe_of ha fun σ H Q ⟨r, B, As, G, w⟩ => ?_
  simp only [evE] at w
  rw [wp_bind] at w
  refine tEv.mk G w fun dx r1 H1 B1 As1 x asx h1 G1 S1 X1 => ?_
  obtain ⟨g, q⟩ := wp_when.mp h1
  have ow := X1.ow
  rw [hm] at ow
  exact q H1 x ⟨B1, As1, [], G1, S1, imm_ow m g (Ow.zero.mp ow).2, List.nodup_nil, by simp, by simp, by simp⟩
theorem ix2_nx (x y : D) : NoX (getD2 x y) := by
  intro c d
  unfold getD2
  split <;> first | exact NoX.bad c d | skip
  split <;> first | exact NoX.ok c d | exact NoX.bad c d
theorem s_ix2 (ha : SE X F lv Z a ea) (hb : SE X F lv Z b eb) (dj : ∀ i ∈ alE lv a, i ∉ wrE b) (la : 1 ≤ lvE lv a) (hs : plainIx eb = true) : SE X F lv Z (.ix2 a b) (.Subscript ea eb pos) := by
  refine pe_of (pe_ix ix_list ha hb (plainIx_ok hs)) fun σ H Q ⟨r, B, As, G, w⟩ => ?_
  simp only [evE] at w
  refine ev2 G w dj fun dx dy r1 r2 H2 B2 As2 x y asx asy h2 G2 S2 X1 X2 => ?_
  rw [wp_bind] at h2
  obtain ⟨d, e, q⟩ := h2.get (ix2_nx dx dy)
  cases dx <;> simp only [getD2] at e <;> first | (cases e; done) | skip
  cases dy <;> simp only at e <;> first | (cases e; done) | skip
  rename_i ds i
  split at e <;> cases e
  rename_i e1
  obtain ⟨j, e2, e3⟩ := Option.bind_eq_some_iff.mp e1
  obtain ⟨n, hn⟩ : ∃ n, lvE lv a = n + 1 := ⟨lvE lv a - 1, by omega⟩
  have ow := X1.ow
  rw [hn] at ow
  simp only [Ow] at ow
  obtain ⟨p, xs, bs, rfl, h3, e4, h4⟩ := ow
  obtain ⟨v, cs, e5, sb, ov⟩ := h4.get e3
  have sb2 : cs.Sublist asx := by rw [e4]; exact sb.trans (List.sublist_cons_self _ _)
  have hy := X2.ow.rp0
  simp only [Rp] at hy
  refine ⟨p, xs, i, v, rfl, hy, SqL.of h3, ?_, ?_⟩
  · unfold atI
    rw [← ixD_eq, ← h4.len, e2]
    exact e5
  · refine q H2 v ⟨B2, As2, cs, G2, S2, ?_, sb2.nodup X1.nd, fun u m => X1.ban u (sb2.subset m), fun c u m => ⟨((X1.own c u (sb2.subset m)).1).wide fun i w => List.mem_append_left _ w, (X1.own c u (sb2.subset m)).2⟩, fun c u m => X1.bor c u (sb2.subset m)⟩
    show Ow _ _ _ (lvE lv a - 1) _ _ _
    rw [hn]
    exact ov
/-! ### types -/
def tyN : Ty → String
  | .list => "list" | .tuple => "tuple" | .str => "str" | .int => "int" | .bool => "bool" | .dict => "dict"
theorem isa_ok {pins : List (Addr × Obj)} {σ : Sg} {H : Hp} {s : Shared} {A : Around} {E : Value → Shared → Prop} {Q : Value → Shared → Prop} {x : V} {u : Value} {d : D} {no : No} {t : Ty} (I : Inv X pins σ H s) (rx : RelV x u) (hx : Rp X.K H no d x)
    (h : ∀ tk, Q (.bool (isaD t d)) { s with toks := tk }) : wpAny (model X.prog X.w) A (call (.builtin "isinstance") [u, .type (tyN t)]) Q E s := by
  cases d with
  | none =>
    simp only [Rp] at hx
    subst hx
    cases (show u = Value.none from rx)
    exact PySem.W.kia_one PySem.W.kitx_none I.kIn True.intro (by cases t <;> rfl) (fun z => nomatch z) h
  | bool y =>
    simp only [Rp] at hx
    subst hx
    cases (show u = Value.bool y from rx)
    exact PySem.W.kia_one PySem.W.kitx_bool I.kIn True.intro (by cases t <;> rfl) (fun z => nomatch z) h
  | int y =>
    simp only [Rp] at hx
    subst hx
    obtain ⟨t', rfl⟩ := (show ∃ t, u = Value.int y t from rx)
    exact PySem.W.kia_one PySem.W.kitx_int I.kIn True.intro (by cases t <;> rfl) (fun z => nomatch z) h
  | str y =>
    simp only [Rp] at hx
    subst hx
    obtain ⟨t', rfl⟩ := (show ∃ t, u = Value.str y t from rx)
    exact PySem.W.kia_one PySem.W.kitx_str I.kIn True.intro (by cases t <;> rfl) (fun z => nomatch z) h
  | list ds =>
    obtain ⟨p, xs, its, rfl, rfl, q1, r1, v1, ⟨o, ho, hc, _⟩, z1, e1, e2⟩ := list_at I rx hx.rt
    exact PySem.W.kia_one PySem.W.kitx_list I.kIn ⟨o, ho, hc⟩ (by cases t <;> rfl) (fun z => nomatch z) h
  | tuple ds =>
    obtain ⟨p, xs, its, rfl, rfl, q1, r1, v1, ⟨o, ho, hc, _⟩, z1, e1, e2⟩ := tup_at I rx hx
    exact PySem.W.kia_one PySem.W.kitx_tuple I.kIn ⟨o, ho, hc⟩ (by cases t <;> rfl) (fun z => nomatch z) h
  | dict kvs =>
    obtain ⟨p, rfl, hd⟩ := rt_dict hx.rt
    cases rx
    have : ∃ o, s.heap.get? p = some o ∧ o.cls = .type "dict" := by
      rcases hd with ⟨es, h1, _⟩ | ⟨es, h1, _⟩
      · obtain ⟨_, _, _, _, o, _, _, e, ex, _⟩ := dk_rd I.hok h1
        exact ⟨o, e, ex.1⟩
      · obtain ⟨_, _, _, _, o, _, _, e, ex, _⟩ := dt_rd I.hok h1
        exact ⟨o, e, ex.1⟩
    obtain ⟨o, ho, hc⟩ := this
    exact PySem.W.kia_one PySem.W.kitx_dict I.kIn ⟨o, ho, hc⟩ (by cases t <;> rfl) (fun z => nomatch z) h
def rIsa (K : Fg) (t : Ty) : List V → Hp → VK → Prop := fun vs H Q => ∃ x d no, vs = [x, .ty (tyN t)] ∧ Rp K H no d x ∧ Q (.bl (isaD t d)) H
theorem call_isa (t : Ty) : CallR X (.builtin "isinstance") (rIsa X.K t) := by
  intro pins s σ H vs us Q I rv ⟨x, d, no, e, hx, q⟩
  subst e
  obtain ⟨u, u2, rfl, r1, r2⟩ := vals2 rv
  cases (show u2 = Value.type (tyN t) from r2)
  exact isa_ok I r1 hx fun tk => ⟨.bl _, H, I.tok tk, rfl, q⟩
theorem s_isa {t : Ty} {nm p2 : Pos} (ha : SE X F lv Z a ea) (hs : notStar ea = true) (hg : Gl X "isinstance") (hm : X.mg "isinstance" = none) (hg2 : Gl X (tyN t)) (hm2 : X.mg (tyN t) = none) :
    SE X F lv Z (.isa a [t]) (.Call (.Name "isinstance" nm) [ea, .Name (tyN t) p2] [] pos) := by
  have hT : PE X (.Name (tyN t) p2) (tC (.ty (tyN t))) := by
    cases t <;> exact pe_bltn hg2 hm2 (u := .type _) (by rfl) rfl (by decide) (by decide)
  refine pe_of (pe_callB (call_isa t) hg hm (by rfl) (pa_cons ha (pa_cons hT pa_nil) (star_ok hs _ _)) (by decide) (by decide) (star_ok hs _ _) rfl) fun σ H Q ⟨r, B, As, G, w⟩ => ?_
  simp only [evE] at w
  rw [wp_bind] at w
  refine tEv.mk G w fun dx r1 H1 B1 As1 x asx h1 G1 S1 X1 => ?_
  refine ⟨x, dx, _, rfl, X1.ow.rp0, ?_⟩
  have := (fin_of (n := 0) G S1 G1 h1).bool
  simpa using this
end
end Pv
end
section
/-! P13: methods that write, join. -/
namespace Pv
open PySem PySem.Spec PyProof.Rows L2
section
variable {K : Fg} {H : Hp} {B : No}
theorem OwL.updA {n : Nat} {ds : List D} {xs : List V} {bs : List Addr} {a : Addr} {o : HO} (h : OwL K H B n ds xs bs) (ha : B a) (hn : a ∉ bs) : OwL K (upd H a o) B n ds xs bs :=
  OwL.kp ⟨fun b u e q => (upd_ne (fun z => by subst z; exact q ha)).trans e, fun b z => .inl z⟩ n ds xs bs (fun b u hb e => (upd_ne (fun z => by subst z; exact hn hb)).trans e) h
theorem Ow.updA {n : Nat} {d : D} {v : V} {bs : List Addr} {a : Addr} {o : HO} (h : Ow K H B n d v bs) (ha : B a) (hn : a ∉ bs) : Ow K (upd H a o) B n d v bs :=
  Ow.kp ⟨fun b u e q => (upd_ne (fun z => by subst z; exact q ha)).trans e, fun b z => .inl z⟩ n d v bs (fun b u hb e => (upd_ne (fun z => by subst z; exact hn hb)).trans e) h
end
section
variable {X : Cx} {F : Fns} {lv : List Nat} {Z : Str → D → Prop} {pos : Pos} {a b c : E} {ea eb ec : Expr} {l : List E} {es : List Expr}
/-- a list slot: its object -/
theorem slot_list {σ : Sg} {H : Hp} {r : Env} {B : No} {As : AsT} {i n : Nat} {ds : List D} (G : Good X.K lv σ H r B As) (hn : lv.getD i 0 = n + 1) (e : r[i]? = some (some (.list ds))) :
    ∃ p xs bs, σ[i]? = some (some (.ref p)) ∧ H p = some (.lst xs) ∧ As i = p :: bs ∧ OwL X.K H B n ds xs bs := by
  obtain ⟨v, ev, ow⟩ := G.slot i _ e
  rw [hn] at ow
  simp only [Ow] at ow
  obtain ⟨p, xs, bs, rfl, h1, h2, h3⟩ := ow
  exact ⟨p, xs, bs, ev, h1, h2, h3⟩
theorem isList_of {d : D} (h : isListD d = true) : ∃ ds, d = .list ds := by cases d <;> first | (cases h; done) | exact ⟨_, rfl⟩
theorem mu_nx (m : Mu) (d : D) (ds : List D) : NoX (muD m d ds) := by
  intro c dd
  unfold muD
  split <;> first | exact NoX.when c dd | exact NoX.ok c dd | exact NoX.bad c dd | skip
  · split <;> first | exact NoX.ok c dd | exact NoX.bad c dd
  · split
    · split
      · split <;> first | exact NoX.ok c dd | exact NoX.bad c dd
      · exact NoX.bad c dd
    · exact NoX.bad c dd
/-- what a writing method's call comes to -/
theorem mu_split {m : Mu} {i n : Nat} {σ : Sg} {H : Hp} {Q : VK} (hn : lv.getD i 0 = n + 1) (h : tEv X.K F lv Z (.mu m i l) σ H Q) :
    ∃ p, σ[i]? = some (some (.ref p)) ∧ (∃ xs, SqL X.K H p xs) ∧ tEvL X.K F lv Z l σ H fun vs H2 => ∃ r B As ds r2 B2 As2 ass d z q2 xs bs, Good X.K lv σ H r B As ∧ Good X.K lv σ H2 r2 B2 As2 ∧ Stp (ofL (wrE (.mu m i l))) H B As H2 B2 As2 ∧
      PdL X.K σ H2 B2 As2 (Src (ofL (wrE (.mu m i l))) H As) (l.map (wyE lv)) ds vs ass ∧ i < r2.length ∧ muD m (.list d) ds = .ok (z, q2) ∧ H2 p = some (.lst xs) ∧ As2 i = p :: bs ∧ OwL X.K H2 B2 n d xs bs ∧
      ∀ H' v, Pst X.K lv (ofL (wrE (.mu m i l))) [] (lvE lv (.mu m i l)) σ H B As z (r2.set i (some q2)) v H' → Q v H' := by
  obtain ⟨r, B, As, G, w⟩ := h
  simp only [evE] at w
  split at w
  · rename_i d0 e0
    split at w
    · rename_i g
      obtain ⟨ds0, rfl⟩ := isList_of g
      obtain ⟨p, xs0, bs0, ev, h1, h2, h3⟩ := slot_list G hn e0
      refine ⟨p, ev, ⟨xs0, SqL.of h1⟩, ?_⟩
      rw [wp_bind] at w
      refine tEvL.mk G w fun ds r2 H2 B2 As2 vs ass hw G2 S2 P2 => ?_
      split at hw
      · rename_i d e2
        split at hw
        · rename_i g2
          obtain ⟨dd, rfl⟩ := isList_of g2
          rw [wp_bind] at hw
          obtain ⟨⟨z, q2⟩, e, q⟩ := hw.get (mu_nx m _ ds)
          obtain ⟨p', xs, bs, ev', h4, h5, h6⟩ := slot_list G2 hn e2
          rw [ev] at ev'
          cases ev'
          have ww : ∀ j, ofL (wrL l) j → j ∈ wrE (.mu m i l) := fun j w => List.mem_cons_of_mem _ w
          exact ⟨r, B, As, ds, r2, B2, As2, ass, dd, z, q2, xs, bs, G, G2, S2.wide ww, P2.src fun u z => z.wide ww, rest_len e2, e, h4, h5, h6, q⟩
        · cases hw
      · cases hw
    · cases w
  · cases w
/-- what stands behind a writing method -/
theorem mu_fin {m : Mu} {i n : Nat} {σ : Sg} {H H2 : Hp} {Q : VK} {r r2 : Env} {B B2 : No} {As As2 : AsT} {z : D} {q2 : List D} {p : Addr} {ys : List V} {cs as : List Addr} {v : V} (hn : lv.getD i 0 = n + 1) (G : Good X.K lv σ H r B As) (G2 : Good X.K lv σ H2 r2 B2 As2)
    (S : Stp (ofL (wrE (.mu m i l))) H B As H2 B2 As2) (hi : i < r2.length) (ev : σ[i]? = some (some (.ref p))) (ha : p ∈ As2 i) (ow : OwL X.K (upd H2 p (.lst ys)) B2 n q2 ys cs) (nd : (p :: cs).Nodup)
    (hc : ∀ u ∈ cs, B2 u ∧ (∀ j, j ≠ i → u ∉ As2 j) ∧ Src (ofL (wrE (.mu m i l))) H As u)
    (q : ∀ H' v, Pst X.K lv (ofL (wrE (.mu m i l))) [] (lvE lv (.mu m i l)) σ H B As z (r2.set i (some (.list q2))) v H' → Q v H')
    (hv : Ow X.K (upd H2 p (.lst ys)) B2 (lvE lv (.mu m i l)) z v as) (hnd : as.Nodup) (has : ∀ u ∈ as, B2 u ∧ Src (ofL (wrE (.mu m i l))) H As u ∧ (∀ j, j ≠ i → u ∉ As2 j) ∧ u ∉ p :: cs) : Q v (upd H2 p (.lst ys)) := by
  have wi : ofL (wrE (.mu m i l)) i := List.mem_cons_self
  refine q _ v ⟨B2, _, as, G2.put (as := p :: cs) ha rfl ev hi ?_ nd fun u hu => ?_, S.put wi ha fun u hu => ?_, hv, hnd, fun u hu => (has u hu).1, fun _ u hu => ⟨(has u hu).2.1, fun j m => ?_⟩, fun c => absurd rfl c⟩
  · rw [hn]
    simp only [Ow]
    exact ⟨p, ys, cs, rfl, upd_same, rfl, ow⟩
  · rcases List.mem_cons.mp hu with rfl | hu
    · exact ⟨G2.ban i u ha, fun j hj m => G2.dj j i u hj m ha⟩
    · exact ⟨(hc u hu).1, (hc u hu).2.1⟩
  · rcases List.mem_cons.mp hu with rfl | hu
    · exact S.srcOf wi ha
    · exact (hc u hu).2.2
  · by_cases c : j = i
    · rw [if_pos c] at m
      exact (has u hu).2.2.2 m
    · rw [if_neg c] at m
      exact (has u hu).2.2.1 j c m
theorem mu_ix {i : Nat} {x : Str} (hN : X.N[i]? = some x) (hv : Vis X.env.scope x) (hd : (x == ("__debug__" : Str)) = false) (hcd : (x == ("__classdict__" : Str)) = false) {p1 : Pos} : PE X (.Name x p1) (tVar i) := pe_var hN hv hd hcd
/-- x.append(e) -/
theorem s_append {i n : Nat} {x : Str} {p1 apos : Pos} (hN : X.N[i]? = some x) (hv : Vis X.env.scope x) (hd : (x == ("__debug__" : Str)) = false) (hcd : (x == ("__classdict__" : Str)) = false) (hl : SA X F lv Z [a] [ea]) (hs : notStar ea = true) (hn : lv.getD i 0 = n + 1)
    (hw : evWy n (wyE lv a) = true) (hline : (apos.endLine == pos.line) = true) : SE X F lv Z (.mu .append i [a]) (.Call (.Attribute (.Name x p1) "append" apos) [ea] [] pos) := by
  have h1 := star_ok hs [] X.env
  refine pe_of (pe_bm PySem.F.plainAttrs_list PySem.F.slot_list_append PySem.F.type_list_append mt_append (pe_var hN hv hd hcd) hl rfl (by rw [h1]; rfl) hline h1 rfl) fun σ H Q h => ?_
  obtain ⟨p, ev, ⟨xs0, hx0⟩, t⟩ := mu_split hn h
  refine ⟨.ref p, ev, .inl ⟨rfl, xs0, hx0⟩, ?_⟩
  obtain ⟨r0, B0, As0, G0, w0⟩ := t
  refine ⟨r0, B0, As0, G0, w0.imp fun u hu H2 vs P => ?_⟩
  obtain ⟨r, B, As, ds, r2, B2, As2, ass, d, z, q2, xs, bs, G, G2, S2, P2, hi, e, h4, h5, h6, q⟩ := hu H2 vs P
  have hlen := P2.len
  match ds, e with
  | [], e => simp [muD] at e
  | _ :: _ :: _, e => simp [muD] at e
  | [dy], e =>
    simp only [muD] at e
    obtain ⟨g, e⟩ := when_ok e
    cases e
    obtain ⟨o1, o2, o3⟩ := P2.owl (n := n) (by simpa using hw)
    match vs, hlen with
    | [y], _ =>
      simp only [OwL] at o1
      obtain ⟨y', r', cs, ts, e1, e2, o1, e3, e4⟩ := o1
      cases e1
      subst e4
      rw [List.append_nil] at e2
      rw [e2] at o2 o3
      have ha : p ∈ As2 i := by rw [h5]; exact List.mem_cons_self
      have nd2 := G2.nd i
      rw [h5] at nd2
      have pb : B2 p := G2.ban i p ha
      have pc : p ∉ cs := fun m => (o3 p m).2.2 i ha
      have pbs : p ∉ bs := (List.nodup_cons.mp nd2).1
      refine ⟨p, xs, y, rfl, rfl, h4, by rw [← h6.len]; exact of_decide_eq_true g, ?_⟩
      refine mu_fin (cs := bs ++ cs) (as := []) hn G G2 S2 hi ev ha ((h6.updA pb pbs).app (OwL.one (o1.updA pb pc))) ?_ (fun u hu => ?_) q (by cases lvE lv (.mu .append i [a]) <;> simp [Ow, Rp]) List.nodup_nil (by simp)
      · rw [← List.cons_append]
        refine List.nodup_append.mpr ⟨nd2, o2, fun u m w m2 e => ?_⟩
        subst e
        exact (o3 u m2).2.2 i (by rw [h5]; exact m)
      · rcases List.mem_append.mp hu with m | m
        · have m' : u ∈ As2 i := by rw [h5]; exact List.mem_cons_of_mem _ m
          exact ⟨G2.ban i u m', fun j hj m2 => G2.dj j i u hj m2 m', S2.srcOf (List.mem_cons_self) m'⟩
        · exact ⟨(o3 u m).1, fun j _ => (o3 u m).2.2 j, (o3 u m).2.1⟩
theorem seq_of {n j : Nat} {i : Int} (h : ixD n i = some j) : seqIndex? i n = some j := by
  unfold ixD at h
  unfold seqIndex?
  by_cases c : 0 ≤ i
  · rw [if_pos c] at h
    have c2 : ¬ i < 0 := by omega
    by_cases c3 : i < n
    · rw [if_pos c3] at h
      simp only [if_neg c2]
      rw [if_pos (by simp [c, c3])]
      exact h
    · rw [if_neg c3] at h
      cases h
  · rw [if_neg c] at h
    have c2 : i < 0 := by omega
    by_cases c3 : -(n : Int) ≤ i
    · rw [if_pos c3] at h
      simp only [if_pos c2]
      rw [if_pos (by simp only [Bool.and_eq_true, decide_eq_true_eq]; omega)]
      exact h
    · rw [if_neg c3] at h
      cases h
/-- x.pop(e) -/
theorem s_pop {i n : Nat} {x : Str} {p1 apos : Pos} (hN : X.N[i]? = some x) (hv : Vis X.env.scope x) (hd : (x == ("__debug__" : Str)) = false) (hcd : (x == ("__classdict__" : Str)) = false) (hl : SA X F lv Z [a] [ea]) (hs : notStar ea = true) (hn : lv.getD i 0 = n + 1)
    (hw : valWy (wyE lv a) = true) (hline : (apos.endLine == pos.line) = true) : SE X F lv Z (.mu .pop i [a]) (.Call (.Attribute (.Name x p1) "pop" apos) [ea] [] pos) := by
  have h1 := star_ok hs [] X.env
  refine pe_of (pe_bm PySem.F.plainAttrs_list PySem.F.slot_list_pop PySem.F.type_list_pop mt_popAt (pe_var hN hv hd hcd) hl rfl (by rw [h1]; rfl) hline h1 rfl) fun σ H Q h => ?_
  obtain ⟨p, ev, ⟨xs0, hx0⟩, t⟩ := mu_split hn h
  refine ⟨.ref p, ev, .inl ⟨rfl, xs0, hx0⟩, ?_⟩
  obtain ⟨r0, B0, As0, G0, w0⟩ := t
  refine ⟨r0, B0, As0, G0, w0.imp fun u hu H2 vs P => ?_⟩
  obtain ⟨r, B, As, ds, r2, B2, As2, ass, d, z, q2, xs, bs, G, G2, S2, P2, hi, e, h4, h5, h6, q⟩ := hu H2 vs P
  have hz := P2.rp0 (by simpa using hw)
  have lz : (lvE lv (.mu .pop i [a])) = n := by
    show lv.getD i 0 - 1 = n
    rw [hn]
    rfl
  match ds, e with
  | [], e => simp [muD] at e
  | _ :: _ :: _, e => simp [muD] at e
  | [dy], e =>
    cases dy <;> simp only [muD] at e <;> first | (cases e; done) | skip
    rename_i k
    split at e <;> first | (cases e; done) | skip
    rename_i sm
    split at e <;> first | (cases e; done) | skip
    rename_i j ej
    split at e <;> cases e
    rename_i dx ex
    obtain ⟨y, e1, hy⟩ := hz.one'
    simp only [Rp] at hy
    subst e1 hy
    have ha : p ∈ As2 i := by rw [h5]; exact List.mem_cons_self
    have nd2 := G2.nd i
    rw [h5] at nd2
    have pb : B2 p := G2.ban i p ha
    have pbs : p ∉ bs := (List.nodup_cons.mp nd2).1
    obtain ⟨v, vs', cs, ev1, sb1, sb2, dj, ov, ol⟩ := h6.ers (List.nodup_cons.mp nd2).2 ex
    have hk : seqIndex? k xs.length = some j ∧ -(2 ^ 63) ≤ k ∧ k < 2 ^ 63 := by
      have hz16 : d.length = xs.length := h6.len
      rw [hz16] at ej
      have := small_lt sm
      exact ⟨seq_of ej, by omega, by omega⟩
    refine ⟨p, xs, k, j, v, rfl, rfl, h4, hk.2.1, hk.2.2, hk.1, ev1, ?_⟩
    have mA : ∀ u ∈ bs, u ∈ As2 i := fun u m => by rw [h5]; exact List.mem_cons_of_mem _ m
    refine mu_fin (cs := cs) (as := vs') hn G G2 S2 hi ev ha (ol.updA pb fun m => pbs (sb2.subset m)) (List.nodup_cons.mpr ⟨fun m => pbs (sb2.subset m), sb2.nodup (List.nodup_cons.mp nd2).2⟩) (fun u hu => ?_) q ?_ (sb1.nodup (List.nodup_cons.mp nd2).2) fun u hu => ?_
    · have m' := mA u (sb2.subset hu)
      exact ⟨G2.ban i u m', fun j hj m2 => G2.dj j i u hj m2 m', S2.srcOf List.mem_cons_self m'⟩
    · rw [lz]
      exact ov.updA pb fun m => pbs (sb1.subset m)
    · have m' := mA u (sb1.subset hu)
      exact ⟨G2.ban i u m', S2.srcOf List.mem_cons_self m', fun j hj m2 => G2.dj j i u hj m2 m', fun m2 => (List.mem_cons.mp m2).elim (fun e => pbs (e ▸ sb1.subset hu)) (dj u hu)⟩
/-- x.extend(e) -/
theorem s_extend {i : Nat} {x : Str} {p1 apos : Pos} (hN : X.N[i]? = some x) (hv : Vis X.env.scope x) (hd : (x == ("__debug__" : Str)) = false) (hcd : (x == ("__classdict__" : Str)) = false) (hl : SA X F lv Z [a] [ea]) (hs : notStar ea = true) (hn : lv.getD i 0 = 1)
    (hw : ∃ al, wyE lv a = .val al 1) (hline : (apos.endLine == pos.line) = true) : SE X F lv Z (.mu .extend i [a]) (.Call (.Attribute (.Name x p1) "extend" apos) [ea] [] pos) := by
  have h1 := star_ok hs [] X.env
  refine pe_of (pe_bm PySem.F.plainAttrs_list PySem.F.slot_list_extend PySem.F.type_list_extend mt_extend (pe_var hN hv hd hcd) hl rfl (by rw [h1]; rfl) hline h1 rfl) fun σ H Q h => ?_
  obtain ⟨p, ev, ⟨xs0, hx0⟩, t⟩ := mu_split (n := 0) hn h
  refine ⟨.ref p, ev, .inl ⟨rfl, xs0, hx0⟩, ?_⟩
  obtain ⟨r0, B0, As0, G0, w0⟩ := t
  refine ⟨r0, B0, As0, G0, w0.imp fun u hu H2 vs P => ?_⟩
  obtain ⟨r, B, As, ds, r2, B2, As2, ass, d, z, q2, xs, bs, G, G2, S2, P2, hi, e, h4, h5, h6, q⟩ := hu H2 vs P
  obtain ⟨al, hw⟩ := hw
  rw [List.map_cons, List.map_nil, hw] at P2
  obtain ⟨dy, ds', y, vs', as, ass', e1, e2, e3, x1, dj, t⟩ := P2
  obtain ⟨e4, e5, e6⟩ := t
  subst e4 e5 e6 e1 e2 e3
  cases dy <;> simp only [muD] at e <;> first | (cases e; done) | skip
  rename_i ys
  obtain ⟨g, e⟩ := when_ok e
  cases e
  have ow := x1.ow
  simp only [Ow] at ow
  obtain ⟨p2, zs, cs, rfl, h7, e8, h8⟩ := ow
  have h8 := OwL.zero.mp h8
  have h6' := OwL.zero.mp h6
  have ha : p ∈ As2 i := by rw [h5]; exact List.mem_cons_self
  have pb : B2 p := G2.ban i p ha
  refine ⟨p, p2, xs, zs, rfl, rfl, h4, h7, by rw [← h6.len, ← h8.2.len]; exact fits_le g, ?_⟩
  refine mu_fin (n := 0) (cs := []) (as := []) hn G G2 S2 hi ev ha ((OwL.zero.mpr ⟨rfl, h6'.2.app h8.2⟩ : OwL X.K H2 B2 0 _ _ []).updA pb (by simp)) (by simp) (by simp) q (by cases lvE lv (.mu .extend i [a]) <;> simp [Ow, Rp]) List.nodup_nil (by simp)
/-! ### join -/
def notCall0 : Expr → Bool
  | .Call _ _ _ _ => false
  | _ => true
theorem attr_ok {o : Expr} (h : notCall0 o = true) (n : Str) (env : PySem.Env) : attributeBase o n env (eval o env) = eval o env := by cases o <;> first | rfl | cases h
theorem strs_of {K : Fg} {H : Hp} {no : No} : ∀ {ds : List D} {vs : List V}, ds.all isStrD = true → RpL K H no ds vs → vs = (ds.map strOf).map V.str
  | [], vs, _, h => by rw [h.nil_iff]; rfl
  | d :: ds, vs, g, h => by
    obtain ⟨v, r, rfl, h1, h2⟩ := h.cons_iff
    simp only [List.all_cons, Bool.and_eq_true] at g
    rw [strs_of g.2 h2]
    cases d <;> simp only [isStrD] at g <;> first | (cases g.1; done) | skip
    simp only [Rp] at h1
    rw [h1]
    rfl
theorem joinD_nx (s : Str) (xs : List D) : NoX (joinD s xs) := NoX.when
theorem s_join {apos : Pos} (ha : SE X F lv Z a ea) (hl : SE X F lv Z b eb) (hc : notCall0 ea = true) (hs : notStar eb = true) (dj : ∀ i ∈ alE lv a, i ∉ wrE b) (hline : (apos.endLine == pos.line) = true) (hstr : ∃ x, a = .k (.str x)) :
    SE X F lv Z (.me .join a [b]) (.Call (.Attribute ea "join" apos) [eb] [] pos) := by
  refine pe_of (pe_join ha hl (star_ok hs [] X.env) (attr_ok hc _ _) hline) fun σ H Q ⟨r, B, As, G, w⟩ => ?_
  obtain ⟨sx, rfl⟩ := hstr
  simp only [evE, evL] at w
  rw [wp_bind, wp_ok, wp_bind, wp_bind] at w
  refine tEv.mk (e := .k (.str sx)) (R := fun p => p = (.str sx, r)) G rfl fun dx r1 H1 B1 As1 x asx h1 G1 S1 X1 => ?_
  cases h1
  have hx := X1.ow.rp0
  simp only [Rp] at hx
  subst hx
  refine ⟨⟨sx, rfl⟩, ?_⟩
  refine tEv.mk G1 w fun dy r2 H2 B2 As2 y asy h2 G2 S2 X2 => ?_
  rw [wp_bind, wp_ok, wp_ok] at h2
  rw [wp_bind] at h2
  have ww : ∀ i, ofL (wrE (.k (.str sx))) i ∨ ofL (wrE b) i → ofL (wrE (.me .join (.k (.str sx)) [b])) i := fun i w => by
    rcases w with w | w
    · cases w
    · exact List.mem_append_right _ (List.mem_append_left _ w)
  have S3 := (S1.trans G S2).wide ww
  have hy := X2.ow.rp0
  cases dy <;> simp only [meD] at h2 <;> first | exact h2.elim | skip
  · rename_i ds
    obtain ⟨d, e, q⟩ := h2.get (joinD_nx _ _)
    unfold joinD at e
    obtain ⟨g, e⟩ := when_ok e
    subst e
    rw [Bool.and_eq_true, decide_eq_true_eq] at g
    obtain ⟨p, xs, rfl, h3, h4⟩ := rp_list hy
    have e5 := strs_of g.1 h4
    refine ⟨sx, p, ds.map strOf, rfl, rfl, .inl (by rw [← e5]; exact h3.sq), ?_, (fin_of (n := 0) G S3 G2 q).str⟩
    rw [List.map_map, List.length_map]
    exact g.2
  · rename_i ds
    obtain ⟨d, e, q⟩ := h2.get (joinD_nx _ _)
    unfold joinD at e
    obtain ⟨g, e⟩ := when_ok e
    subst e
    rw [Bool.and_eq_true, decide_eq_true_eq] at g
    obtain ⟨p, xs, rfl, h3, h4⟩ := rp_tup hy
    have e5 := strs_of g.1 h4
    refine ⟨sx, p, ds.map strOf, rfl, rfl, .inr (by rw [← e5]; exact h3.sq), ?_, (fin_of (n := 0) G S3 G2 q).str⟩
    rw [List.map_map, List.length_map]
    exact g.2
end
end Pv
end
section
/-! P51: isinstance with a tuple of types; list.count. -/
namespace Pv
open PySem PySem.Spec PyProof.Rows L2
section
variable {X : Cx} {F : Fns} {lv : List Nat} {Z : Str → D → Prop} {pos : Pos} {a b c : E} {ea eb ec : Expr} {l : List E} {es : List Expr}
theorem kit2 {K : PySem.W.Frag} {T : Value} {d : D} {t1 t2 : Ty} (h : ∀ t : Ty, PySem.W.kitOne K T (.type (tyN t)) = some (isaD t d)) : PySem.W.kitAny K T [.type (tyN t1), .type (tyN t2)] = some (isaD t1 d || isaD t2 d) :=
  kitAny_cons (h t1) (fun e => kitAny_cons (h t2) (fun e2 => by rw [e, e2]; rfl) fun e2 => by rw [e2, Bool.or_true]) fun e => by rw [e, Bool.true_or]
theorem isa_ok2 {pins : List (Addr × Obj)} {σ : Sg} {H : Hp} {s : Shared} {A : Around} {E : Value → Shared → Prop} {Q : Value → Shared → Prop} {x : V} {u : Value} {d : D} {no : No} {t1 t2 : Ty} {tp : Addr} {dd : Option Addr} {sl : Array (Option Value)} {n : Nat} (I : Inv X pins σ H s) (rx : RelV x u) (hx : Rp X.K H no d x)
    (ht : s.heap.get? tp = some ⟨.type "tuple", dd, .seq [Value.type (tyN t1), .type (tyN t2)].toArray n, sl⟩)
    (h : ∀ tk, Q (.bool (isaD t1 d || isaD t2 d)) { s with toks := tk }) : wpAny (model X.prog X.w) A (call (.builtin "isinstance") [u, .ref tp]) Q E s := by
  cases d with
  | none =>
    simp only [Rp] at hx
    subst hx
    cases (show u = Value.none from rx)
    exact PySem.W.kia_tup PySem.W.kitx_none I.kIn True.intro ht (kit2 (fun t => by cases t <;> rfl)) (fun z => nomatch z) h
  | bool y =>
    simp only [Rp] at hx
    subst hx
    cases (show u = Value.bool y from rx)
    exact PySem.W.kia_tup PySem.W.kitx_bool I.kIn True.intro ht (kit2 (fun t => by cases t <;> rfl)) (fun z => nomatch z) h
  | int y =>
    simp only [Rp] at hx
    subst hx
    obtain ⟨t', rfl⟩ := (show ∃ t, u = Value.int y t from rx)
    exact PySem.W.kia_tup PySem.W.kitx_int I.kIn True.intro ht (kit2 (fun t => by cases t <;> rfl)) (fun z => nomatch z) h
  | str y =>
    simp only [Rp] at hx
    subst hx
    obtain ⟨t', rfl⟩ := (show ∃ t, u = Value.str y t from rx)
    exact PySem.W.kia_tup PySem.W.kitx_str I.kIn True.intro ht (kit2 (fun t => by cases t <;> rfl)) (fun z => nomatch z) h
  | list ds =>
    obtain ⟨p, xs, its, rfl, rfl, q1, r1, v1, ⟨o, ho, hc, _⟩, z1, e1, e2⟩ := list_at I rx hx.rt
    exact PySem.W.kia_tup PySem.W.kitx_list I.kIn ⟨o, ho, hc⟩ ht (kit2 (fun t => by cases t <;> rfl)) (fun z => nomatch z) h
  | tuple ds =>
    obtain ⟨p, xs, its, rfl, rfl, q1, r1, v1, ⟨o, ho, hc, _⟩, z1, e1, e2⟩ := tup_at I rx hx
    exact PySem.W.kia_tup PySem.W.kitx_tuple I.kIn ⟨o, ho, hc⟩ ht (kit2 (fun t => by cases t <;> rfl)) (fun z => nomatch z) h
  | dict kvs =>
    obtain ⟨p, rfl, hd⟩ := rt_dict hx.rt
    cases rx
    have : ∃ o, s.heap.get? p = some o ∧ o.cls = .type "dict" := by
      rcases hd with ⟨es, h1, _⟩ | ⟨es, h1, _⟩
      · obtain ⟨_, _, _, _, o, _, _, e, ex, _⟩ := dk_rd I.hok h1
        exact ⟨o, e, ex.1⟩
      · obtain ⟨_, _, _, _, o, _, _, e, ex, _⟩ := dt_rd I.hok h1
        exact ⟨o, e, ex.1⟩
    obtain ⟨o, ho, hc⟩ := this
    exact PySem.W.kia_tup PySem.W.kitx_dict I.kIn ⟨o, ho, hc⟩ ht (kit2 (fun t => by cases t <;> rfl)) (fun z => nomatch z) h
def rIsa2 (K : Fg) (t1 t2 : Ty) : List V → Hp → VK → Prop := fun vs H Q => ∃ x tp d no, vs = [x, .ref tp] ∧ H tp = some (.tup [.ty (tyN t1), .ty (tyN t2)]) ∧ Rp K H no d x ∧ Q (.bl (isaD t1 d || isaD t2 d)) H
theorem call_isa2 (t1 t2 : Ty) : CallR X (.builtin "isinstance") (rIsa2 X.K t1 t2) := by
  intro pins s σ H vs us Q I rv ⟨x, tp, d, no, e, hT, hx, q⟩
  subst e
  obtain ⟨u, u2, rfl, r1, r2⟩ := vals2 rv
  cases (show u2 = Value.ref tp from r2)
  obtain ⟨_, its, rv, o, h1, h2, n, h3⟩ := (show ObjOk X.prog X.w H s.heap tp (.tup [.ty (tyN t1), .ty (tyN t2)]) from I.hok tp _ hT)
  obtain ⟨v1, v2, rfl, k1, k2⟩ := vals2 rv
  cases (show v1 = Value.type (tyN t1) from k1)
  cases (show v2 = Value.type (tyN t2) from k2)
  obtain ⟨oc, od, dt, sl⟩ := o
  simp only at h2 h3
  subst h2 h3
  exact isa_ok2 I r1 hx h1 fun tk => ⟨.bl _, H, I.tok tk, rfl, q⟩
theorem s_isa2 {t1 t2 : Ty} {k : Nat} {nm p2 p3 p4 : Pos} (ha : SE X F lv Z a ea) (hs : notStar ea = true) (hg : Gl X "isinstance") (hm : X.mg "isinstance" = none) (hg1 : Gl X (tyN t1)) (hm1 : X.mg (tyN t1) = none) (hg2 : Gl X (tyN t2)) (hm2 : X.mg (tyN t2) = none) :
    SE X F lv Z (.isa a [t1, t2]) (.Call (.Name "isinstance" nm) [ea, .Tuple [.Name (tyN t1) p2, .Name (tyN t2) p3] k p4] [] pos) := by
  have hT1 : PE X (.Name (tyN t1) p2) (tC (.ty (tyN t1))) := by
    cases t1 <;> exact pe_bltn hg1 hm1 (u := .type _) (by rfl) rfl (by decide) (by decide)
  have hT2 : PE X (.Name (tyN t2) p3) (tC (.ty (tyN t2))) := by
    cases t2 <;> exact pe_bltn hg2 hm2 (u := .type _) (by rfl) rfl (by decide) (by decide)
  refine pe_of (pe_callB (call_isa2 t1 t2) hg hm (by rfl) (pa_cons ha (pa_cons (pe_tup (pa_cons hT1 (pa_cons hT2 pa_nil))) pa_nil) (star_ok hs _ _)) (by decide) (by decide) (star_ok hs _ _) rfl) fun σ H Q ⟨r, B, As, G, w⟩ => ?_
  simp only [evE] at w
  rw [wp_bind] at w
  refine tEv.mk G w fun dx r1 H1 B1 As1 x asx h1 G1 S1 X1 => ?_
  refine ⟨show 2 ≤ sizeLine by rw [sizeLine_eq]; decide, fun p hp => ?_⟩
  refine ⟨x, p, dx, _, rfl, upd_same, (X1.ow.rp0).kp (kp_same (Same.upd hp)), ?_⟩
  have f := fin_of (n := 0) G S1 G1 h1
  have e : ([t1, t2].any fun t => isaD t dx) = (isaD t1 dx || isaD t2 dx) := by simp
  rw [e] at f
  exact f _ _ [] (Same.upd hp) List.nodup_nil (by simp) (Ow.zero.mpr ⟨rfl, by simp only [Rp]⟩)
/-! ### list.count, of integers -/
theorem s_count {i0 : Int} {apos : Pos} (ha : SE X F lv Z a ea) (hl : SA X F lv Z [.k (.int i0)] [eb]) (hc : notCall0 ea = true) (hs : notStar eb = true) (hn : lvE lv a ≤ 1) (hline : (apos.endLine == pos.line) = true) :
    SE X F lv Z (.me .count a [.k (.int i0)]) (.Call (.Attribute ea "count" apos) [eb] [] pos) := by
  have h1 := star_ok hs [] X.env
  refine pe_of (pe_bm PySem.F.plainAttrs_list PySem.F.slot_list_count PySem.F.type_list_count mt_lcount ha hl (attr_ok hc _ _) (by rw [h1]; rfl) hline h1 rfl) fun σ H Q ⟨r, B, As, G, w⟩ => ?_
  simp only [evE, evL] at w
  rw [wp_bind] at w
  refine tEv.mk G w fun dx r1 H1 B1 As1 x asx hm1 G1 S1 X1 => ?_
  have g1 : wp ((meD .count dx [.int i0]).bind fun z => .ok (z, r1)) (fun p => ∀ H2 v, Pst X.K lv (ofL (wrE (.me .count a [.k (.int i0)]))) (alE lv (.me .count a [.k (.int i0)])) (lvE lv (.me .count a [.k (.int i0)])) σ H B As p.1 p.2 v H2 → Q v H2) Z := hm1
  clear hm1
  rw [wp_bind] at g1
  cases dx <;> simp only [meD] at g1 <;> first | exact g1.elim | skip
  rename_i ds
  obtain ⟨d, e, q⟩ := g1.get NoX.when
  obtain ⟨g, e⟩ := when_ok e
  subst e
  obtain ⟨p, xs, rfl, hq, hr⟩ := rt_list (X1.rt hn)
  refine ⟨.inl ⟨rfl, xs, hq⟩, ?_⟩
  refine tEvL.mk (l := [.k (.int i0)]) (R := fun u => u = ([.int i0], r1)) G1 rfl fun es r2 H2 B2 As2 vs ass h2 G2 S2 P2 => ?_
  cases h2
  have X3 := X1.step G1 S2 (fun i _ z => by cases z)
  obtain ⟨p2, ys, e2, hq2, hr2⟩ := rt_list (X3.rt hn)
  cases e2
  have hy := ints_of g hr2
  subst hy
  have hv : vs = [.int i0] := by
    obtain ⟨d', ds', v, vs', as, ass', e1, e2, e3, xv, _, t⟩ := P2
    cases e1
    have := xv.ow.rp0
    simp only [Rp] at this
    subst this
    have hvn := t.2.1
    subst hvn
    exact e2
  have ww : ∀ i, ofL (wrE a) i ∨ ofL (wrL [E.k (.int i0)]) i → ofL (wrE (.me .count a [.k (.int i0)])) i := fun i w => w.elim (fun w => List.mem_append_left _ w) fun w => by cases w
  exact ⟨p, ds.map iOf, i0, rfl, hv, hq2, (fin_of (n := 0) G ((S1.trans G S2).wide ww) G2 q).int⟩
end
end Pv
end
section
/-! P14: calls of defs. -/
namespace Pv
open PySem PySem.Spec PyProof.Rows L2

/-- arguments as a callee gets them -/
def ParL (K : Fg) (H : Hp) (B : No) : List Nat → List D → List V → List (List Addr) → Prop
  | [], ds, vs, ass => ds = [] ∧ vs = [] ∧ ass = []
  | n :: ns, ds, vs, ass => ∃ d ds' v vs' as ass', ds = d :: ds' ∧ vs = v :: vs' ∧ ass = as :: ass' ∧ Ow K H B n d v as ∧ as.Nodup ∧ (∀ a ∈ as, B a) ∧ (∀ a ∈ as, a ∉ ass'.flatten) ∧ ParL K H B ns ds' vs' ass'
/-- what a callee hands back -/
structure Ret (K : Fg) (sg : Sig) (H : Hp) (B : No) (vs : List V) (ass : List (List Addr)) (d : D) (outs : List D) (H' : Hp) (B' : No) (v : V) (as : List Addr) (ass' : List (List Addr)) : Prop where
  keep : ∀ a o, H a = some o → a ∉ ass.flatten → H' a = some o
  ban : ∀ a, B' a → B a ∨ H a = none
  hold : ∀ a, B a → a ∉ ass.flatten → B' a
  ld : ∀ a, B' a → ∃ o, H' a = some o ∧ isLD o = true
  res : Ow K H' B' sg.rl d v as
  nd : as.Nodup
  inb : ∀ a ∈ as, B' a
  src : ∀ a ∈ as, H a = none ∨ a ∈ ass.flatten
  out : ParL K H' B' (sg.muts.map fun j => sg.lvs.getD j 0) outs (sg.muts.map fun j => vs.getD j .non) ass'
  osrc : ∀ a ∈ ass'.flatten, H a = none ∨ a ∈ ass.flatten
  dj : ∀ a ∈ as, a ∉ ass'.flatten
def ZF : Str → D → Prop := fun _ _ => False
def spG (K : Fg) (sg : Sig) (ev : List D → Out (D × List D)) (vs : List V) (H : Hp) (Q : VK) : Prop :=
  ∃ ds B ass, ParL K H B sg.lvs ds vs ass ∧ (∀ a, B a → ∃ o, H a = some o ∧ isLD o = true) ∧ wp (ev ds) (fun p => ∀ H' v B' as ass', Ret K sg H B vs ass p.1 p.2 H' B' v as ass' → Q v H') ZF
def CX0 : CXT := fun _ _ _ _ _ _ => False
structure FnG (P : Program) (w : World) (K : Fg) (mg : Str → Option Value) (base : Heap) (k : Nat) (f : Addr) (fd : FuncData) (sg : Sig) (ev : List D → Out (D × List D)) : Prop where
  run : ∀ (A : Around) (outer : List PySem.Env) (s : Shared) (H : Hp) (args : Args) (us : List Value) (vs : List V) (Q : VK), Room k A → A.guards = some [] → Env0 P w K mg base A outer s H → BindsTo s fd args (sg.ps.zip us) → Vals vs us → spG K sg ev vs H Q →
    codeAny (model P w) A (.call (.ref f) args) (CR CX0 outer P w H s Q fun _ _ _ => False) s
theorem run_fnG {X : Cx} {k : Nat} {f : Addr} {fd : FuncData} {sg : Sig} {ev : List D → Out (D × List D)} {pins : List (Addr × Obj)} {σ : Sg} {H : Hp} {s : Shared} {Q : VK} {us pos : List Value} {kw : List (Str × Value)} {vs : List V}
    (Fg : FnG X.prog X.w X.K X.mg X.base k f fd sg ev) (hr : Room k X.A) (hgd : X.A.guards = some []) (I : Inv X pins σ H s) (hb : BindsTo s fd ⟨pos, kw⟩ (sg.ps.zip us)) (r : Vals vs us) (h : spG X.K sg ev vs H Q) :
    wpAny (model X.prog X.w) X.A (call (.ref f) pos kw) (EP X pins σ Q) X.xe s := by
  refine wpAny_call (codeAny_mono (Fg.run X.A X.stack s H ⟨pos, kw⟩ us vs Q hr hgd I.env0 hb r h) fun r s' hq => ?_)
  cases r with
  | error e => exact hq.elim
  | ok fl =>
    cases fl with
    | ret u => exact I.after hq
    | next => exact False.elim hq
    | brk => exact False.elim hq
    | cont => exact False.elim hq

/-! ### slots that wait to be filled -/
structure GoodX (S : Nat → Prop) (K : Fg) (lv : List Nat) (σ : Sg) (H : Hp) (r : Env) (B : No) (As : AsT) : Prop where
  slot : ∀ i d, ¬ S i → r[i]? = some (some d) → ∃ v, σ[i]? = some (some v) ∧ Ow K H B (lv.getD i 0) d v (As i)
  off : ∀ i, (S i ∨ ∀ d, r[i]? ≠ some (some d)) → As i = []
  nd : ∀ i, (As i).Nodup
  dj : ∀ i j a, i ≠ j → a ∈ As i → a ∉ As j
  ban : ∀ i a, a ∈ As i → B a
  bin : ∀ a, B a → ∃ o, H a = some o ∧ isLD o = true
  len : r.length = σ.length
section
variable {K : Fg} {lv : List Nat} {σ : Sg} {H H' : Hp} {r r' : Env} {B B' : No} {As As' : AsT} {S S' : Nat → Prop}
theorem GoodX.good (G : GoodX S K lv σ H r B As) (h : ∀ i, ¬ S i) : Good K lv σ H r B As :=
  ⟨fun i d e => G.slot i d (h i) e, fun i e => G.off i (.inr e), G.nd, G.dj, G.ban, G.bin, G.len⟩
theorem GoodX.give (G : GoodX S K lv σ H r B As) {i : Nat} {d : D} {v : V} {as : List Addr} (hi : i < r.length) (hv : σ[i]? = some (some v)) (ow : Ow K H B (lv.getD i 0) d v as) (nd : as.Nodup) (h : ∀ z ∈ as, B z ∧ ∀ j, j ≠ i → z ∉ As j) :
    GoodX (fun j => S j ∧ j ≠ i) K lv σ H (r.set i (some d)) B (fun j => if j = i then as else As j) where
  slot := fun j x n e => by
    by_cases c : j = i
    · subst c
      rw [List.getElem?_set_self hi] at e
      cases e
      rw [if_pos rfl]
      exact ⟨v, hv, ow⟩
    · rw [List.getElem?_set_ne (fun z => c z.symm)] at e
      rw [if_neg c]
      exact G.slot j x (fun z => n ⟨z, c⟩) e
  off := fun j q => by
    by_cases c : j = i
    · subst c
      rcases q with q | q
      · exact absurd rfl q.2
      · exact absurd (List.getElem?_set_self hi) (q d)
    · rw [if_neg c]
      refine G.off j (q.imp (fun z => z.1) fun q x z => q x ?_)
      rw [List.getElem?_set_ne (fun z => c z.symm)]
      exact z
  nd := fun j => by
    by_cases c : j = i
    · rw [if_pos c]; exact nd
    · rw [if_neg c]; exact G.nd j
  dj := fun j k z n m m2 => by
    by_cases c : j = i
    · rw [if_pos c] at m
      rw [if_neg (fun e => n (c.trans e.symm))] at m2
      exact (h z m).2 k (fun e => n (c.trans e.symm)) m2
    · rw [if_neg c] at m
      by_cases c2 : k = i
      · rw [if_pos c2] at m2
        exact (h z m2).2 j c m
      · rw [if_neg c2] at m2
        exact G.dj j k z n m m2
  ban := fun j z m => by
    by_cases c : j = i
    · rw [if_pos c] at m; exact (h z m).1
    · rw [if_neg c] at m; exact G.ban j z m
  bin := G.bin
  len := by rw [List.length_set]; exact G.len
def updAs : List (Nat × Nat) → List (List Addr) → AsT → AsT
  | (_, i) :: l, as :: ass, As => updAs l ass (fun j => if j = i then as else As j)
  | _, _, As => As
theorem updAs_out : ∀ {io : List (Nat × Nat)} {ass : List (List Addr)} {As : AsT} {j : Nat}, j ∉ io.map (·.2) → updAs io ass As j = As j
  | [], _, _, _, _ => by simp [updAs]
  | (_, i) :: l, [], As, j, h => by simp [updAs]
  | (_, i) :: l, as :: ass, As, j, h => by
    simp only [List.map_cons, List.mem_cons, not_or] at h
    simp only [updAs]
    rw [updAs_out h.2, if_neg h.1]
theorem updAs_in : ∀ {io : List (Nat × Nat)} {ass : List (List Addr)} {As : AsT} {j : Nat}, io.length = ass.length → j ∈ io.map (·.2) → ∀ a ∈ updAs io ass As j, a ∈ ass.flatten
  | [], _, _, _, _, h => by cases h
  | (_, i) :: l, [], As, j, e, h => by cases e
  | (_, i) :: l, as :: ass, As, j, e, h => by
    intro a ha
    simp only [updAs] at ha
    rw [List.flatten_cons]
    by_cases c : j ∈ l.map (·.2)
    · exact List.mem_append_right _ (updAs_in (by simpa using e) c a ha)
    · rw [updAs_out c] at ha
      simp only [List.map_cons, List.mem_cons] at h
      rw [if_pos (h.resolve_right c)] at ha
      exact List.mem_append_left _ ha
/-- all outs given -/
theorem GoodX.giveL : ∀ {io : List (Nat × Nat)} {ns : List Nat} {outs : List D} {vs : List V} {ass : List (List Addr)} {r : Env} {As : AsT} {S : Nat → Prop}, GoodX S K lv σ H r B As → ParL K H B ns outs vs ass → io.length = ns.length →
    (∀ k : Nat, ∀ p i, io[k]? = some (p, i) → i < r.length ∧ ns[k]? = some (lv.getD i 0) ∧ ∃ v, vs[k]? = some v ∧ σ[i]? = some (some v)) → (∀ a ∈ ass.flatten, ∀ j, a ∉ As j) → (io.map (·.2)).Nodup →
    GoodX (fun j => S j ∧ j ∉ io.map (·.2)) K lv σ H (backIo io outs r) B (updAs io ass As)
  | [], ns, outs, vs, ass, r, As, S, G, P, e, h, dj, nd => by
    simp only [backIo, updAs]
    exact ⟨fun i d n => G.slot i d fun z => n ⟨z, by simp⟩, fun i q => G.off i (q.imp (fun z => z.1) id), G.nd, G.dj, G.ban, G.bin, G.len⟩
  | (p, i) :: l, [], outs, vs, ass, r, As, S, G, P, e, h, dj, nd => by cases e
  | (p, i) :: l, n :: ns, outs, vs, ass, r, As, S, G, P, e, h, dj, nd => by
    obtain ⟨d, ds', v, vs', as, ass', rfl, rfl, rfl, ow, nd1, hb, dj1, P'⟩ := P
    obtain ⟨h1, h2, w, h3, h4⟩ := h 0 p i rfl
    have h2 : n = lv.getD i 0 := by simpa using h2
    simp at h3
    subst h3
    rw [List.map_cons] at nd
    have nd2 := List.nodup_cons.mp nd
    have G' := G.give (i := i) (d := d) (v := v) (as := as) h1 h4 (h2 ▸ ow) nd1 fun z hz => ⟨hb z hz, fun j _ => dj z (by rw [List.flatten_cons]; exact List.mem_append_left _ hz) j⟩
    have R := GoodX.giveL (io := l) G' P' (by simpa using e) (fun k p' i' e' => ?_) (fun a ha j m => ?_) nd2.2
    · simp only [backIo, updAs]
      refine ⟨fun j x n => R.slot j x fun z => n ⟨z.1.1, fun m => ?_⟩, fun j q => R.off j (q.imp (fun z => ⟨⟨z.1, fun e => z.2 ?_⟩, fun m => z.2 ?_⟩) id), R.nd, R.dj, R.ban, R.bin, R.len⟩
      · rw [List.map_cons] at m
        exact (List.mem_cons.mp m).elim z.1.2 z.2
      · rw [List.map_cons, e]; exact List.mem_cons_self
      · rw [List.map_cons]; exact List.mem_cons_of_mem _ m
    · obtain ⟨a1, a2, w', a3, a4⟩ := h (k + 1) p' i' (by simpa using e')
      exact ⟨by rw [List.length_set]; exact a1, by simpa using a2, w', by simpa using a3, a4⟩
    · by_cases c : j = i
      · rw [if_pos c] at m
        exact dj1 a m ha
      · rw [if_neg c] at m
        exact dj a (by rw [List.flatten_cons]; exact List.mem_append_right _ ha) j m
theorem ParL.length : ∀ {ns : List Nat} {ds : List D} {vs : List V} {ass : List (List Addr)}, ParL K H B ns ds vs ass → ds.length = ns.length ∧ vs.length = ns.length ∧ ass.length = ns.length
  | [], ds, vs, ass, h => by rw [h.1, h.2.1, h.2.2]; simp
  | n :: ns, ds, vs, ass, h => by
    obtain ⟨d, ds', v, vs', as, ass', rfl, rfl, rfl, ow, nd1, hb, dj1, P'⟩ := h
    have := P'.length
    simp [this.1, this.2.1, this.2.2]
/-- what holds no list and no dict but the owned ones, whatever the bans -/
theorem immL_all : ∀ {ds : List D}, ds.all immD = true → immD.immL ds = true
  | [], _ => rfl
  | d :: ds, h => by
    simp only [List.all_cons, Bool.and_eq_true] at h
    simp only [immD.immL, Bool.and_eq_true]
    exact ⟨h.1, immL_all h.2⟩
mutual
theorem Ow.imm (hb : ∀ a, B' a → ∃ o, H a = some o ∧ isLD o = true) : ∀ (n : Nat) (d : D) (v : V) (as : List Addr), immAt n d = true → Ow K H B n d v as → Ow K H B' n d v as
  | 0, d, v, as, g, h => Ow.zero.mpr ⟨(Ow.zero.mp h).1, imm_ban hb d v g (Ow.zero.mp h).2⟩
  | n + 1, .list ds, v, as, g, h => by
    simp only [Ow] at h ⊢
    simp only [immAt] at g
    obtain ⟨a, xs, bs, e, h1, e2, h2⟩ := h
    exact ⟨a, xs, bs, e, h1, e2, OwL.imm hb n ds xs bs g h2⟩
  | n + 1, .tuple ds, v, as, g, h => by
    simp only [Ow] at h ⊢
    simp only [immAt] at g
    exact ⟨h.1, imm_ban hb _ v (immL_all g) h.2⟩
  | n + 1, .dict kvs, v, as, g, h => by
    simp only [Ow] at h ⊢
    simp only [immAt] at g
    obtain ⟨a, bs, e, e2, h⟩ := h
    refine ⟨a, bs, e, e2, ?_⟩
    rcases h with ⟨es, h1, h2⟩ | ⟨es, h1, h2⟩
    · exact .inl ⟨es, h1, OwK.imm hb n kvs es bs g h2⟩
    · exact .inr ⟨es, h1, OwT.imm hb n kvs es bs g h2⟩
  | n + 1, .none, v, as, g, h => by simpa only [Ow] using h
  | n + 1, .bool b, v, as, g, h => by simpa only [Ow] using h
  | n + 1, .int i, v, as, g, h => by simpa only [Ow] using h
  | n + 1, .str x, v, as, g, h => by simpa only [Ow] using h
theorem OwL.imm (hb : ∀ a, B' a → ∃ o, H a = some o ∧ isLD o = true) : ∀ (n : Nat) (ds : List D) (vs : List V) (as : List Addr), ds.all (immAt n) = true → OwL K H B n ds vs as → OwL K H B' n ds vs as
  | n, [], vs, as, g, h => by simpa only [OwL] using h
  | n, d :: ds, vs, as, g, h => by
    simp only [OwL] at h ⊢
    simp only [List.all_cons, Bool.and_eq_true] at g
    obtain ⟨v, r, bs, cs, e, e2, h1, h2⟩ := h
    exact ⟨v, r, bs, cs, e, e2, Ow.imm hb n d v bs g.1 h1, OwL.imm hb n ds r cs g.2 h2⟩
theorem OwK.imm (hb : ∀ a, B' a → ∃ o, H a = some o ∧ isLD o = true) : ∀ (n : Nat) (ds : List (D × D)) (vs : List (Key × V)) (as : List Addr), (ds.all fun p => immD p.1 && immAt n p.2) = true → OwK K H B n ds vs as → OwK K H B' n ds vs as
  | n, [], vs, as, g, h => by simpa only [OwK] using h
  | n, (k, d) :: ds, vs, as, g, h => by
    simp only [OwK] at h ⊢
    simp only [List.all_cons, Bool.and_eq_true] at g
    obtain ⟨q, v, r, bs, cs, e, e1, e2, h1, h2⟩ := h
    exact ⟨q, v, r, bs, cs, e, e1, e2, Ow.imm hb n d v bs g.1.2 h1, OwK.imm hb n ds r cs g.2 h2⟩
theorem OwT.imm (hb : ∀ a, B' a → ∃ o, H a = some o ∧ isLD o = true) : ∀ (n : Nat) (ds : List (D × D)) (vs : List (List Key × V)) (as : List Addr), (ds.all fun p => immD p.1 && immAt n p.2) = true → OwT K H B n ds vs as → OwT K H B' n ds vs as
  | n, [], vs, as, g, h => by simpa only [OwT] using h
  | n, (k, d) :: ds, vs, as, g, h => by
    simp only [OwT] at h ⊢
    simp only [List.all_cons, Bool.and_eq_true] at g
    obtain ⟨q, v, r, bs, cs, e, e1, e2, h1, h2⟩ := h
    exact ⟨q, v, r, bs, cs, e, e1, e2, Ow.imm hb n d v bs g.1.2 h1, OwT.imm hb n ds r cs g.2 h2⟩
end
theorem ParL.imm (hb : ∀ a, B' a → ∃ o, H a = some o ∧ isLD o = true) (hw : ∀ a, B a → B' a) : ∀ {ns : List Nat} {ds : List D} {vs : List V} {ass : List (List Addr)}, immIo ns ds = true → ParL K H B ns ds vs ass → ParL K H B' ns ds vs ass
  | [], ds, vs, ass, _, h => h
  | n :: ns, ds, vs, ass, g, h => by
    obtain ⟨d, ds', v, vs', as, ass', rfl, rfl, rfl, ow, nd1, hb1, dj1, P'⟩ := h
    simp only [immIo, Bool.and_eq_true] at g
    exact ⟨d, ds', v, vs', as, ass', rfl, rfl, rfl, Ow.imm hb n d v as g.1 ow, nd1, fun a ha => hw a (hb1 a ha), dj1, P'.imm hb hw g.2⟩
end
/-! ### from the arguments to the callee -/
def fillW (r : Env) : List Wy → List D → List D
  | .io i :: ws, d :: ds => (match r[i]? with | some (some x) => x | _ => d) :: fillW r ws ds
  | .val _ _ :: ws, d :: ds => d :: fillW r ws ds
  | .lo _ :: ws, d :: ds => d :: fillW r ws ds
  | _, ds => ds
def ioOf : List Wy → Nat → List (Nat × Nat)
  | [], _ => []
  | .io i :: ws, k => (k, i) :: ioOf ws (k + 1)
  | .val _ _ :: ws, k => ioOf ws (k + 1)
  | .lo _ :: ws, k => ioOf ws (k + 1)
theorem fill_eq {r : Env} : ∀ {ws : List Wy} {pre ds : List D}, ds.length = ws.length → fillIo r (ioOf ws pre.length) (pre ++ ds) = pre ++ fillW r ws ds
  | [], pre, ds, e => by
    have : ds = [] := List.eq_nil_of_length_eq_zero e
    subst this
    simp [ioOf, fillIo, fillW]
  | .val al n :: ws, pre, [], e => by cases e
  | .lo al :: ws, pre, [], e => by cases e
  | .io i :: ws, pre, [], e => by cases e
  | .val al n :: ws, pre, d :: ds, e => by
    simp only [ioOf, fillW]
    have := fill_eq (r := r) (ws := ws) (pre := pre ++ [d]) (ds := ds) (by simpa using e)
    simpa using this
  | .lo al :: ws, pre, d :: ds, e => by
    simp only [ioOf, fillW]
    have := fill_eq (r := r) (ws := ws) (pre := pre ++ [d]) (ds := ds) (by simpa using e)
    simpa using this
  | .io i :: ws, pre, d :: ds, e => by
    have go : ∀ x, fillIo r (ioOf ws (pre.length + 1)) ((pre ++ d :: ds).set pre.length x) = pre ++ x :: fillW r ws ds := fun x => by
      have := fill_eq (r := r) (ws := ws) (pre := pre ++ [x]) (ds := ds) (by simpa using e)
      simpa using this
    have go2 : fillIo r (ioOf ws (pre.length + 1)) (pre ++ d :: ds) = pre ++ d :: fillW r ws ds := by
      have := fill_eq (r := r) (ws := ws) (pre := pre ++ [d]) (ds := ds) (by simpa using e)
      simpa using this
    simp only [ioOf, fillW, fillIo]
    cases e1 : r[i]? with
    | none => exact go2
    | some o =>
      cases o with
      | none => exact go2
      | some x => exact go x
def AsW (As : AsT) : List Wy → List (List Addr) → List (List Addr)
  | .io i :: ws, _ :: t => As i :: AsW As ws t
  | .val al _ :: ws, a :: t => (if al.isEmpty then a else []) :: AsW As ws t
  | .lo _ :: ws, _ :: t => [] :: AsW As ws t
  | _, _ => []
/-- what is borrowed -/
def alsW : List Wy → List Nat
  | [] => []
  | .val al _ :: ws => al ++ alsW ws
  | .lo al :: ws => al ++ alsW ws
  | .io _ :: ws => alsW ws
def iosW : List Wy → List Nat
  | [] => []
  | .val _ _ :: ws => iosW ws
  | .lo _ :: ws => iosW ws
  | .io i :: ws => i :: iosW ws
/-- an argument fits its parameter's storeys -/
def fitW (lv : List Nat) : List Wy → List Nat → Bool
  | [], [] => true
  | .val al m :: ws, n :: ns => (if al.isEmpty then decide (m = n) else decide (n = 0)) && fitW lv ws ns
  | .io i :: ws, n :: ns => decide (lv.getD i 0 = n) && fitW lv ws ns
  | .lo _ :: ws, n :: ns => decide (n = 0) && fitW lv ws ns
  | _, _ => false
section
variable {K : Fg} {lv : List Nat} {σ : Sg} {H : Hp} {r : Env} {B Bc src : No} {As : AsT}
theorem asW_mem : ∀ {ws : List Wy} {ds : List D} {vs : List V} {ass : List (List Addr)}, PdL K σ H B As src ws ds vs ass → ∀ a ∈ (AsW As ws ass).flatten, (src a ∧ ∀ i, a ∉ As i) ∨ ∃ i ∈ iosW ws, a ∈ As i
  | [], ds, vs, ass, h, a, ha => by simp [AsW] at ha
  | .val al n :: ws, ds, vs, ass, h, a, ha => by
    obtain ⟨d, ds', v, vs', as, ass', rfl, rfl, rfl, x, dj, t⟩ := h
    simp only [AsW, List.flatten_cons] at ha
    rcases List.mem_append.mp ha with ha | ha
    · split at ha
      · rename_i c
        exact .inl (x.own (List.isEmpty_iff.mp c) a ha)
      · cases ha
    · exact asW_mem t a ha
  | .io i :: ws, ds, vs, ass, h, a, ha => by
    obtain ⟨ds', v, vs', ass', rfl, rfl, rfl, x, t⟩ := h
    simp only [AsW, List.flatten_cons] at ha
    rcases List.mem_append.mp ha with ha | ha
    · exact .inr ⟨i, List.mem_cons_self, ha⟩
    · exact (asW_mem t a ha).imp id fun ⟨j, hj, m⟩ => ⟨j, List.mem_cons_of_mem _ hj, m⟩
  | .lo al :: ws, ds, vs, ass, h, a, ha => by
    obtain ⟨d, ds', v, vs', ass', rfl, rfl, rfl, x, t⟩ := h
    simp only [AsW, List.flatten_cons, List.nil_append] at ha
    exact asW_mem t a ha
theorem asW_own : ∀ {ws : List Wy} {ds : List D} {vs : List V} {ass : List (List Addr)}, PdL K σ H B As src ws ds vs ass → ∀ a, (∀ i, a ∉ As i) → a ∈ (AsW As ws ass).flatten → ∃ bs ∈ ass, a ∈ bs
  | [], ds, vs, ass, h, a, hn, ha => by simp [AsW] at ha
  | .val al n :: ws, ds, vs, ass, h, a, hn, ha => by
    obtain ⟨d, ds', v, vs', as, ass', rfl, rfl, rfl, x, dj, t⟩ := h
    simp only [AsW, List.flatten_cons] at ha
    rcases List.mem_append.mp ha with ha | ha
    · split at ha
      · exact ⟨as, List.mem_cons_self, ha⟩
      · cases ha
    · obtain ⟨bs, h1, h2⟩ := asW_own t a hn ha
      exact ⟨bs, List.mem_cons_of_mem _ h1, h2⟩
  | .io i :: ws, ds, vs, ass, h, a, hn, ha => by
    obtain ⟨ds', v, vs', ass', rfl, rfl, rfl, x, t⟩ := h
    simp only [AsW, List.flatten_cons] at ha
    rcases List.mem_append.mp ha with ha | ha
    · exact absurd ha (hn i)
    · obtain ⟨bs, h1, h2⟩ := asW_own t a hn ha
      exact ⟨bs, List.mem_cons_of_mem _ h1, h2⟩
  | .lo al :: ws, ds, vs, ass, h, a, hn, ha => by
    obtain ⟨d, ds', v, vs', ass', rfl, rfl, rfl, x, t⟩ := h
    simp only [AsW, List.flatten_cons, List.nil_append] at ha
    obtain ⟨bs, h1, h2⟩ := asW_own t a hn ha
    exact ⟨bs, List.mem_cons_of_mem _ h1, h2⟩
/-- the arguments as the callee gets them: what is borrowed is not banned -/
theorem par_of (G : Good K lv σ H r B As) (hB : ∀ a, Bc a → B a) : ∀ {ws : List Wy} {ns : List Nat} {ds : List D} {vs : List V} {ass : List (List Addr)}, PdL K σ H B As src ws ds vs ass → fitW lv ws ns = true → (iosW ws).Nodup →
    (∀ i ∈ iosW ws, ∃ d, r[i]? = some (some d)) → (∀ i ∈ alsW ws, ∀ a ∈ As i, ¬ Bc a) → (∀ i ∈ iosW ws, ∀ a ∈ As i, Bc a) → (∀ a, (∃ bs ∈ ass, a ∈ bs) → (∀ i, a ∉ As i) → Bc a) → ParL K H Bc ns (fillW r ws ds) vs (AsW As ws ass)
  | [], [], ds, vs, ass, h, _, _, _, _, _, _ => by
    obtain ⟨rfl, rfl, rfl⟩ := h
    exact ⟨rfl, rfl, rfl⟩
  | [], n :: ns, ds, vs, ass, h, g, _, _, _, _, _ => by cases g
  | .val al m :: ws, [], ds, vs, ass, h, g, _, _, _, _, _ => by cases g
  | .io i :: ws, [], ds, vs, ass, h, g, _, _, _, _, _ => by cases g
  | .lo al :: ws, [], ds, vs, ass, h, g, _, _, _, _, _ => by cases g
  | .lo al :: ws, n :: ns, ds, vs, ass, h, g, nd, hi, k2, k3, k4 => by
    obtain ⟨d, ds', v, vs', ass', rfl, rfl, rfl, x, t⟩ := h
    simp only [fitW, Bool.and_eq_true, decide_eq_true_eq] at g
    have T := par_of G hB t g.2 nd hi (fun i m => k2 i (List.mem_append_right _ m)) k3 (fun a ⟨bs, h1, h2⟩ => k4 a ⟨bs, List.mem_cons_of_mem _ h1, h2⟩)
    simp only [fillW, AsW]
    refine ⟨d, _, v, vs', [], _, rfl, rfl, rfl, ?_, List.nodup_nil, by simp, by simp, T⟩
    rw [g.1]
    exact Ow.zero.mpr ⟨rfl, x.kpE fun a z => ⟨hB a z, fun i hi m => k2 i (List.mem_append_left _ hi) a m z⟩⟩
  | .val al m :: ws, n :: ns, ds, vs, ass, h, g, nd, hi, k2, k3, k4 => by
    obtain ⟨d, ds', v, vs', as, ass', rfl, rfl, rfl, x, dj, t⟩ := h
    simp only [fitW, Bool.and_eq_true] at g
    have T := par_of G hB t g.2 nd hi (fun i m => k2 i (List.mem_append_right _ m)) k3 (fun a ⟨bs, h1, h2⟩ => k4 a ⟨bs, List.mem_cons_of_mem _ h1, h2⟩)
    simp only [fillW, AsW]
    by_cases c : al = []
    · subst c
      simp only [List.isEmpty_nil, if_true, decide_eq_true_eq] at g ⊢
      refine ⟨d, _, v, vs', as, _, rfl, rfl, rfl, g.1 ▸ x.ow.ban hB, x.nd, fun a ha => k4 a ⟨as, List.mem_cons_self, ha⟩ (x.own rfl a ha).2, fun a ha m => ?_, T⟩
      obtain ⟨bs, h1, h2⟩ := asW_own t a (x.own rfl a ha).2 m
      exact dj rfl a ha bs h1 h2
    · have e : al.isEmpty = false := by cases al <;> first | exact absurd rfl c | rfl
      rw [e] at g ⊢
      simp only [Bool.false_eq_true, if_false, decide_eq_true_eq] at g ⊢
      refine ⟨d, _, v, vs', [], _, rfl, rfl, rfl, ?_, List.nodup_nil, by simp, by simp, T⟩
      rw [g.1]
      refine Ow.zero.mpr ⟨rfl, Ow.rp m d v as hB (fun a ha => ?_) x.ow⟩
      obtain ⟨i, hi, m⟩ := x.bor c a ha
      exact k2 i (List.mem_append_left _ hi) a m
  | .io i :: ws, n :: ns, ds, vs, ass, h, g, nd, hi, k2, k3, k4 => by
    obtain ⟨ds', v, vs', ass', rfl, rfl, rfl, x, t⟩ := h
    simp only [fitW, Bool.and_eq_true, decide_eq_true_eq] at g
    have nd2 := List.nodup_cons.mp nd
    obtain ⟨d, ed⟩ := hi i List.mem_cons_self
    obtain ⟨v2, ev, ow⟩ := G.slot i d ed
    rw [x] at ev
    cases ev
    have T := par_of G hB t g.2 nd2.2 (fun j hj => hi j (List.mem_cons_of_mem _ hj)) k2 (fun j hj => k3 j (List.mem_cons_of_mem _ hj)) (fun a ⟨bs, h1, h2⟩ => k4 a ⟨bs, List.mem_cons_of_mem _ h1, h2⟩)
    simp only [fillW, AsW, ed]
    refine ⟨d, _, v, vs', As i, _, rfl, rfl, rfl, g.1 ▸ ow.ban hB, G.nd i, fun a ha => k3 i List.mem_cons_self a ha, fun a ha m => ?_, T⟩
    rcases asW_mem t a m with ⟨_, q⟩ | ⟨j, hj, q⟩
    · exact q i ha
    · by_cases c : j = i
      · subst c
        exact nd2.1 hj
      · exact G.dj j i a c q ha
end
end Pv
end
section
/-! P15: the call of a def. -/
namespace Pv
open PySem PySem.Spec PyProof.Rows L2
section
variable {K : Fg} {lv : List Nat} {σ : Sg} {H H' H0 : Hp} {r r0 : Env} {B B0 src : No} {As As0 : AsT} {W : Nat → Prop}
theorem ioOf_snd : ∀ (ws : List Wy) (k : Nat), (ioOf ws k).map (·.2) = iosW ws
  | [], _ => rfl
  | .io i :: ws, k => by simp only [ioOf, iosW, List.map_cons]; rw [ioOf_snd]
  | .val _ _ :: ws, k => by simp only [ioOf, iosW]; rw [ioOf_snd]
  | .lo _ :: ws, k => by simp only [ioOf, iosW]; rw [ioOf_snd]
theorem io_fit : ∀ {ws : List Wy} {ns : List Nat} {k p i : Nat}, fitW lv ws ns = true → (p, i) ∈ ioOf ws k → k ≤ p ∧ ns[p - k]? = some (lv.getD i 0)
  | [], ns, k, p, i, g, h => by cases h
  | .io j :: ws, [], k, p, i, g, h => by cases g
  | .val al m :: ws, [], k, p, i, g, h => by cases g
  | .lo al :: ws, [], k, p, i, g, h => by cases g
  | .io j :: ws, n :: ns, k, p, i, g, h => by
    simp only [fitW, Bool.and_eq_true, decide_eq_true_eq] at g
    simp only [ioOf, List.mem_cons] at h
    rcases h with h | h
    · cases h
      exact ⟨Nat.le_refl _, by simpa using g.1.symm⟩
    · obtain ⟨h1, h2⟩ := io_fit g.2 h
      refine ⟨by omega, ?_⟩
      have : p - k = (p - (k + 1)) + 1 := by omega
      rw [this]
      simpa using h2
  | .val al m :: ws, n :: ns, k, p, i, g, h => by
    simp only [fitW, Bool.and_eq_true] at g
    simp only [ioOf] at h
    obtain ⟨h1, h2⟩ := io_fit g.2 h
    refine ⟨by omega, ?_⟩
    have : p - k = (p - (k + 1)) + 1 := by omega
    rw [this]
    simpa using h2
  | .lo al :: ws, n :: ns, k, p, i, g, h => by
    simp only [fitW, Bool.and_eq_true] at g
    simp only [ioOf] at h
    obtain ⟨h1, h2⟩ := io_fit g.2 h
    refine ⟨by omega, ?_⟩
    have : p - k = (p - (k + 1)) + 1 := by omega
    rw [this]
    simpa using h2
theorem io_val : ∀ {ws : List Wy} {ds : List D} {vs : List V} {ass : List (List Addr)} {k p i : Nat}, PdL K σ H B As src ws ds vs ass → (p, i) ∈ ioOf ws k → k ≤ p ∧ ∃ v, vs[p - k]? = some v ∧ σ[i]? = some (some v)
  | [], ds, vs, ass, k, p, i, g, h => by cases h
  | .io j :: ws, ds, vs, ass, k, p, i, g, h => by
    obtain ⟨ds', v, vs', ass', rfl, rfl, rfl, x, t⟩ := g
    simp only [ioOf, List.mem_cons] at h
    rcases h with h | h
    · cases h
      exact ⟨Nat.le_refl _, v, by simp, x⟩
    · obtain ⟨h1, u, h2, h3⟩ := io_val t h
      refine ⟨by omega, u, ?_, h3⟩
      have : p - k = (p - (k + 1)) + 1 := by omega
      rw [this]
      simpa using h2
  | .val al m :: ws, ds, vs, ass, k, p, i, g, h => by
    obtain ⟨d, ds', v, vs', as, ass', rfl, rfl, rfl, x, dj, t⟩ := g
    simp only [ioOf] at h
    obtain ⟨h1, u, h2, h3⟩ := io_val t h
    refine ⟨by omega, u, ?_, h3⟩
    have : p - k = (p - (k + 1)) + 1 := by omega
    rw [this]
    simpa using h2
  | .lo al :: ws, ds, vs, ass, k, p, i, g, h => by
    obtain ⟨d, ds', v, vs', ass', rfl, rfl, rfl, x, t⟩ := g
    simp only [ioOf] at h
    obtain ⟨h1, u, h2, h3⟩ := io_val t h
    refine ⟨by omega, u, ?_, h3⟩
    have : p - k = (p - (k + 1)) + 1 := by omega
    rw [this]
    simpa using h2
theorem ParL.inb : ∀ {ns : List Nat} {ds : List D} {vs : List V} {ass : List (List Addr)}, ParL K H B ns ds vs ass → ∀ a ∈ ass.flatten, B a
  | [], ds, vs, ass, h, a, ha => by rw [h.2.2] at ha; cases ha
  | n :: ns, ds, vs, ass, h, a, ha => by
    obtain ⟨d, ds', v, vs', as, ass', rfl, rfl, rfl, ow, nd1, hb, dj1, P'⟩ := h
    rw [List.flatten_cons] at ha
    exact (List.mem_append.mp ha).elim (hb a) (P'.inb a)
theorem hasIo_of {io : List (Nat × Nat)} (h : hasIo r io = true) {p i : Nat} (m : (p, i) ∈ io) : ∃ d, r[i]? = some (some d) := by
  unfold hasIo at h
  rw [List.all_eq_true] at h
  have := h (p, i) m
  simp only at this
  split at this
  · rename_i d e
    exact ⟨d, e⟩
  · cases this
theorem call_core {sg : Sig} {ev : List D → Out (D × List D)} {ws : List Wy} {ds : List D} {vs : List V} {ass : List (List Addr)} {io : List (Nat × Nat)} {bo : Bool} {Q : VK}
    (G0 : Good K lv σ H0 r0 B0 As0) (S : Stp W H0 B0 As0 H B As) (G : Good K lv σ H r B As) (P : PdL K σ H B As (Src W H0 As0) ws ds vs ass)
    (hfit : fitW lv ws sg.lvs = true) (hio : io = ioOf ws 0) (nd : (iosW ws).Nodup) (hmut : sg.muts = io.map (·.1)) (hW : ∀ i ∈ iosW ws, W i) (hbo : alsW ws = [] ∨ bo = true) (hdj : ∀ i ∈ alsW ws, i ∉ iosW ws) (hh : hasIo r io = true)
    (w : wp ((ev (fillIo r io ds)).bind fun z => .when (!bo || (immAt sg.rl z.1 && immIo (sg.muts.map fun j => sg.lvs.getD j 0) z.2)) (z.1, backIo io z.2 r)) (fun p => ∀ H' v, Pst K lv W [] sg.rl σ H0 B0 As0 p.1 p.2 v H' → Q v H') ZF) : spG K sg ev vs H Q := by
  have hlen := P.len
  have hfill : fillIo r io ds = fillW r ws ds := by
    rw [hio]
    exact fill_eq (r := r) (ws := ws) (pre := []) (ds := ds) hlen.1
  have hsnd : io.map (·.2) = iosW ws := by rw [hio]; exact ioOf_snd ws 0
  have hpres : ∀ i ∈ iosW ws, ∃ d, r[i]? = some (some d) := fun i hi => by
    rw [← hsnd] at hi
    obtain ⟨⟨p, j⟩, h1, h2⟩ := List.mem_map.mp hi
    cases h2
    exact hasIo_of hh h1
  let bor : Addr → Prop := fun a => ∃ i ∈ alsW ws, a ∈ As i
  let Bc : No := fun a => B a ∧ ¬ bor a
  have borB : ∀ a, bor a → B a := fun a ⟨i, _, m⟩ => G.ban i a m
  have par := par_of (Bc := Bc) G (fun a z => z.1) P hfit nd hpres (fun i hi a m z => z.2 ⟨i, hi, m⟩) (fun i hi a m => ⟨G.ban i a m, fun ⟨j, hj, m2⟩ => by
    by_cases c : j = i
    · subst c
      exact hdj j hj hi
    · exact G.dj j i a c m2 m⟩) (fun a ⟨bs, h1, h2⟩ hn => ⟨by
      have : ∀ {ws : List Wy} {ds : List D} {vs : List V} {ass : List (List Addr)}, PdL K σ H B As (Src W H0 As0) ws ds vs ass → ∀ bs ∈ ass, ∀ a ∈ bs, B a := by
        intro ws
        induction ws with
        | nil => intro ds vs ass h bs hb a ha; rw [h.2.2] at hb; cases hb
        | cons y ws ih =>
          intro ds vs ass h bs hb a ha
          cases y with
          | val al n =>
            obtain ⟨d, ds', v, vs', as, ass', rfl, rfl, rfl, x, dj, t⟩ := h
            rcases List.mem_cons.mp hb with rfl | hb
            · exact x.ban a ha
            · exact ih t bs hb a ha
          | io i =>
            obtain ⟨ds', v, vs', ass', rfl, rfl, rfl, x, t⟩ := h
            rcases List.mem_cons.mp hb with rfl | hb
            · cases ha
            · exact ih t bs hb a ha
          | lo al =>
            obtain ⟨d, ds', v, vs', ass', rfl, rfl, rfl, x, t⟩ := h
            rcases List.mem_cons.mp hb with rfl | hb
            · cases ha
            · exact ih t bs hb a ha
      exact this P bs h1 a h2, fun ⟨j, hj, m2⟩ => hn j m2⟩)
  have assB := par.inb
  refine ⟨fillW r ws ds, Bc, AsW As ws ass, par, fun a z => G.bin a z.1, ?_⟩
  rw [hfill, wp_bind] at w
  refine w.imp fun z hz H' v B' as ass' R => ?_
  obtain ⟨g, hq⟩ := wp_when.mp hz
  let Bf : No := fun a => B' a ∨ bor a
  have mem := asW_mem P
  have notAss : ∀ a, bor a → a ∉ (AsW As ws ass).flatten := fun a hb m => (assB a m).2 hb
  have ldf : ∀ a, Bf a → ∃ o, H' a = some o ∧ isLD o = true := fun a h => h.elim (R.ld a) fun hb => by
    obtain ⟨o, e, l⟩ := G.bin a (borB a hb)
    exact ⟨o, R.keep a o e (notAss a hb), l⟩
  have same : alsW ws = [] → Bf = B' := fun e => by
    funext a
    refine propext ⟨fun h => h.elim id fun ⟨i, hi, _⟩ => ?_, .inl⟩
    rw [e] at hi
    cases hi
  have res : Ow K H' Bf sg.rl z.1 v as := by
    rcases hbo with e | e
    · rw [same e]
      exact R.res
    · subst e
      simp only [Bool.not_true, Bool.false_or, Bool.and_eq_true] at g
      exact Ow.imm ldf _ _ _ _ g.1 R.res
  have out : ParL K H' Bf (sg.muts.map fun j => sg.lvs.getD j 0) z.2 (sg.muts.map fun j => vs.getD j .non) ass' := by
    rcases hbo with e | e
    · rw [same e]
      exact R.out
    · subst e
      simp only [Bool.not_true, Bool.false_or, Bool.and_eq_true] at g
      exact R.out.imm ldf (fun a => .inl) g.2
  have kp : Kp H H' B Bf := ⟨fun a o e n => R.keep a o e fun m => n (assB a m).1, fun a h => h.elim (fun h => (R.ban a h).imp (fun z => z.1) id) fun hb => .inl (borB a hb)⟩
  have As_ass : ∀ j a, j ∉ iosW ws → a ∈ As j → a ∉ (AsW As ws ass).flatten := fun j a hj m m2 => by
    rcases mem a m2 with ⟨_, q⟩ | ⟨i, hi, q⟩
    · exact q j m
    · exact G.dj j i a (fun e => hj (e ▸ hi)) m q
  let Aw : AsT := fun j => if j ∈ iosW ws then [] else As j
  have GX : GoodX (fun j => j ∈ iosW ws) K lv σ H' r Bf Aw := by
    refine ⟨fun j d nj e => ?_, fun j q => ?_, fun j => ?_, fun j k a n m m2 => ?_, fun j a m => ?_, ldf, G.len⟩
    · obtain ⟨u, e2, ow⟩ := G.slot j d e
      refine ⟨u, e2, ?_⟩
      show Ow K H' Bf _ d u (if j ∈ iosW ws then [] else As j)
      rw [if_neg nj]
      exact Ow.kp kp _ d u _ (fun a o m e => R.keep a o e (As_ass j a nj m)) ow
    · show (if j ∈ iosW ws then [] else As j) = []
      split
      · rfl
      · rename_i c
        exact G.off j (q.resolve_left c)
    · show (if j ∈ iosW ws then [] else As j).Nodup
      split
      · exact List.nodup_nil
      · exact G.nd j
    · have m : a ∈ (if j ∈ iosW ws then [] else As j) := m
      have m2 : a ∈ (if k ∈ iosW ws then [] else As k) := m2
      split at m
      · cases m
      · split at m2
        · cases m2
        · exact G.dj j k a n m m2
    · have m : a ∈ (if j ∈ iosW ws then [] else As j) := m
      split at m
      · cases m
      · rename_i c
        by_cases hb : bor a
        · exact .inr hb
        · exact .inl (R.hold a ⟨G.ban j a m, hb⟩ (As_ass j a c m))
  have AwA : ∀ j a, a ∈ Aw j → j ∉ iosW ws ∧ a ∈ As j := fun j a m => by
    have m : a ∈ (if j ∈ iosW ws then [] else As j) := m
    split at m
    · cases m
    · rename_i c
      exact ⟨c, m⟩
  have notAw : ∀ a, (H a = none ∨ a ∈ (AsW As ws ass).flatten) → ∀ j, a ∉ Aw j := fun a h j m => by
    obtain ⟨c, m⟩ := AwA j a m
    rcases h with h | h
    · obtain ⟨o, e⟩ := G.here m
      rw [h] at e
      cases e
    · exact As_ass j a c m h
  have lo := out.length
  have lio : io.length = ass'.length := by rw [lo.2.2, hmut, List.length_map, List.length_map]
  have GG := GX.giveL (io := io) out (by rw [hmut, List.length_map, List.length_map]) (fun k p i e => by
    have m : (p, i) ∈ io := List.mem_of_getElem? e
    obtain ⟨d, ed⟩ := hasIo_of hh m
    have m' := m
    rw [hio] at m'
    obtain ⟨_, f1⟩ := io_fit hfit m'
    obtain ⟨_, u, f2, f3⟩ := io_val P m'
    refine ⟨rest_len ed, ?_, u, ?_, f3⟩
    · rw [hmut, List.getElem?_map, List.getElem?_map, e]
      simp only [Nat.sub_zero] at f1
      simp [f1]
    · rw [hmut, List.getElem?_map, List.getElem?_map, e]
      simp only [Nat.sub_zero] at f2
      simp [f2]) (fun a ha j => notAw a (R.osrc a ha) j) (by rw [hsnd]; exact nd)
  have Gf := GG.good (fun i z => z.2 (by rw [hsnd]; exact z.1))
  have upd_io : ∀ j, j ∉ iosW ws → updAs io ass' Aw j = As j := fun j hj => by
    rw [updAs_out (by rw [hsnd]; exact hj)]
    exact if_neg hj
  have srcAss : ∀ a, a ∈ (AsW As ws ass).flatten → Src W H0 As0 a := fun a m => by
    rcases mem a m with ⟨q, _⟩ | ⟨i, hi, q⟩
    · exact q
    · exact S.srcOf (hW i hi) q
  have srcAny : ∀ a, (H a = none ∨ a ∈ (AsW As ws ass).flatten) → Src W H0 As0 a := fun a h => h.elim (fun h => (S.src (W' := fun _ => False) (.inl h)).wide fun i w => w.elim id False.elim) (srcAss a)
  refine hq H' v ⟨Bf, _, as, Gf, ⟨fun a o e n => ?_, fun a h => ?_, fun a hb n => ?_, fun i wi a m => ?_, fun i wi => ?_⟩, res, R.nd, fun a ha => .inl (R.inb a ha), fun _ a ha => ⟨srcAny a (R.src a ha), fun j m => ?_⟩, fun c => absurd rfl c⟩
  · refine R.keep a o (S.keep a o e n) fun m => ?_
    rcases srcAss a m with z | ⟨i, wi, m2⟩
    · rw [e] at z
      cases z
    · exact n i wi m2
  · have : B a ∨ H a = none := h.elim (fun h => (R.ban a h).imp (fun z => z.1) id) fun hb => .inl (borB a hb)
    rcases this with z | z
    · exact S.ban a z
    · cases e : H0 a with
      | none => exact .inr rfl
      | some o =>
        by_cases c : B0 a
        · exact .inl c
        · exfalso
          have := S.keep a o e fun i wi m => c (G0.ban i a m)
          rw [z] at this
          cases this
  · have hB := S.hold a hb n
    by_cases hbb : bor a
    · exact .inr hbb
    · refine .inl (R.hold a ⟨hB, hbb⟩ fun m => ?_)
      rcases srcAss a m with z | ⟨i, wi, m2⟩
      · obtain ⟨o, e, _⟩ := G0.bin a hb
        rw [e] at z
        cases z
      · exact n i wi m2
  · have sr : Src W H0 As0 a := by
      by_cases c : i ∈ iosW ws
      · exact srcAny a (R.osrc a (updAs_in lio (by rw [hsnd]; exact c) a m))
      · rw [upd_io i c] at m
        exact S.srcOf wi m
    exact sr.elim .inr .inl
  · have c : i ∉ iosW ws := fun c => wi (hW i c)
    rw [upd_io i c]
    exact S.same i wi
  · by_cases c : j ∈ iosW ws
    · exact R.dj a ha (updAs_in lio (by rw [hsnd]; exact c) a m)
    · rw [upd_io j c] at m
      rcases R.src a ha with z | z
      · obtain ⟨o, e⟩ := G.here m
        rw [z] at e
        cases e
      · exact As_ass j a c m z
end
end Pv
end
section
/-! P16: calls as expressions. -/
namespace Pv
open PySem PySem.Spec PyProof.Rows L2
/-- a def that may be called: by position; by keywords in the parameters' order from some place on -/
structure FnI (X : Cx) (F : Fns) (f : Str) (sg : Sig) : Prop where
  ex : ∃ (fa : Addr) (fd : FuncData) (k : Nat), X.mg f = some (.ref fa) ∧ PySem.W.keepIn X.K (.ref fa) = true ∧ FnG X.prog X.w X.K X.mg X.base k fa fd sg (F.call f) ∧ Room k X.A ∧
    (∀ (s : Shared) (us : List Value), us.length = sg.ps.length → BindsTo s fd ⟨us, []⟩ (sg.ps.zip us)) ∧
    (∀ p ∈ sg.kws, ∀ (s : Shared) (us : List Value), us.length = sg.ps.length → BindsTo s fd ⟨[], p.1.zip us⟩ (sg.ps.zip (p.2.map fun j => us.getD j .none)))
  lv : F.lv f = sg.muts.map fun j => sg.lvs.getD j 0
  len : sg.lvs.length = sg.ps.length
section
variable {X : Cx} {F : Fns} {lv : List Nat} {pos nm : Pos} {a b c : E} {ea eb ec : Expr} {l : List E} {es : List Expr} {f : Str} {sg : Sig}
def callOk (lv : List Nat) (sg : Sig) (n : Nat) (l : List E) (io : List (Nat × Nat)) (bo : Bool) : Bool :=
  let ws := l.map (wyE lv)
  decide (n = sg.rl) && fitW lv ws sg.lvs && decide (io = ioOf ws 0) && decide (iosW ws).Nodup && decide (sg.muts = io.map (·.1)) && (decide (alsW ws = []) || bo) && (alsW ws).all fun i => decide (i ∉ iosW ws)
theorem spG_len {K : Fg} {ev : List D → Out (D × List D)} {vs : List V} {H : Hp} {Q : VK} (h : spG K sg ev vs H Q) : vs.length = sg.lvs.length := by
  obtain ⟨ds, B, ass, P, _⟩ := h
  exact P.length.2.1
/-- the arguments' values come to the callee -/
theorem call_args (I : FnI X F f sg) {n : Nat} {io : List (Nat × Nat)} {bo : Bool} (hok : callOk lv sg n l io bo = true) {σ : Sg} {H : Hp} {Q : VK} (h : tEv X.K F lv ZF (.call f n l [] io bo) σ H Q) :
    tEvL X.K F lv ZF l σ H fun vs H1 => spG X.K sg (F.call f) vs H1 Q := by
  unfold callOk at hok
  simp only [Bool.and_eq_true, decide_eq_true_eq, List.all_eq_true, Bool.or_eq_true] at hok
  obtain ⟨⟨⟨⟨⟨⟨h1, h2⟩, h3⟩, h4⟩, h5⟩, h6⟩, h7⟩ := hok
  obtain ⟨r, B, As, G, w⟩ := h
  simp only [evE] at w
  rw [wp_bind] at w
  refine tEvL.mk G w fun ds r2 H2 B2 As2 vs ass hw G2 S2 P2 => ?_
  split at hw
  · rename_i hh
    have ww : ∀ i, ofL (wrL l) i → ofL (wrE (.call f n l [] io bo)) i := fun i w => List.mem_append_left _ w
    have e1 : permD [] (fillIo r2 io ds) = fillIo r2 io ds := rfl
    subst h1
    rw [e1, I.lv] at hw
    refine call_core (W := ofL (wrE (.call f sg.rl l [] io bo))) G (S2.wide ww) G2 (P2.src fun u z => z.wide ww) h2 h3 h4 h5 (fun i hi => ?_) h6 h7 hh hw
    refine List.mem_append_right _ ?_
    rw [h3, ioOf_snd]
    exact hi
  · exact hw.elim
theorem star_one (h : (ea :: es).all notStar = true) (env : PySem.Env) (pos : Pos) : starEach (ea :: es) env = (false, eval ea env) :: starEach es env ∧ (backTo pos (starEach es env)).any (·.1) = false := by
  simp only [List.all_cons, Bool.and_eq_true] at h
  exact ⟨star_ok h.1 es env, star_any h.2⟩
/-- f(..), by position -/
theorem s_call (I : FnI X F f sg) (hgd : X.A.guards = some []) (hg : Gl X f) (hdb : (f == ("__debug__" : Str)) = false) {n : Nat} {io : List (Nat × Nat)} {bo : Bool} (hok : callOk lv sg n l io bo = true) (hl : SA X F lv ZF l es) (hs : es.all notStar = true) (hle : l.length = es.length) :
    SE X F lv ZF (.call f n l [] io bo) (.Call (.Name f nm) es [] pos) := by
  obtain ⟨fa, fd, k, hm, hk, Fg, hr, hb, _⟩ := I.ex
  refine ⟨fun pins s σ H Q J h => ?_⟩
  have h' := call_args I hok h
  have go : ∀ (us : List Value) (s1 : Shared) (vs : List V) (H1 : Hp), Inv X pins σ H1 s1 → Vals vs us → spG X.K sg (F.call f) vs H1 Q → wpAny (model X.prog X.w) X.A (call (.ref fa) us) (EP X pins σ Q) X.xe s1 := fun us s1 vs H1 J1 rv q => by
    have e : us.length = sg.ps.length := by rw [← rv.length, spG_len q, I.len]
    exact run_fnG (us := us) Fg hr hgd J1 (hb s1 us e) rv q
  refine wpAny_Call_Name_kw (ld_glob J hg hm ?_ hdb)
  cases es with
  | nil =>
    have : l = [] := List.eq_nil_of_length_eq_zero hle
    subst this
    obtain ⟨r, B, As, G, w⟩ := h'
    exact PySem.W.callWith_K0 J.kIn hk (go [] s [] H J .nil (w H [] ⟨B, As, [], G, Stp.refl, rfl, rfl, rfl⟩))
  | cons ee es =>
    obtain ⟨h1, h2⟩ := star_one hs X.env pos
    exact PySem.W.callWith_K (h₀ := X.base) J.ok.mod.kin hk (thn (hl.run pos pins s σ H _ J h') fun us s1 ⟨vs, H1, J1, rv, q⟩ => ⟨J1.kIn, go us s1 vs H1 J1 rv q⟩) h1 h2
/-! ### f(k = .., ..) -/
abbrev SK (X : Cx) (F : Fns) (lv : List Nat) (l : List E) (kws : List Keyword) : Prop := PK X kws (tEvL X.K F lv ZF l)
theorem pk_of {kws : List Keyword} {t t' : TA} (h : PK X kws t) (k : ∀ σ H Q, t' σ H Q → t σ H Q) : PK X kws t' := ⟨fun p pins s σ H Q I q => h.run p pins s σ H Q I (k σ H Q q)⟩
theorem k_nil : SK X F lv [] [] := pk_of pk_nil fun σ H Q ⟨r, B, As, G, w⟩ => w H [] ⟨B, As, [], G, Stp.refl, rfl, rfl, rfl⟩
theorem k_cons {nm : Option Str} {kpos : Pos} {kws : List Keyword} (ha : SE X F lv ZF a ea) (hl : SK X F lv l kws) (hio : isIo a = false) (dj : ∀ i ∈ alE lv a, i ∉ wrL l) : SK X F lv (a :: l) (⟨nm, ea, kpos⟩ :: kws) := by
  refine pk_of (pk_cons ha hl) fun σ H Q ⟨r, B, As, G, w⟩ => ?_
  simp only [evL] at w
  rw [wp_bind] at w
  refine tEv.mk G w fun dx r1 H1 B1 As1 x asx h1 G1 S1 X1 => ?_
  rw [wp_bind] at h1
  refine tEvL.mk G1 h1 fun ds r2 H2 B2 As2 vs ass h2 G2 S2 P2 => ?_
  have ww : ∀ i, ofL (wrE a) i ∨ ofL (wrL l) i → i ∈ wrL (a :: l) := fun i w => w.elim (List.mem_append_left _) (List.mem_append_right _)
  have X3 := X1.step G1 S2 dj
  refine h2 H2 (x :: vs) ⟨B2, As2, asx :: ass, G2, (S1.trans G S2).wide ww, ?_⟩
  rw [List.map_cons, wy_val hio]
  refine ⟨dx, ds, x, vs, asx, ass, rfl, rfl, rfl, X3.src fun u z => z.wide fun i w => ww i (.inl w), fun e u hu bs hb m => ?_, P2.src fun u z => (S1.src z).wide ww⟩
  rcases P2.mem bs hb u m with ⟨z, _⟩ | ⟨i, z⟩
  · rcases z with z | ⟨i, w, z⟩
    · obtain ⟨o, e2, _⟩ := G1.bin u (X1.ban u hu)
      rw [z] at e2
      cases e2
    · exact (X1.own e u hu).2 i z
  · exact (X3.own e u hu).2 i z
/-- all arguments are read only -/
def zeroW : List Wy → Bool
  | [] => true
  | .val al n :: ws => (if al.isEmpty then decide (n = 0) else true) && zeroW ws
  | .io _ :: _ => false
  | .lo _ :: ws => zeroW ws
theorem rp_of {σ : Sg} {H : Hp} {B Bc src : No} {As : AsT} (hB : ∀ a, Bc a → B a) : ∀ {ws : List Wy} {ds : List D} {vs : List V} {ass : List (List Addr)}, PdL X.K σ H B As src ws ds vs ass → zeroW ws = true → (∀ i ∈ alsW ws, ∀ a ∈ As i, ¬ Bc a) → RpL X.K H Bc ds vs
  | [], ds, vs, ass, h, _, _ => by
    obtain ⟨rfl, rfl, rfl⟩ := h
    simp [RpL]
  | .io i :: ws, ds, vs, ass, h, g, _ => by cases g
  | .lo al :: ws, ds, vs, ass, h, g, k2 => by
    obtain ⟨d, ds', v, vs', ass', rfl, rfl, rfl, x, t⟩ := h
    simp only [zeroW] at g
    simp only [RpL]
    exact ⟨v, vs', rfl, x.kpE fun a z => ⟨hB a z, fun i hi m => k2 i (List.mem_append_left _ hi) a m z⟩, rp_of hB t g fun i m => k2 i (List.mem_append_right _ m)⟩
  | .val al m :: ws, ds, vs, ass, h, g, k2 => by
    obtain ⟨d, ds', v, vs', as, ass', rfl, rfl, rfl, x, dj, t⟩ := h
    simp only [zeroW, Bool.and_eq_true] at g
    simp only [RpL]
    refine ⟨v, vs', rfl, ?_, rp_of hB t g.2 fun i m => k2 i (List.mem_append_right _ m)⟩
    by_cases c : al = []
    · subst c
      simp only [List.isEmpty_nil, if_true, decide_eq_true_eq] at g
      have ow := x.ow
      rw [g.1] at ow
      exact (Ow.zero.mp ow).2.kpE hB
    · refine Ow.rp m d v as hB (fun a ha => ?_) x.ow
      obtain ⟨i, hi, m⟩ := x.bor c a ha
      exact k2 i (List.mem_append_left _ hi) a m
theorem RpL.perm {K : Fg} {H : Hp} {no : No} {ds : List D} {vs : List V} (r : RpL K H no ds vs) : ∀ (pm : List Nat), pm.all (fun j => decide (j < ds.length)) = true → RpL K H no (pm.map fun j => ds.getD j .none) (pm.map fun j => vs.getD j .non)
  | [], _ => by simp [RpL]
  | j :: pm, h => by
    simp only [List.all_cons, Bool.and_eq_true, decide_eq_true_eq] at h
    simp only [List.map_cons, RpL]
    obtain ⟨v, e, q⟩ := r.get (List.getElem?_eq_getElem h.1)
    refine ⟨_, _, rfl, ?_, r.perm pm h.2⟩
    rw [List.getD_eq_getElem?_getD, List.getD_eq_getElem?_getD, List.getElem?_eq_getElem h.1, e]
    exact q
theorem RpL.par {K : Fg} {H : Hp} {no : No} : ∀ {ns : List Nat} {ds : List D} {vs : List V}, RpL K H no ds vs → ns.all (· == 0) = true → ns.length = ds.length → ParL K H no ns ds vs (ns.map fun _ => [])
  | [], [], vs, h, _, _ => by
    simp only [RpL] at h
    exact ⟨rfl, h, rfl⟩
  | [], d :: ds, vs, h, _, e => by cases e
  | n :: ns, [], vs, h, _, e => by cases e
  | n :: ns, d :: ds, vs, h, g, e => by
    simp only [RpL] at h
    obtain ⟨v, r, rfl, h1, h2⟩ := h
    simp only [List.all_cons, Bool.and_eq_true, beq_iff_eq] at g
    exact ⟨d, ds, v, r, [], _, rfl, rfl, rfl, by rw [g.1]; exact Ow.zero.mpr ⟨rfl, h1⟩, List.nodup_nil, by simp, by simp, h2.par g.2 (by simpa using e)⟩
theorem noAss (ns : List Nat) : (ns.map fun _ => ([] : List Addr)).flatten = [] := by
  induction ns with
  | nil => rfl
  | cons n ns ih => simpa using ih
def kwOk (lv : List Nat) (sg : Sig) (n : Nat) (l : List E) (pm : List Nat) (bo : Bool) : Bool :=
  let ws := l.map (wyE lv)
  decide (n = sg.rl) && zeroW ws && sg.lvs.all (· == 0) && decide (sg.muts = []) && (decide (alsW ws = []) || bo) && pm.all (fun j => decide (j < l.length)) && decide (pm.length = sg.lvs.length) && !pm.isEmpty && decide (l.length = sg.ps.length)
theorem vals_getD : ∀ {vs : List V} {us : List Value} (j : Nat), Vals vs us → RelV (vs.getD j .non) (us.getD j .none)
  | [], us, j, h => by
    cases h
    exact rfl
  | v :: vs, us, 0, h => by
    cases h with
    | cons r t => exact r
  | v :: vs, us, j + 1, h => by
    cases h with
    | cons r t =>
      have := vals_getD j t
      simpa using this
theorem vals_perm {vs : List V} {us : List Value} (h : Vals vs us) : ∀ (pm : List Nat), Vals (pm.map fun j => vs.getD j .non) (pm.map fun j => us.getD j .none)
  | [] => .nil
  | j :: pm => .cons (vals_getD j h) (vals_perm h pm)
theorem s_callK (I : FnI X F f sg) (hgd : X.A.guards = some []) (hg : Gl X f) (hdb : (f == ("__debug__" : Str)) = false) {n : Nat} {bo : Bool} {pm : List Nat} {ks : List Str} {kws : List Keyword} (hp : (ks, pm) ∈ sg.kws) (hok : kwOk lv sg n l pm bo = true) (hl : SK X F lv l kws)
    (hall : (backToKw pos (keywordEach kws X.env)).all (·.1.isSome) = true) (hks : (backToKw pos (keywordEach kws X.env)).filterMap (·.1) = ks) (hpl : ((backTo pos (starEach [] X.env)).any (·.1) || (backToKw pos (keywordEach kws X.env)).any (·.1.isNone)) = false) :
    SE X F lv ZF (.call f n l pm [] bo) (.Call (.Name f nm) [] kws pos) := by
  obtain ⟨fa, fd, k, hm, hk, Fg, hr, _, hb⟩ := I.ex
  unfold kwOk at hok
  simp only [Bool.and_eq_true, decide_eq_true_eq, Bool.or_eq_true] at hok
  obtain ⟨⟨⟨⟨⟨⟨⟨⟨h1, h2⟩, h3⟩, h4⟩, h5⟩, h6⟩, h7⟩, h8⟩, h9⟩ := hok
  refine ⟨fun pins s σ H Q J ⟨r, B, As, G, w⟩ => ?_⟩
  simp only [evE] at w
  rw [wp_bind] at w
  have h' : tEvL X.K F lv ZF l σ H fun vs H1 => vs.length = l.length ∧ spG X.K sg (F.call f) (pm.map fun j => vs.getD j .non) H1 Q := by
    refine tEvL.mk G w fun ds r2 H2 B2 As2 vs ass hw G2 S2 P2 => ⟨by rw [P2.len.2, List.length_map], ?_⟩
    have hlen := P2.len
    rw [if_pos (show hasIo (ds, r2).2 [] = true from rfl)] at hw
    have ww : ∀ i, ofL (wrL l) i → ofL (wrE (.call f n l pm [] bo)) i := fun i w => List.mem_append_left _ w
    have S3 := S2.wide ww
    let bor : Addr → Prop := fun a => ∃ i ∈ alsW (l.map (wyE lv)), a ∈ As2 i
    let Bc : No := fun a => B2 a ∧ ¬ bor a
    have borB : ∀ a, bor a → B2 a := fun a ⟨i, _, m⟩ => G2.ban i a m
    have rp := rp_of (Bc := Bc) (fun a z => z.1) P2 h2 fun i hi a m z => z.2 ⟨i, hi, m⟩
    have e1 : permD pm (fillIo r2 [] ds) = pm.map fun j => ds.getD j .none := by
      unfold permD
      have : pm.isEmpty = false := by simpa using h8
      rw [this]
      rfl
    simp only at hw
    rw [e1, wp_bind] at hw
    have dl : ds.length = l.length := by rw [hlen.1, List.length_map]
    refine ⟨_, Bc, _, (rp.perm pm (by rw [dl]; exact h6)).par h3 (by rw [List.length_map, h7]), fun a z => G2.bin a z.1, hw.imp fun z hz H' v B' as ass' R => ?_⟩
    obtain ⟨g, hq⟩ := wp_when.mp hz
    let Bf : No := fun a => B' a ∨ bor a
    have hna := noAss sg.lvs
    have ldf : ∀ a, Bf a → ∃ o, H' a = some o ∧ isLD o = true := fun a h => h.elim (R.ld a) fun hb => by
      obtain ⟨o, e, l⟩ := G2.bin a (borB a hb)
      exact ⟨o, R.keep a o e (by rw [hna]; simp), l⟩
    have res : Ow X.K H' Bf sg.rl z.1 v as := by
      rcases h5 with e | e
      · have : Bf = B' := by
          funext a
          refine propext ⟨fun h => h.elim id fun ⟨i, hi, _⟩ => ?_, .inl⟩
          rw [e] at hi
          cases hi
        rw [this]
        exact R.res
      · subst e
        simp only [Bool.not_true, Bool.false_or, Bool.and_eq_true] at g
        rw [h1] at g
        exact Ow.imm ldf _ _ _ _ g.1 R.res
    have sm : Same H2 H' := fun a o e => R.keep a o e (by rw [hna]; simp)
    have fr : ∀ a ∈ as, H2 a = none := fun a ha => (R.src a ha).elim id fun m => by rw [hna] at m; cases m
    have kpB : ∀ a, Bf a → B2 a ∨ H2 a = none := fun a h => h.elim (fun h => (R.ban a h).imp (fun z => z.1) id) fun hb => .inl (borB a hb)
    have upB : ∀ a, B2 a → Bf a := fun a hb => by
      by_cases c : bor a
      · exact .inr c
      · exact .inl (R.hold a ⟨hb, c⟩ (by rw [hna]; simp))
    have zo : z.2 = [] := by
      have := R.out.length.1
      rw [h4] at this
      exact List.eq_nil_of_length_eq_zero this
    have Gf : Good X.K lv σ H' r2 Bf As2 := ⟨fun i d e => by
      obtain ⟨u, e2, ow⟩ := G2.slot i d e
      exact ⟨u, e2, Ow.kp ⟨fun a o e _ => sm a o e, kpB⟩ _ d u _ (fun a o _ e => sm a o e) ow⟩, G2.off, G2.nd, G2.dj, fun i a m => upB a (G2.ban i a m), ldf, G2.len⟩
    refine hq H' v ⟨Bf, As2, as, ?_, (S3.trans (W' := fun _ => False) G (Stp.same' sm kpB upB)).wide fun i w => w.elim id False.elim, ?_⟩
    · rw [zo]
      exact Gf
    · refine ⟨?_, R.nd, fun a ha => .inl (R.inb a ha), fun _ a ha => ⟨(S3.src (W' := fun _ => False) (.inl (fr a ha))).wide fun i w => w.elim id False.elim, fun i m => ?_⟩, fun c => absurd rfl c⟩
      · show Ow _ _ _ n _ _ _
        rw [h1]
        exact res
      · obtain ⟨o, e⟩ := G2.here m
        rw [fr a ha] at e
        cases e
  refine wpAny_Call_Name_kw (ld_glob J hg hm ?_ hdb)
  refine PySem.W.callWith_KW0 (h₀ := X.base) J.ok.mod.kin hk hall (thn (hl.run pos pins s σ H _ J h') fun us s1 ⟨vs, H1, J1, rv, e, q⟩ => ⟨J1.kIn, ?_⟩) hpl
  rw [hks]
  exact run_fnG (us := pm.map fun j => us.getD j .none) (pos := [] ++ []) Fg hr hgd J1 (hb (ks, pm) hp s1 us (by rw [← rv.length, e, h9])) (vals_perm rv pm) q
end
end Pv
end
section
/-! P17: statements, the plain ones. -/
namespace Pv
open PySem PySem.Spec PyProof.Rows L2
def tgL : Tg → List Nat
  | .n i => [i]
  | .t l => l
mutual
def wrS : S → List Nat
  | .asg tg e => wrE e ++ tgL tg
  | .par l es => wrL es ++ l
  | .aug i _ e => i :: wrE e
  | .put i x e => i :: (wrE e ++ wrE x)
  | .ex e => wrE e
  | .sda i k e => i :: (wrE k ++ wrE e)
  | .ret e => wrE e
  | .ifs c a b => wrE c ++ (wrSs a ++ wrSs b)
  | .for tg _ il b => wrL il ++ (tgL tg ++ wrSs b)
  | .while c b => wrE c ++ wrSs b
  | .each i e b => wrE e ++ (i :: wrSs b)
  | .unp l e => wrE e ++ l
  | .putd i x e => i :: (wrE e ++ wrE x)
  | .raise _ e => wrE e
  | .ret0 => []
  | .pass => []
  | .brk => []
  | .cnt => []
  | .bad => []
def wrSs : List S → List Nat
  | [] => []
  | s :: l => wrS s ++ wrSs l
end
mutual
def asS : S → List Nat
  | .asg tg _ => tgL tg
  | .par l _ => l
  | .aug i _ _ => [i]
  | .ifs _ a b => asSs a ++ asSs b
  | .for tg _ _ b => tgL tg ++ asSs b
  | .while _ b => asSs b
  | .each i _ b => i :: asSs b
  | .unp l _ => l
  | .putd _ _ _ => []
  | _ => []
def asSs : List S → List Nat
  | [] => []
  | s :: l => asS s ++ asSs l
end
/-- what a statement's end asks -/
def PC (K : Fg) (lv : List Nat) (rl : Nat) (W A : List Nat) (D : Ends) (σ : Sg) (H : Hp) (B : No) (As : AsT) (p : Ctl × Env) : Prop :=
  ∀ σ' H' B' As', Good K lv σ' H' p.2 B' As' → Stp (ofL W) H B As H' B' As' → (∀ i, i ∉ A → σ'[i]? = σ[i]?) →
    match p.1 with
    | .nx => D.nx σ' H'
    | .brk => D.bk σ' H'
    | .cnt => D.ct σ' H'
    | .ret d => ∀ v as, Val K H' B' As' (Src (ofL W) H As) [] rl d v as → D.rt v H'
def tSt (K : Fg) (lv : List Nat) (Z : Str → D → Prop) (rl : Nat) (ev : Env → Out (Ctl × Env)) (W A : List Nat) : TS := fun D σ H =>
  ∃ r B As, Good K lv σ H r B As ∧ wp (ev r) (PC K lv rl W A D σ H B As) Z
abbrev SS (X : Cx) (F : Fns) (lv : List Nat) (Z : Str → D → Prop) (rl fuel : Nat) (s : S) (st : Stmt) : Prop := PS X st (tSt X.K lv Z rl (evS F fuel s) (wrS s) (asS s))
abbrev SSs (X : Cx) (F : Fns) (lv : List Nat) (Z : Str → D → Prop) (rl fuel : Nat) (s : List S) (st : List Stmt) : Prop := PSs X st (tSt X.K lv Z rl (evSs F fuel s) (wrSs s) (asSs s))
theorem ps_of {X : Cx} {e : Stmt} {t t' : TS} (h : PS X e t) (k : ∀ D σ H, t' D σ H → t D σ H) : PS X e t' := ⟨fun pins s σ H D I q => h.run pins s σ H D I (k D σ H q)⟩
theorem pss_of {X : Cx} {e : List Stmt} {t t' : TS} (h : PSs X e t) (k : ∀ D σ H, t' D σ H → t D σ H) : PSs X e t' := ⟨fun pins s σ H D I q => h.run pins s σ H D I (k D σ H q)⟩
section
variable {K : Fg} {lv : List Nat} {Z : Str → D → Prop} {rl : Nat} {σ σ1 : Sg} {H H1 : Hp} {r : Env} {B B1 : No} {As As1 : AsT} {W W1 W2 A A1 A2 : List Nat} {D : Ends} {p : Ctl × Env}
/-- from a later state -/
theorem PC.later (h : PC K lv rl W A D σ H B As p) (G : Good K lv σ H r B As) (S : Stp (ofL W1) H B As H1 B1 As1) (fx : ∀ i, i ∉ A1 → σ1[i]? = σ[i]?) (w1 : ∀ i, i ∈ W1 → i ∈ W) (w2 : ∀ i, i ∈ W2 → i ∈ W) (a1 : ∀ i, i ∈ A1 → i ∈ A) (a2 : ∀ i, i ∈ A2 → i ∈ A) :
    PC K lv rl W2 A2 D σ1 H1 B1 As1 p := by
  intro σ' H' B' As' G' S' fx'
  have ww : ∀ i, ofL W1 i ∨ ofL W2 i → ofL W i := fun i w => w.elim (w1 i) (w2 i)
  have q := h σ' H' B' As' G' ((S.trans G S').wide ww) fun i n => (fx' i fun m => n (a2 i m)).trans (fx i fun m => n (a1 i m))
  obtain ⟨c, r'⟩ := p
  cases c with
  | nx => exact q
  | brk => exact q
  | cnt => exact q
  | ret d => exact fun v as X => q v as (X.src fun u z => (S.src z).wide ww)
/-- at once -/
theorem PC.here (h : PC K lv rl W A D σ H B As (.nx, r)) (G : Good K lv σ H r B As) : D.nx σ H := h σ H B As G Stp.refl fun _ _ => rfl
end
section
variable {X : Cx} {F : Fns} {lv : List Nat} {Z : Str → D → Prop} {rl fuel : Nat} {pos : Pos} {e c : E} {ee ec : Expr} {s : S} {l : List S} {st : Stmt} {sts : List Stmt}
theorem ss_nil : SSs X F lv Z rl fuel [] [] := pss_of pss_nil fun D σ H ⟨r, B, As, G, w⟩ => PC.here (rl := rl) w G
theorem ss_cons (h1 : SS X F lv Z rl fuel s st) (h2 : SSs X F lv Z rl fuel l sts) : SSs X F lv Z rl fuel (s :: l) (st :: sts) := by
  refine pss_of (pss_cons h1 h2) fun D σ H ⟨r, B, As, G, w⟩ => ?_
  simp only [evSs] at w
  rw [wp_bind] at w
  refine ⟨r, B, As, G, w.imp fun p hp => ?_⟩
  obtain ⟨c, r1⟩ := p
  intro σ1 H1 B1 As1 G1 S1 fx
  have ww : ∀ i, i ∈ wrS s → i ∈ wrSs (s :: l) := fun i => List.mem_append_left _
  have aa : ∀ i, i ∈ asS s → i ∈ asSs (s :: l) := fun i => List.mem_append_left _
  cases c with
  | nx => exact ⟨r1, B1, As1, G1, wp.imp (x := evSs F fuel l r1) hp fun q hq => hq.later G S1 fx ww (fun i => List.mem_append_right _) aa (fun i => List.mem_append_right _)⟩
  | brk => exact (show PC X.K lv rl _ _ D σ H B As (.brk, r1) from hp) σ1 H1 B1 As1 G1 (S1.wide ww) fun i n => fx i fun m => n (aa i m)
  | cnt => exact (show PC X.K lv rl _ _ D σ H B As (.cnt, r1) from hp) σ1 H1 B1 As1 G1 (S1.wide ww) fun i n => fx i fun m => n (aa i m)
  | ret d => exact fun v as x => (show PC X.K lv rl _ _ D σ H B As (.ret d, r1) from hp) σ1 H1 B1 As1 G1 (S1.wide ww) (fun i n => fx i fun m => n (aa i m)) v as (x.src fun u z => z.wide ww)
theorem ss_pass : SS X F lv Z rl fuel .pass (.Pass pos) := ps_of ps_pass fun D σ H ⟨r, B, As, G, w⟩ => PC.here (rl := rl) w G
theorem ss_brk : SS X F lv Z rl fuel .brk (.Break pos) := ps_of ps_break fun D σ H ⟨r, B, As, G, w⟩ => w σ H B As G Stp.refl fun _ _ => rfl
theorem ss_cnt : SS X F lv Z rl fuel .cnt (.Continue pos) := ps_of ps_continue fun D σ H ⟨r, B, As, G, w⟩ => w σ H B As G Stp.refl fun _ _ => rfl
theorem ss_doc {x : Str} {j : Nat} {pos' : Pos} : SS X F lv Z rl fuel .pass (.Expr (.Constant (.str x) j pos) pos') := ps_of ps_doc fun D σ H ⟨r, B, As, G, w⟩ => PC.here (rl := rl) w G
def noComp : Expr → Bool
  | .ListComp _ _ _ _ => false
  | .SetComp _ _ _ _ => false
  | .DictComp _ _ _ _ _ => false
  | _ => true
theorem swaps_ok {e : Expr} (h : noComp e = true) (t : Option Expr) (n : Nat) (env : PySem.Env) : swapsWith e t n env = pure false := by cases e <;> first | rfl | cases h
theorem ss_ex (he : SE X F lv Z e ee) (h : noComp ee = true) : SS X F lv Z rl fuel (.ex e) (.Expr ee pos) := by
  refine ps_of (ps_expr he (swaps_ok h _ _ _)) fun D σ H ⟨r, B, As, G, w⟩ => ?_
  simp only [evS] at w
  rw [wp_bind] at w
  exact tEv.mk G w fun d r' H' B' As' v as hw G' S' X' => hw σ H' B' As' G' S' fun _ _ => rfl
theorem ss_ret (he : SE X F lv Z e ee) (hn : lvE lv e = rl) (ha : alE lv e = []) : SS X F lv Z rl fuel (.ret e) (.Return (some ee) pos) := by
  refine ps_of (ps_ret he) fun D σ H ⟨r, B, As, G, w⟩ => ?_
  simp only [evS] at w
  rw [wp_bind] at w
  refine tEv.mk G w fun d r' H' B' As' v as hw G' S' X' => hw σ H' B' As' G' S' (fun _ _ => rfl) v as ?_
  rw [← ha, ← hn]
  exact X'
theorem ss_ret0 : SS X F lv Z rl fuel .ret0 (.Return none pos) := by
  refine ps_of ps_retN fun D σ H ⟨r, B, As, G, w⟩ => ?_
  refine w σ H B As G Stp.refl (fun _ _ => rfl) .non [] ⟨imm_ow rl rfl (by simp only [Rp]), List.nodup_nil, by simp, by simp, by simp⟩
theorem ss_if {a b : List S} {sa sb : List Stmt} (hc : ST X F lv Z c ec) (ha : SSs X F lv Z rl fuel a sa) (hb : SSs X F lv Z rl fuel b sb) : SS X F lv Z rl fuel (.ifs c a b) (.If ec sa sb pos) := by
  refine ps_of (ps_if hc ha hb) fun D σ H ⟨r, B, As, G, w⟩ => ?_
  simp only [evS] at w
  rw [wp_bind] at w
  refine ⟨r, B, As, G, ?_⟩
  unfold tru2
  rw [wp_bind]
  refine w.imp fun x hx => ?_
  rw [wp_bind] at hx ⊢
  refine hx.imp fun z hz H1 B1 As1 G1 S1 => ?_
  have w1 : ∀ i, i ∈ wrE c → i ∈ wrS (.ifs c a b) := fun i => List.mem_append_left _
  have w2 : ∀ i, i ∈ wrSs a → i ∈ wrS (.ifs c a b) := fun i m => List.mem_append_right _ (List.mem_append_left _ m)
  have w3 : ∀ i, i ∈ wrSs b → i ∈ wrS (.ifs c a b) := fun i m => List.mem_append_right _ (List.mem_append_right _ m)
  cases z with
  | true => exact ⟨x.2, B1, As1, G1, wp.imp (x := evSs F fuel a x.2) hz fun q hq => hq.later (A1 := []) G S1 (fun _ _ => rfl) w1 w2 (fun i m => by cases m) (fun i m => List.mem_append_left _ m)⟩
  | false => exact ⟨x.2, B1, As1, G1, wp.imp (x := evSs F fuel b x.2) hz fun q hq => hq.later (A1 := []) G S1 (fun _ _ => rfl) w1 w3 (fun i m => by cases m) (fun i m => List.mem_append_right _ m)⟩
/-! ### stores -/
/-- a slot filled anew -/
theorem Good.asg {K : Fg} {σ : Sg} {H : Hp} {r : Env} {B : No} {As : AsT} {i : Nat} {d : D} {v : V} {as : List Addr} (G : Good K lv σ H r B As) (hi : i < r.length) (ow : Ow K H B (lv.getD i 0) d v as) (nd : as.Nodup) (h : ∀ z ∈ as, B z ∧ ∀ j, j ≠ i → z ∉ As j) :
    Good K lv (σ.set i (some v)) H (r.set i (some d)) B (fun j => if j = i then as else As j) where
  slot := fun j x e => by
    by_cases c : j = i
    · subst c
      rw [List.getElem?_set_self hi] at e
      cases e
      rw [if_pos rfl]
      exact ⟨v, List.getElem?_set_self (by rw [← G.len]; exact hi), ow⟩
    · rw [List.getElem?_set_ne (fun z => c z.symm)] at e
      rw [if_neg c, List.getElem?_set_ne (fun z => c z.symm)]
      exact G.slot j x e
  off := fun j q => by
    by_cases c : j = i
    · subst c
      exact absurd (List.getElem?_set_self hi) (q d)
    · rw [if_neg c]
      refine G.off j fun x z => q x ?_
      rw [List.getElem?_set_ne (fun z => c z.symm)]
      exact z
  nd := fun j => by
    by_cases c : j = i
    · rw [if_pos c]; exact nd
    · rw [if_neg c]; exact G.nd j
  dj := fun j k z n m m2 => by
    by_cases c : j = i
    · rw [if_pos c] at m
      rw [if_neg (fun e => n (c.trans e.symm))] at m2
      exact (h z m).2 k (fun e => n (c.trans e.symm)) m2
    · rw [if_neg c] at m
      by_cases c2 : k = i
      · rw [if_pos c2] at m2
        exact (h z m2).2 j c m
      · rw [if_neg c2] at m2
        exact G.dj j k z n m m2
  ban := fun j z m => by
    by_cases c : j = i
    · rw [if_pos c] at m; exact (h z m).1
    · rw [if_neg c] at m; exact G.ban j z m
  bin := G.bin
  len := by rw [List.length_set, List.length_set]; exact G.len
theorem Stp.asg {W : Nat → Prop} {H0 H : Hp} {B0 B : No} {As0 As : AsT} {i : Nat} {as : List Addr} (S : Stp W H0 B0 As0 H B As) (hi : W i) (h : ∀ z ∈ as, Src W H0 As0 z) : Stp W H0 B0 As0 H B (fun j => if j = i then as else As j) where
  keep := S.keep
  ban := S.ban
  hold := S.hold
  frm := fun j w z m => by
    by_cases c : j = i
    · rw [if_pos c] at m
      exact (h z m).elim .inr .inl
    · rw [if_neg c] at m
      exact S.frm j w z m
  same := fun j w => by
    have : j ≠ i := fun c => by
      subst c
      exact w hi
    exact (if_neg this).trans (S.same j w)
theorem set_fix {σ : Sg} {i : Nat} {v : V} : ∀ j, j ∉ [i] → (σ.set i (some v))[j]? = σ[j]? := fun j n => List.getElem?_set_ne (fun e => n (by rw [e]; exact List.mem_cons_self))
/-- x = e -/
theorem ss_set {i : Nat} {x : Str} {p1 : Pos} (hN : X.N.Nodup) (hi : X.N[i]? = some x) (hx : Loc X.env.scope x) (hf : X.fn x = true) (he : SE X F lv Z e ee) (hs : swapsWith ee (some (.Name x p1)) pos.line X.env = pure false) (hl : lvE lv e = lv.getD i 0) (ha : alE lv e = []) :
    SS X F lv Z rl fuel (.asg (.n i) e) (.Assign [.Name x p1] ee pos) := by
  refine ps_of (ps_set hN hi hx he hs (.inl hf)) fun D σ H ⟨r, B, As, G, w⟩ => ?_
  simp only [evS] at w
  rw [wp_bind] at w
  refine tEv.mk G w fun d r' H' B' As' v as hw G' S' X' => ?_
  simp only [asgT] at hw
  rw [wp_bind] at hw
  obtain ⟨g, q⟩ := wp_when.mp hw
  have g := of_decide_eq_true g
  have ow := X'.ow
  rw [hl] at ow
  have S2 : Stp (ofL (wrS (.asg (.n i) e))) H B As H' B' As' := S'.wide fun i w => List.mem_append_left _ w
  refine q _ H' B' _ (G'.asg g ow X'.nd fun z m => ⟨X'.ban z m, fun j _ => (X'.own ha z m).2 j⟩) (S2.asg (List.mem_append_right _ List.mem_cons_self) fun z m => ((X'.own ha z m).1).wide fun i w => List.mem_append_left _ w) set_fix
/-- x = e, from the state in which e has been read: for the comprehensions -/
theorem asg_fin {i : Nat} {σ : Sg} {H : Hp} {D : Ends} (hl : lvE lv e = lv.getD i 0) (ha : alE lv e = []) (h : tSt X.K lv Z rl (evS F fuel (.asg (.n i) e)) (wrS (.asg (.n i) e)) (asS (.asg (.n i) e)) D σ H) : tAsg (tEv X.K F lv Z e) (gName i) D σ H := by
  obtain ⟨r, B, As, G, w⟩ := h
  simp only [evS] at w
  rw [wp_bind] at w
  refine tEv.mk G w fun d r' H' B' As' v as hw G' S' X' => ?_
  simp only [asgT] at hw
  rw [wp_bind] at hw
  obtain ⟨g, q⟩ := wp_when.mp hw
  have g := of_decide_eq_true g
  have ow := X'.ow
  rw [hl] at ow
  have S2 : Stp (ofL (wrS (.asg (.n i) e))) H B As H' B' As' := S'.wide fun i w => List.mem_append_left _ w
  exact q _ H' B' _ (G'.asg g ow X'.nd fun z m => ⟨X'.ban z m, fun j _ => (X'.own ha z m).2 j⟩) (S2.asg (List.mem_append_right _ List.mem_cons_self) fun z m => ((X'.own ha z m).1).wide fun i w => List.mem_append_left _ w) set_fix
end
end Pv
end
section
/-! P18: what is walked; targets; for, while. -/
namespace Pv
open PySem PySem.Spec PyProof.Rows L2
/-! ### what is walked -/
inductive ItOk (K : Fg) (H0 : Hp) (B0 : No) : IK → List D → List V → List D → It → Prop
  | list (ds : List D) (a : Addr) : ItOk K H0 B0 .seq [.list ds] [.ref a] ds (Itl K a)
  | tup (ds : List D) (a : Addr) : ItOk K H0 B0 .seq [.tuple ds] [.ref a] ds (Itt K a)
  | str (x : Str) : ItOk K H0 B0 .seq [.str x] [.str x] (x.cps.toList.map fun c => .str ⟨#[c]⟩) (Its x)
  | rng (vs : List V) (ds : List D) (a c : Int) (n : Nat) : ItOk K H0 B0 .rng ds vs ((List.range n).map fun (k : Nat) => .int (a + (k : Int) * c)) (Itc a c n)
  | rng1 (vs : List V) (ds : List D) (a : Int) (n : Nat) : ItOk K H0 B0 .rng ds vs ((List.range n).map fun (k : Nat) => .int (a + (k : Int))) (Itr a n)
  | enum (ds : List D) (a : Addr) : ItOk K H0 B0 .enum [.list ds] [.ref a] (ds.zipIdx.map fun p => .tuple [.int (p.2 : Nat), p.1]) (Ite K a)
  | zipL (xs ys : List D) (a b : Addr) : ItOk K H0 B0 .zip [.list xs, .list ys] [.ref a, .ref b] (zipL xs ys) (Itz K a b)
  | zipT (xs ys : List D) (a b : Addr) : ItOk K H0 B0 .zip [.tuple xs, .tuple ys] [.ref a, .ref b] (zipL xs ys) (RZ.ItzT K a b)
  | dict (d : Addr) (o : Obj) (es : List (Key × V)) (items : List D) : H0 d = some (.frz o (.dK es)) → ¬ B0 d → items = es.map (fun p => kD p.1) → ItOk K H0 B0 .dk [.none] [.non] items (Itk d o es)
  | dictT (d : Addr) (o : Obj) : H0 d = some (.frz o (.dT [])) → ¬ B0 d → ItOk K H0 B0 .dk [.none] [.non] [] (Itkt d o [])
theorem Kp.trans {H H' H'' : Hp} {B B' B'' : No} (k1 : Kp H H' B B') (k2 : Kp H' H'' B' B'') : Kp H H'' B B'' where
  keep := fun a o e n => k2.keep a o (k1.keep a o e n) fun z => (k1.ban a z).elim n fun q => by rw [e] at q; cases q
  ban := fun a z => (k2.ban a z).elim (k1.ban a) fun e2 => by
    cases e : H a with
    | none => exact .inr rfl
    | some o =>
      by_cases c : B a
      · exact .inl c
      · have := k1.keep a o e c
        rw [e2] at this
        cases this
theorem zipL_len : ∀ (xs ys : List D), (zipL xs ys).length = min xs.length ys.length
  | [], ys => by simp [zipL]
  | x :: xs, [] => by simp [zipL]
  | x :: xs, y :: ys => by simp [zipL, zipL_len xs ys]
theorem zipL_get : ∀ {xs ys : List D} {i : Nat} {d : D}, (zipL xs ys)[i]? = some d → ∃ x y, xs[i]? = some x ∧ ys[i]? = some y ∧ d = .tuple [x, y]
  | [], ys, i, d, h => by simp [zipL] at h
  | x :: xs, [], i, d, h => by simp [zipL] at h
  | x :: xs, y :: ys, 0, d, h => by
    simp [zipL] at h
    exact ⟨x, y, rfl, rfl, h.symm⟩
  | x :: xs, y :: ys, i + 1, d, h => by
    simp only [zipL, List.getElem?_cons_succ] at h
    obtain ⟨u, w, h1, h2, h3⟩ := zipL_get h
    exact ⟨u, w, by simpa using h1, by simpa using h2, h3⟩
section
variable {K : Fg} {H H0 : Hp} {B B0 : No} {ik : IK} {ds : List D} {vs : List V} {items : List D} {J : It}
theorem rt1_list {d : List D} {a : Addr} (h : Rt K H B (.list d) (.ref a)) : ∃ xs, SqL K H a xs ∧ RpL K H B d xs := by
  obtain ⟨b, xs, e, h1, h2⟩ := rt_list h
  cases e
  exact ⟨xs, h1, h2⟩
theorem rt1_tup {d : List D} {a : Addr} (h : Rt K H B (.tuple d) (.ref a)) : ∃ xs, SqT K H a xs ∧ RpL K H B d xs := by
  obtain ⟨b, xs, e, h1, h2⟩ := rp_tup (show Rp K H B (.tuple d) (.ref a) from h)
  cases e
  exact ⟨xs, h1.sq, h2⟩
theorem pair_rp {H' : Hp} {B : No} {p : Addr} {x y : V} {d e : D} (hp : H p = none) (nb : NoIn H B) (h1 : Rp K H B d x) (h2 : Rp K H B e y) : Rp K (upd H p (.tup [x, y])) B (.tuple [d, e]) (.ref p) := by
  simp only [Rp, RpL]
  have k : Kp H (upd H p (.tup [x, y])) B B := kp_same (Same.upd hp)
  exact ⟨p, [x, y], rfl, ⟨upd_same, nb.new hp⟩, x, [y], rfl, Rp.kp k _ _ h1, y, [], rfl, Rp.kp k _ _ h2, rfl⟩
/-- its turns -/
theorem it_turn (o : ItOk K H0 B0 ik ds vs items J) (r : RtL K H B ds vs) (nb : NoIn H B) (z : ik = .seq → ∀ x, ds = [.str x] → x.length = x.cps.size) (kc : Kp H0 H B0 B) :
    (∀ i, i < items.length → J.go i H) ∧ (∀ i, items.length ≤ i → J.stop i H) ∧ ∀ i d x H', items[i]? = some d → J.yld i H x H' → Same H H' ∧ Rp K H' B d x := by
  cases o with
  | list ds a =>
    obtain ⟨v, e, h⟩ := r.one'
    cases e
    obtain ⟨xs, h1, h2⟩ := rt1_list h
    refine ⟨fun i hi => ?_, fun i hi => ⟨xs, h1, by rw [← h2.len]; exact hi⟩, fun i d x H' ed ⟨e, y⟩ => ?_⟩
    · have hi' : i < xs.length := by rw [← h2.len]; exact hi
      exact ⟨xs, xs[i], h1, List.getElem?_eq_getElem hi'⟩
    · subst e
      obtain ⟨w, ew, hw⟩ := h2.get ed
      have := y xs h1
      rw [ew] at this
      cases this
      exact ⟨Same.refl _, hw⟩
  | tup ds a =>
    obtain ⟨v, e, h⟩ := r.one'
    cases e
    obtain ⟨xs, h1, h2⟩ := rt1_tup h
    refine ⟨fun i hi => ?_, fun i hi => ⟨xs, h1, by rw [← h2.len]; exact hi⟩, fun i d x H' ed ⟨e, y⟩ => ?_⟩
    · have hi' : i < xs.length := by rw [← h2.len]; exact hi
      exact ⟨xs, xs[i], h1, List.getElem?_eq_getElem hi'⟩
    · subst e
      obtain ⟨w, ew, hw⟩ := h2.get ed
      have := y xs h1
      rw [ew] at this
      cases this
      exact ⟨Same.refl _, hw⟩
  | str x =>
    refine ⟨fun i hi => ?_, fun i hi => ?_, fun i d y H' ed ⟨e, c, ec, ey⟩ => ?_⟩
    · have h := hi
      simp at h
      exact h
    · have h := hi
      simp at h
      exact h
    · subst e ey
      have ec' : x.cps.toList[i]? = some c := by simpa using ec
      rw [List.getElem?_map, ec'] at ed
      simp at ed
      subst ed
      exact ⟨Same.refl _, by simp only [Rp]⟩
  | rng vs ds a c n =>
    refine ⟨fun i hi => ?_, fun i hi => ?_, fun i d y H' ed ⟨e, ey⟩ => ?_⟩
    · have h := hi
      simp at h
      exact h
    · have h := hi
      simp at h
      exact h
    · subst e ey
      have hi : i < n := by
        have := rest_len ed
        simpa using this
      rw [List.getElem?_map, List.getElem?_range hi] at ed
      simp at ed
      subst ed
      exact ⟨Same.refl _, by simp only [Rp]⟩
  | rng1 vs ds a n =>
    refine ⟨fun i hi => ?_, fun i hi => ?_, fun i d y H' ed ⟨e, ey⟩ => ?_⟩
    · have h := hi
      simp at h
      exact h
    · have h := hi
      simp at h
      exact h
    · subst e ey
      have hi : i < n := by
        have := rest_len ed
        simpa using this
      rw [List.getElem?_map, List.getElem?_range hi] at ed
      simp at ed
      subst ed
      exact ⟨Same.refl _, by simp only [Rp]⟩
  | enum ds a =>
    obtain ⟨v, e, h⟩ := r.one'
    cases e
    obtain ⟨xs, h1, h2⟩ := rt1_list h
    refine ⟨fun i hi => ?_, fun i hi => ⟨xs, h1, by rw [← h2.len]; simpa using hi⟩, fun i d x H' ed ⟨T, w, e1, e2, e3, y⟩ => ?_⟩
    · have hi' : i < xs.length := by rw [← h2.len]; simpa using hi
      exact ⟨xs, xs[i], h1, List.getElem?_eq_getElem hi'⟩
    · subst e1 e3
      rw [List.getElem?_map, List.getElem?_zipIdx] at ed
      cases eq : ds[i]? with
      | none => rw [eq] at ed; simp at ed
      | some q =>
        rw [eq] at ed
        simp at ed
        subst ed
        obtain ⟨w', ew, hw⟩ := h2.get eq
        have := y xs h1
        rw [ew] at this
        cases this
        exact ⟨Same.upd e2, pair_rp (H' := H) e2 nb (by simp only [Rp]) hw⟩
  | zipL xs ys a b =>
    obtain ⟨v, u, e, g1, g2⟩ := r.two'
    cases e
    obtain ⟨ws, h1, h2⟩ := rt1_list g1
    obtain ⟨us, h3, h4⟩ := rt1_list g2
    refine ⟨fun i hi => ?_, fun i hi => ⟨ws, us, h1, h3, ?_⟩, fun i d x H' ed ⟨T, w, u, e1, e2, e3, y1, y2⟩ => ?_⟩
    · rw [zipL_len] at hi
      have i1 : i < ws.length := by rw [← h2.len]; omega
      have i2 : i < us.length := by rw [← h4.len]; omega
      exact ⟨ws, us, ws[i], us[i], h1, h3, List.getElem?_eq_getElem i1, List.getElem?_eq_getElem i2⟩
    · rw [zipL_len] at hi
      rw [← h2.len, ← h4.len]
      omega
    · subst e1 e3
      obtain ⟨p, q, f1, f2, rfl⟩ := zipL_get ed
      obtain ⟨w', ew, hw⟩ := h2.get f1
      obtain ⟨u', eu, hu⟩ := h4.get f2
      have := y1 ws h1
      rw [ew] at this
      cases this
      have := y2 us h3
      rw [eu] at this
      cases this
      exact ⟨Same.upd e2, pair_rp (H' := H) e2 nb hw hu⟩
  | zipT xs ys a b =>
    obtain ⟨v, u, e, g1, g2⟩ := r.two'
    cases e
    obtain ⟨ws, h1, h2⟩ := rt1_tup g1
    obtain ⟨us, h3, h4⟩ := rt1_tup g2
    refine ⟨fun i hi => ?_, fun i hi => ⟨ws, us, h1, h3, ?_⟩, fun i d x H' ed ⟨T, w, u, e1, e2, e3, y1, y2⟩ => ?_⟩
    · rw [zipL_len] at hi
      have i1 : i < ws.length := by rw [← h2.len]; omega
      have i2 : i < us.length := by rw [← h4.len]; omega
      exact ⟨ws, us, ws[i], us[i], h1, h3, List.getElem?_eq_getElem i1, List.getElem?_eq_getElem i2⟩
    · rw [zipL_len] at hi
      rw [← h2.len, ← h4.len]
      omega
    · subst e1 e3
      obtain ⟨p, q, f1, f2, rfl⟩ := zipL_get ed
      obtain ⟨w', ew, hw⟩ := h2.get f1
      obtain ⟨u', eu, hu⟩ := h4.get f2
      have := y1 ws h1
      rw [ew] at this
      cases this
      have := y2 us h3
      rw [eu] at this
      cases this
      exact ⟨Same.upd e2, pair_rp (H' := H) e2 nb hw hu⟩
  | dict d o es items h0 nb0 eit =>
    have hd := kc.keep d _ h0 nb0
    subst eit
    refine ⟨fun i hi => ⟨hd, by simpa using hi⟩, fun i hi => ⟨hd, by simpa using hi⟩, fun i dd x H' ed ⟨e, k, v, e2, e3⟩ => ?_⟩
    subst e e3
    rw [List.getElem?_map, e2] at ed
    simp at ed
    subst ed
    exact ⟨Same.refl _, by cases k <;> simp [kD, kV, Rp]⟩
  | dictT d o h0 nb0 =>
    have hd := kc.keep d _ h0 nb0
    exact ⟨fun i hi => by simp at hi, fun i hi => ⟨hd, Nat.zero_le _⟩, fun i dd x H' ed => by simp at ed⟩
end
def evI (F : Fns) (ik : IK) (il : List E) (r : Env) : Out (List D × Env) := (evL F il r).bind fun x => (itD ik x.1).bind fun items => .ok (items, x.2)
def tEvI (K : Fg) (F : Fns) (lv : List Nat) (Z : Str → D → Prop) (ik : IK) (il : List E) : TI := fun σ H R =>
  ∃ r B As, Good K lv σ H r B As ∧ wp (evI F ik il r) (fun p => ∀ H' B' As' J ds vs ass, Good K lv σ H' p.2 B' As' → Stp (ofL (wrL il)) H B As H' B' As' → PdL K σ H' B' As' (Src (ofL (wrL il)) H As) (il.map (wyE lv)) ds vs ass → ItOk K H' B' ik ds vs p.1 J → R J H') Z
abbrev SI (X : Cx) (F : Fns) (lv : List Nat) (Z : Str → D → Prop) (tg : Expr) (ik : IK) (il : List E) (iter : Expr) : Prop := PI X tg iter (tEvI X.K F lv Z ik il)
/-! ### targets -/
def gN : List Nat → TGs
  | [] => gNil
  | i :: l => gCons (gName i) (gN l)
def gT (K : Fg) : Tg → TG
  | .n i => gName i
  | .t l => gTup K l.length (gN l)
section
variable {X : Cx} {F : Fns} {lv : List Nat} {Z : Str → D → Prop}
theorem gN_ok {K : Fg} {σ0 : Sg} {H : Hp} {B : No} {As0 : AsT} {Q : Sg → Hp → Prop} (L : List Nat) : ∀ (l : List Nat) {σ : Sg} {r : Env} {As : AsT} {ds : List D} {vs : List V}, (∀ i ∈ l, lv.getD i 0 = 0) → (∀ i ∈ l, i ∈ L) → l.length = ds.length → (∀ i ∈ l, i < r.length) → RpL K H B ds vs →
    Good K lv σ H r B As → Stp (ofL L) H B As0 H B As → (∀ j, j ∉ L → σ[j]? = σ0[j]?) →
    (∀ σ' As', Good K lv σ' H (setAll l ds r) B As' → Stp (ofL L) H B As0 H B As' → (∀ j, j ∉ L → σ'[j]? = σ0[j]?) → Q σ' H) → gN l vs σ H Q
  | [], σ, r, As, ds, vs, h0, hL, hl, hr, rp, G, S, fx, q => by
    have : ds = [] := (List.eq_nil_of_length_eq_zero hl.symm)
    subst this
    simp only [RpL] at rp
    subst rp
    exact ⟨rfl, q σ As (by simpa [setAll] using G) S fx⟩
  | i :: l, σ, r, As, [], vs, h0, hL, hl, hr, rp, G, S, fx, q => by cases hl
  | i :: l, σ, r, As, d :: ds, vs, h0, hL, hl, hr, rp, G, S, fx, q => by
    simp only [RpL] at rp
    obtain ⟨v, vs', rfl, h1, h2⟩ := rp
    refine ⟨v, vs', rfl, ?_⟩
    have z := h0 i List.mem_cons_self
    have mi := hL i List.mem_cons_self
    have G' := G.asg (i := i) (d := d) (v := v) (as := []) (hr i List.mem_cons_self) (by rw [z]; exact Ow.zero.mpr ⟨rfl, h1⟩) List.nodup_nil (by simp)
    show gN l vs' (σ.set i (some v)) H Q
    refine gN_ok L l (fun j hj => h0 j (List.mem_cons_of_mem _ hj)) (fun j hj => hL j (List.mem_cons_of_mem _ hj)) (by simpa using hl) (fun j hj => by rw [List.length_set]; exact hr j (List.mem_cons_of_mem _ hj)) h2 G' (S.asg mi (by simp)) (fun j hj => ?_) (by simpa only [setAll] using q)
    exact (List.getElem?_set_ne (fun e => by subst e; exact hj mi)).trans (fx j hj)
theorem gT_ok {K : Fg} {σ : Sg} {H : Hp} {r : Env} {B : No} {As : AsT} {tg : Tg} {d : D} {x : V} {r1 : Env} {Q : Sg → Hp → Prop} (h0 : ∀ i ∈ tgL tg, lv.getD i 0 = 0) (G : Good K lv σ H r B As) (rp : Rp K H B d x) (e : asgT tg d r = .ok r1)
    (q : ∀ σ' As', Good K lv σ' H r1 B As' → Stp (ofL (tgL tg)) H B As H B As' → (∀ j, j ∉ tgL tg → σ'[j]? = σ[j]?) → Q σ' H) : gT K tg x σ H Q := by
  cases tg with
  | n i =>
    simp only [asgT] at e
    obtain ⟨g, e⟩ := when_ok e
    subst e
    have z := h0 i List.mem_cons_self
    exact q _ _ (G.asg (as := []) (of_decide_eq_true g) (by rw [z]; exact Ow.zero.mpr ⟨rfl, rp⟩) List.nodup_nil (by simp)) (Stp.refl.asg (List.mem_cons_self) (by simp)) set_fix
  | t l =>
    cases d <;> simp only [asgT] at e <;> first | (cases e; done) | skip
    rename_i ds
    obtain ⟨g, e⟩ := when_ok e
    subst e
    simp only [Bool.and_eq_true, decide_eq_true_eq, List.all_eq_true] at g
    obtain ⟨a, xs, rfl, h1, h2⟩ := rp_tup rp
    refine ⟨a, xs, rfl, h1.sq, by rw [← h2.len, g.1], ?_⟩
    exact gN_ok l l h0 (fun i hi => hi) g.1 g.2 h2 G Stp.refl (fun _ _ => rfl) q
theorem PdL.step {K : Fg} {σ σ' : Sg} {H H' : Hp} {r : Env} {B B' src : No} {As As' : AsT} {W : Nat → Prop} (G : Good K lv σ H r B As) (S : Stp W H B As H' B' As') : ∀ {ws : List Wy} {ds : List D} {vs : List V} {ass : List (List Addr)}, PdL K σ H B As src ws ds vs ass → ws.all valWy = true → (∀ i ∈ alsW ws, ¬ W i) → PdL K σ' H' B' As' src ws ds vs ass
  | [], ds, vs, ass, h, _, _ => h
  | .io i :: ws, ds, vs, ass, h, g, _ => by simp [valWy] at g
  | .lo al :: ws, ds, vs, ass, h, g, _ => by simp [valWy] at g
  | .val al n :: ws, ds, vs, ass, h, g, k => by
    obtain ⟨d, ds', v, vs', as, ass', e1, e2, e3, x, dj, t⟩ := h
    simp only [List.all_cons, Bool.and_eq_true] at g
    exact ⟨d, ds', v, vs', as, ass', e1, e2, e3, x.step G S fun i m => k i (List.mem_append_left _ m), dj, t.step G S g.2 fun i m => k i (List.mem_append_right _ m)⟩
end
end Pv
end
section
/-! P19: iterables; for, while. -/
namespace Pv
open PySem PySem.Spec PyProof.Rows L2
section
variable {X : Cx} {F : Fns} {lv : List Nat} {Z : Str → D → Prop} {rl fuel : Nat} {pos nm tpos : Pos} {a b c : E} {ea eb ec tg : Expr} {il : List E} {es : List Expr}
theorem itD_nx (ik : IK) (ds : List D) : NoX (itD ik ds) := by
  intro c d
  unfold itD
  split <;> first | exact NoX.ok c d | exact NoX.bad c d | exact NoX.when c d
theorem iter_mk {ik : IK} {σ : Sg} {H : Hp} {T : List V → Hp → Prop} {r : Env} {B : No} {As : AsT} {Q : List D × Env → Prop} (G : Good X.K lv σ H r B As) (w : wp (evI F ik il r) Q Z)
    (k : ∀ items ds r' H' B' As' vs ass, Q (items, r') → itD ik ds = .ok items → Good X.K lv σ H' r' B' As' → Stp (ofL (wrL il)) H B As H' B' As' → PdL X.K σ H' B' As' (Src (ofL (wrL il)) H As) (il.map (wyE lv)) ds vs ass → T vs H') : tEvL X.K F lv Z il σ H T := by
  unfold evI at w
  rw [wp_bind] at w
  refine tEvL.mk G w fun ds r' H' B' As' vs ass hw G' S P => ?_
  rw [wp_bind] at hw
  obtain ⟨items, e, q⟩ := hw.get (itD_nx ik ds)
  exact k items ds r' H' B' As' vs ass q e G' S P
/-- a list, a tuple, a text -/
theorem i_seq (ha : SE X F lv Z a ea) (hio : isIo a = false) (la : lvE lv a ≤ 1) : SI X F lv Z tg .seq [a] ea := by
  refine ⟨fun pins s σ H R I ⟨r, B, As, G, w⟩ => ?_⟩
  have one : ∀ {T : V → Hp → Prop}, (∀ items d r' H' B' As' v as, (∀ H' B' As' J ds vs ass, Good X.K lv σ H' r' B' As' → Stp (ofL (wrL [a])) H B As H' B' As' → PdL X.K σ H' B' As' (Src (ofL (wrL [a])) H As) ([a].map (wyE lv)) ds vs ass → ItOk X.K H' B' .seq ds vs items J → R J H') →
      itD .seq [d] = .ok items → evE F a r = .ok (d, r') → Good X.K lv σ H' r' B' As' → Stp (ofL (wrL [a])) H B As H' B' As' → Rt X.K H' B' d v → (PdL X.K σ H' B' As' (Src (ofL (wrL [a])) H As) ([a].map (wyE lv)) [d] [v] [as]) → T v H') → tEv X.K F lv Z a σ H T := by
    intro T k
    unfold evI at w
    simp only [evL] at w
    rw [wp_bind, wp_bind] at w
    cases e : evE F a r with
    | bad => rw [e] at w; exact w.elim
    | exc c d => rw [e] at w; exact ⟨r, B, As, G, by rw [e]; exact w⟩
    | ok p =>
      rw [e] at w
      obtain ⟨d0, r0⟩ := p
      have w' : wp ((itD .seq [d0]).bind fun items => .ok (items, r0)) _ Z := w
      rw [wp_bind] at w'
      obtain ⟨items, ei, q⟩ := w'.get (itD_nx _ _)
      refine tEv.mk (R := fun x => x = (d0, r0)) G (by rw [e]; rfl) fun d r' H' B' As' v as h1 G' S X' => ?_
      cases h1
      have ww : ∀ i, ofL (wrE a) i → ofL (wrL [a]) i := fun i w => List.mem_append_left _ w
      refine k items d0 r0 H' B' As' v as q ei e G' (S.wide ww) (X'.rt la) ?_
      rw [List.map_cons, wy_val hio]
      exact ⟨d0, [], v, [], as, [], rfl, rfl, rfl, X'.src fun u z => z.wide ww, by simp, rfl, rfl, rfl⟩
  cases e : evE F a r with
  | bad =>
    unfold evI at w
    simp only [evL] at w
    rw [wp_bind, wp_bind, e] at w
    exact w.elim
  | exc c d => exact (pi_list ha).run pins s σ H R I (one fun items d' r' H' B' As' v as q ei e' => by rw [e] at e'; cases e')
  | ok p =>
    obtain ⟨d0, r0⟩ := p
    cases d0 with
    | list ds =>
      refine (pi_list ha).run pins s σ H R I (one fun items d' r' H' B' As' v as q ei e' G' S rt P => ?_)
      rw [e] at e'
      cases e'
      obtain ⟨b, xs, e2, h1, h2⟩ := rt_list rt
      subst e2
      cases ei
      exact ⟨b, rfl, ⟨xs, h1⟩, q H' B' As' _ _ _ _ G' S P (.list ds b)⟩
    | tuple ds =>
      refine (pi_tup ha).run pins s σ H R I (one fun items d' r' H' B' As' v as q ei e' G' S rt P => ?_)
      rw [e] at e'
      cases e'
      obtain ⟨b, xs, e2, h1, h2⟩ := rp_tup rt
      subst e2
      cases ei
      exact ⟨b, rfl, ⟨xs, h1.sq⟩, q H' B' As' _ _ _ _ G' S P (.tup ds b)⟩
    | str x =>
      refine (pi_str ha).run pins s σ H R I (one fun items d' r' H' B' As' v as q ei e' G' S rt P => ?_)
      rw [e] at e'
      cases e'
      have rt : v = .str x := rt
      subst rt
      cases ei
      exact ⟨x, rfl, q H' B' As' _ _ _ _ G' S P (.str x)⟩
    | _ => exact (pi_list ha).run pins s σ H R I (one fun items d' r' H' B' As' v as q ei e' => by rw [e] at e'; cases e'; cases ei)
theorem small_62 {k : Int} (h : small k = true) : -(2 ^ 62) ≤ k ∧ k < 2 ^ 62 := by
  have := small_lt h
  omega
theorem i_rng1 (hg : Gl X "range") (hm : X.mg "range" = none) (hl : SA X F lv Z [a] [ea]) (hs : notStar ea = true) (hw : ([a].map (wyE lv)).all valWy = true) : SI X F lv Z tg .rng [a] (.Call (.Name "range" nm) [ea] [] pos) := by
  refine ⟨fun pins s σ H R I ⟨r, B, As, G, w⟩ => ?_⟩
  refine (pi_range1 hg hm hl (by rw [star_ok hs]; rfl)).run pins s σ H R I (iter_mk G w fun items ds r' H' B' As' vs ass q ei G' S P => ?_)
  have rp := P.rp0 hw
  match ds, ei with
  | [], ei => cases ei
  | [d], ei =>
    cases d <;> simp only [itD] at ei <;> first | (cases ei; done) | skip
    rename_i j
    obtain ⟨g, ei⟩ := when_ok ei
    rw [Bool.and_eq_true] at g
    obtain ⟨v, rfl, hv⟩ := rp.one'
    simp only [Rp] at hv
    subst hv
    refine ⟨j, rfl, (small_62 g.2).1, (small_62 g.2).2, q H' B' As' _ _ _ _ G' S P ?_⟩
    rw [← ei, Int.sub_zero]
    exact .rng1 _ _ 0 j.toNat
  | x :: y :: z, ei =>
    have hl := P.len.1
    simp at hl
theorem i_rng2 (hg : Gl X "range") (hm : X.mg "range" = none) (hl : SA X F lv Z [a, b] [ea, eb]) (hs : notStar ea = true) (hs2 : notStar eb = true) (hw : ([a, b].map (wyE lv)).all valWy = true) : SI X F lv Z tg .rng [a, b] (.Call (.Name "range" nm) [ea, eb] [] pos) := by
  refine ⟨fun pins s σ H R I ⟨r, B, As, G, w⟩ => ?_⟩
  refine (pi_range2 hg hm hl (by rw [star_ok hs, star_ok hs2]; rfl) (by rw [star_ok hs2]; rfl)).run pins s σ H R I (iter_mk G w fun items ds r' H' B' As' vs ass q ei G' S P => ?_)
  have rp := P.rp0 hw
  have hl := P.len.1
  match ds, ei, hl with
  | [d, d2], ei, _ =>
    cases d <;> cases d2 <;> simp only [itD] at ei <;> first | (cases ei; done) | skip
    rename_i i j hz
    obtain ⟨g, ei⟩ := when_ok ei
    rw [Bool.and_eq_true] at g
    obtain ⟨v, u, rfl, hv, hu⟩ := rp.two'
    simp only [Rp] at hv hu
    subst hv hu
    refine ⟨i, j, rfl, ⟨(small_62 g.1).1, (small_62 g.1).2, (small_62 g.2).1, (small_62 g.2).2⟩, q H' B' As' _ _ _ _ G' S P ?_⟩
    rw [← ei]
    exact .rng1 _ _ i (j - i).toNat
theorem i_rng3 (hg : Gl X "range") (hm : X.mg "range" = none) (hl : SA X F lv Z [a, b, c] [ea, eb, ec]) (hs : notStar ea = true) (hs2 : notStar eb = true) (hs3 : notStar ec = true) (hw : ([a, b, c].map (wyE lv)).all valWy = true) : SI X F lv Z tg .rng [a, b, c] (.Call (.Name "range" nm) [ea, eb, ec] [] pos) := by
  refine ⟨fun pins s σ H R I ⟨r, B, As, G, w⟩ => ?_⟩
  refine (pi_range3 hg hm hl (star_ok hs _ _) (star_any (by simp [hs2, hs3]))).run pins s σ H R I (iter_mk G w fun items ds r' H' B' As' vs ass q ei G' S P => ?_)
  have rp := P.rp0 hw
  have hl := P.len.1
  match ds, ei, hl with
  | [d, d2, d3], ei, _ =>
    cases d <;> cases d2 <;> cases d3 <;> simp only [itD] at ei <;> first | (cases ei; done) | skip
    rename_i i j k hz
    obtain ⟨g, ei⟩ := when_ok ei
    simp only [Bool.and_eq_true, decide_eq_true_eq] at g
    obtain ⟨v, t, rfl, hv, ht⟩ := rp.cons_iff
    obtain ⟨u, x, rfl, hu, hx⟩ := ht.two'
    simp only [Rp] at hv hu hx
    subst hv hu hx
    refine ⟨i, j, k, (Builtin.Range.rangeSize i j k).toNat, rfl, ⟨g.1.1.1, g.1.1.2, g.1.2, by rw [Int.toNat_of_nonneg g.2]⟩, q H' B' As' _ _ _ _ G' S P ?_⟩
    rw [← ei]
    exact .rng _ _ i k _
theorem i_enum {elts : List Expr} {kk : Nat} (hg : Gl X "enumerate") (hm : X.mg "enumerate" = none) (hl : SA X F lv Z [a] [ea]) (hs : notStar ea = true) (hw : ([a].map (wyE lv)).all rdWy = true) : SI X F lv Z (.Tuple elts kk tpos) .enum [a] (.Call (.Name "enumerate" nm) [ea] [] pos) := by
  refine ⟨fun pins s σ H R I ⟨r, B, As, G, w⟩ => ?_⟩
  refine (pi_enum hg hm hl (by rw [star_ok hs]; rfl)).run pins s σ H R I (iter_mk G w fun items ds r' H' B' As' vs ass q ei G' S P => ?_)
  have rt := P.rt hw
  have hl := P.len.1
  match ds, ei, hl with
  | [d], ei, _ =>
    cases d <;> simp only [itD] at ei <;> first | (cases ei; done) | skip
    rename_i xs hz
    cases ei
    obtain ⟨v, rfl, hv⟩ := rt.one'
    obtain ⟨p, ws, rfl, h1, h2⟩ := rt_list hv
    exact ⟨p, ws, rfl, h1, q H' B' As' _ _ _ _ G' S P (.enum xs p)⟩
theorem i_zip {elts : List Expr} {kk : Nat} (hg : Gl X "zip") (hm : X.mg "zip" = none) (hl : SA X F lv Z [a, b] [ea, eb]) (hs : notStar ea = true) (hs2 : notStar eb = true) (hw : ([a, b].map (wyE lv)).all rdWy = true) : SI X F lv Z (.Tuple elts kk tpos) .zip [a, b] (.Call (.Name "zip" nm) [ea, eb] [] pos) := by
  refine ⟨fun pins s σ H R I ⟨r, B, As, G, w⟩ => ?_⟩
  refine (RZ.pi_zipA hg hm hl (star_ok hs _ _) (star_any (by simp [hs2]))).run pins s σ H R I (iter_mk G w fun items ds r' H' B' As' vs ass q ei G' S P => ?_)
  have rt := P.rt hw
  have hl := P.len.1
  match ds, ei, hl with
  | [d, d2], ei, _ =>
    obtain ⟨v, u, rfl, hv, hu⟩ := rt.two'
    cases d <;> cases d2 <;> simp only [itD] at ei <;> first | (cases ei; done) | skip
    · rename_i xs ys hz
      cases ei
      obtain ⟨p, ws, rfl, h1, h2⟩ := rt_list hv
      obtain ⟨p2, ws2, rfl, h3, h4⟩ := rt_list hu
      exact ⟨p, p2, ws, ws2, rfl, .inl ⟨h1, h3, q H' B' As' _ _ _ _ G' S P (.zipL xs ys p p2)⟩⟩
    · rename_i xs ys hz
      cases ei
      obtain ⟨p, ws, rfl, h1, h2⟩ := rp_tup hv
      obtain ⟨p2, ws2, rfl, h3, h4⟩ := rp_tup hu
      exact ⟨p, p2, ws, ws2, rfl, .inr ⟨h1.sq, h3.sq, q H' B' As' _ _ _ _ G' S P (.zipT xs ys p p2)⟩⟩
end
end Pv
end
section
/-! P20: for, while, stores. -/
namespace Pv
open PySem PySem.Spec PyProof.Rows L2
section
variable {X : Cx} {F : Fns} {lv : List Nat} {Z : Str → D → Prop} {rl fuel : Nat} {pos : Pos} {e c : E} {ee ec : Expr} {body : List S} {sb : List Stmt} {il : List E} {ik : IK} {tg : Tg} {tge iter : Expr}
theorem ss_for (hp : PassesOwn (model X.prog X.w) X.A X.env X.xe) (hc : X.calm = true) (hi : SI X F lv Z tge ik il iter) (hg : PG X tge (gT X.K tg)) (hb : SSs X F lv Z rl fuel body sb) (hs : ∀ x, foldedSetIterable iter X.env x = pure x)
    (hr : (il.map (wyE lv)).all rdWy = true) (hv : (il.map (wyE lv)).all valWy = true) (h0 : ∀ i ∈ tgL tg, lv.getD i 0 = 0) (hd : ∀ i ∈ alsW (il.map (wyE lv)), i ∉ tgL tg ++ wrSs body) : SS X F lv Z rl fuel (.for tg ik il body) (.For tge iter sb [] pos) := by
  refine ps_of (ps_for hp hc hi hg hb hs) fun D σ H ⟨r, B, As, G, w⟩ => ?_
  simp only [evS] at w
  have w' : wp (evI F ik il r) (fun p => wp (forO tg (evSs F fuel body) p.1 p.2) (PC X.K lv rl (wrS (.for tg ik il body)) (asS (.for tg ik il body)) D σ H B As) Z) Z := by
    unfold evI
    rw [wp_bind] at w ⊢
    refine w.imp fun x hx => ?_
    rw [wp_bind] at hx ⊢
    exact hx.imp fun z hz => hz
  refine ⟨r, B, As, G, w'.imp fun p hw H1 B1 As1 J ds vs ass G1 S1 P1 IO => ?_⟩
  obtain ⟨items, r1⟩ := p
  have w1 : ∀ i, ofL (wrL il) i → i ∈ wrS (.for tg ik il body) := fun i w => List.mem_append_left _ w
  have w2 : ∀ i, i ∈ tgL tg → i ∈ wrS (.for tg ik il body) := fun i w => List.mem_append_right _ (List.mem_append_left _ w)
  have w3 : ∀ i, i ∈ wrSs body → i ∈ wrS (.for tg ik il body) := fun i w => List.mem_append_right _ (List.mem_append_right _ w)
  have a2 : ∀ i, i ∈ tgL tg → i ∈ asS (.for tg ik il body) := fun i w => List.mem_append_left _ w
  have a3 : ∀ i, i ∈ asSs body → i ∈ asS (.for tg ik il body) := fun i w => List.mem_append_right _ w
  let In : Nat → Sg → Hp → Prop := fun i σ' H' => i ≤ items.length ∧ ∃ r' B' As', Good X.K lv σ' H' r' B' As' ∧ Stp (ofL (wrS (.for tg ik il body))) H B As H' B' As' ∧ (∀ j, j ∉ asS (.for tg ik il body) → σ'[j]? = σ[j]?) ∧
    PdL X.K σ' H' B' As' (Src (ofL (wrL il)) H As) (il.map (wyE lv)) ds vs ass ∧ Kp H1 H' B1 B' ∧ wp (forO tg (evSs F fuel body) (items.drop i) r') (PC X.K lv rl (wrS (.for tg ik il body)) (asS (.for tg ik il body)) D σ H B As) Z
  refine ⟨fun i m σ' H' => m = items.length - i ∧ In i σ' H', ⟨items.length, by simp, Nat.zero_le _, r1, B1, As1, G1, S1.wide w1, fun _ _ => rfl, P1, ⟨fun _ _ e _ => e, fun _ z => .inl z⟩, by rw [List.drop_zero]; exact hw⟩, ?_⟩
  rintro i m σ' H' ⟨rfl, hi', r', B', As', G', S', fx, P', K', hw'⟩
  obtain ⟨t1, t2, t3⟩ := it_turn IO (P'.rt hr) G'.noin (fun _ _ _ => rfl) K'
  by_cases hlt : i < items.length
  · refine .inr ⟨t1 i hlt, In (i + 1), fun σ2 H2 q => ⟨items.length - (i + 1), by omega, rfl, q⟩, fun x H2 y => ?_⟩
    have ed : items[i]? = some items[i] := List.getElem?_eq_getElem hlt
    obtain ⟨sm, rp⟩ := t3 i _ x H2 ed y
    rw [List.drop_eq_getElem_cons hlt] at hw'
    simp only [forO] at hw'
    rw [wp_bind] at hw'
    have G2 : Good X.K lv σ' H2 r' (fun a => a ∈ ([] : List Addr) ∨ B' a) As' := G'.grow sm (by simp) (by simp)
    have eB : (fun a => a ∈ ([] : List Addr) ∨ B' a) = B' := by
      funext a
      simp
    rw [eB] at G2
    have Sm : Stp (fun _ => False) H' B' As' H2 B' As' := Stp.same' sm (fun a z => .inl z) fun a z => z
    cases ea : asgT tg items[i] r' with
    | bad => rw [ea] at hw'; exact hw'.elim
    | exc c d =>
      exfalso
      cases tg <;> simp only [asgT] at ea
      · exact NoX.when _ _ ea
      · split at ea <;> first | exact NoX.when _ _ ea | cases ea
    | ok r2 =>
      rw [ea] at hw'
      refine gT_ok h0 G2 rp ea fun σ3 As3 G3 S3 fx3 => ?_
      have hw2 : wp ((evSs F fuel body r2).bind fun y => match y.1 with
          | .nx => forO tg (evSs F fuel body) (items.drop (i + 1)) y.2
          | .cnt => forO tg (evSs F fuel body) (items.drop (i + 1)) y.2
          | .brk => .ok (.nx, y.2)
          | .ret d => .ok (.ret d, y.2)) _ Z := hw'
      rw [wp_bind] at hw2
      refine ⟨r2, B', As3, G3, hw2.imp fun q hq => ?_⟩
      obtain ⟨ct, r4⟩ := q
      intro σ4 H4 B4 As4 G4 S4 fx4
      have St : Stp (ofL (tgL tg ++ wrSs body)) H' B' As' H4 B4 As4 := ((Sm.trans G' S3).trans G' S4).wide fun j w => by
        rcases w with (w | w) | w
        · exact w.elim
        · exact List.mem_append_left _ w
        · exact List.mem_append_right _ w
      have Sf : Stp (ofL (wrS (.for tg ik il body))) H B As H4 B4 As4 := (S'.trans G St).wide fun j w => by
        rcases w with w | w
        · exact w
        · exact (List.mem_append.mp w).elim (w2 j) (w3 j)
      have fxf : ∀ j, j ∉ asS (.for tg ik il body) → σ4[j]? = σ[j]? := fun j n => (fx4 j fun m => n (a3 j m)).trans ((fx3 j fun m => n (a2 j m)).trans (fx j n))
      have Pf : PdL X.K σ4 H4 B4 As4 (Src (ofL (wrL il)) H As) (il.map (wyE lv)) ds vs ass := P'.step G' St hv hd
      cases ct with
      | nx => exact ⟨hlt, r4, B4, As4, G4, Sf, fxf, Pf, K'.trans (G'.kp St), hq⟩
      | cnt => exact ⟨hlt, r4, B4, As4, G4, Sf, fxf, Pf, K'.trans (G'.kp St), hq⟩
      | brk => exact (show PC X.K lv rl _ _ D σ H B As (.nx, r4) from hq) σ4 H4 B4 As4 G4 Sf fxf
      | ret d =>
        intro v as xv
        refine (show PC X.K lv rl _ _ D σ H B As (.ret d, r4) from hq) σ4 H4 B4 As4 G4 Sf fxf v as (xv.src fun u z => ?_)
        have z1 := (Sm.trans G' S3).src z
        exact (S'.src (W' := ofL (tgL tg ++ wrSs body)) (z1.wide fun j w => by
          rcases w with (w | w) | w
          · exact w.elim
          · exact List.mem_append_left _ w
          · exact List.mem_append_right _ w)).wide fun j w => by
            rcases w with w | w
            · exact w
            · exact (List.mem_append.mp w).elim (w2 j) (w3 j)
  · have e : i = items.length := by omega
    subst e
    rw [List.drop_length] at hw'
    exact .inl ⟨t2 _ (Nat.le_refl _), hw' σ' H' B' As' G' S' fx⟩
theorem ss_while (hp : PassesOwn (model X.prog X.w) X.A X.env X.xe) (hc : ST X F lv Z c ec) (hb : SSs X F lv Z rl fuel body sb) : SS X F lv Z rl fuel (.while c body) (.While ec sb [] pos) := by
  refine ps_of (ps_while hp hc hb) fun D σ H ⟨r, B, As, G, w⟩ => ?_
  have w1 : ∀ i, i ∈ wrE c → i ∈ wrS (.while c body) := fun i => List.mem_append_left _
  have w2 : ∀ i, i ∈ wrSs body → i ∈ wrS (.while c body) := fun i => List.mem_append_right _
  refine ⟨fun m σ' H' => ∃ r' B' As', Good X.K lv σ' H' r' B' As' ∧ Stp (ofL (wrS (.while c body))) H B As H' B' As' ∧ (∀ j, j ∉ asS (.while c body) → σ'[j]? = σ[j]?) ∧
    wp (whileO m (tru2 F c) (evSs F fuel body) r') (PC X.K lv rl (wrS (.while c body)) (asS (.while c body)) D σ H B As) Z, ⟨fuel, r, B, As, G, Stp.refl, fun _ _ => rfl, w⟩, ?_⟩
  rintro m σ' H' ⟨r', B', As', G', S', fx, hw⟩
  cases m with
  | zero => exact hw.elim
  | succ m =>
    simp only [whileO] at hw
    rw [wp_bind] at hw
    refine tTv.mk G' hw fun z r2 H2 B2 As2 h2 G2 S2 => ?_
    have S3 := (S'.trans G S2).wide (W' := ofL (wrS (.while c body))) fun j w => w.elim id (w1 j)
    cases z with
    | false =>
      simp only [Bool.false_eq_true, if_false] at h2 ⊢
      exact (show PC X.K lv rl _ _ D σ H B As (.nx, r2) from h2) σ' H2 B2 As2 G2 S3 fx
    | true =>
      simp only [if_true] at h2 ⊢
      rw [wp_bind] at h2
      refine ⟨fun σ4 H4 => ∃ r' B' As', Good X.K lv σ4 H4 r' B' As' ∧ Stp (ofL (wrS (.while c body))) H B As H4 B' As' ∧ (∀ j, j ∉ asS (.while c body) → σ4[j]? = σ[j]?) ∧
        wp (whileO m (tru2 F c) (evSs F fuel body) r') (PC X.K lv rl (wrS (.while c body)) (asS (.while c body)) D σ H B As) Z, fun σ4 H4 q => ⟨m, Nat.lt_succ_self m, q⟩, r2, B2, As2, G2, h2.imp fun q hq => ?_⟩
      obtain ⟨ct, r4⟩ := q
      intro σ4 H4 B4 As4 G4 S4 fx4
      have Sf := (S3.trans G S4).wide (W' := ofL (wrS (.while c body))) fun j w => w.elim id (w2 j)
      have fxf : ∀ j, j ∉ asS (.while c body) → σ4[j]? = σ[j]? := fun j n => (fx4 j n).trans (fx j n)
      cases ct with
      | nx => exact ⟨r4, B4, As4, G4, Sf, fxf, hq⟩
      | cnt => exact ⟨r4, B4, As4, G4, Sf, fxf, hq⟩
      | brk => exact (show PC X.K lv rl _ _ D σ H B As (.nx, r4) from hq) σ4 H4 B4 As4 G4 Sf fxf
      | ret d => exact fun v as xv => (show PC X.K lv rl _ _ D σ H B As (.ret d, r4) from hq) σ4 H4 B4 As4 G4 Sf fxf v as (xv.src fun u z => (S3.src z).wide fun j w => w.elim id (w2 j))
end
end Pv
end
section
/-! P21: pairs of names, stores into lists. -/
namespace Pv
open PySem PySem.Spec PyProof.Rows L2
section
variable {K : Fg} {H : Hp} {B : No}
theorem Ow.setL : ∀ {n : Nat} {ds : List D} {xs : List V} {as : List Addr} {d : D} {v : V} {bs : List Addr} (j : Nat), OwL K H B n ds xs as → as.Nodup → Ow K H B n d v bs → bs.Nodup → (∀ a ∈ bs, a ∉ as) → j < ds.length →
    ∃ cs, OwL K H B n (ds.set j d) (xs.set j v) cs ∧ cs.Nodup ∧ ∀ a ∈ cs, a ∈ as ∨ a ∈ bs
  | n, [], xs, as, d, v, bs, j, h, nd, k, nb, dj, hj => by simp at hj
  | n, x :: ds, xs, as, d, v, bs, 0, h, nd, k, nb, dj, hj => by
    simp only [OwL] at h
    obtain ⟨u, r, cs, ts, rfl, rfl, h1, h2⟩ := h
    have nd' := List.nodup_append.mp nd
    refine ⟨bs ++ ts, ?_, List.nodup_append.mpr ⟨nb, nd'.2.1, fun a m b m2 e => ?_⟩, fun a m => ?_⟩
    · simp only [List.set_cons_zero, OwL]
      exact ⟨v, r, bs, ts, rfl, rfl, k, h2⟩
    · subst e
      exact dj a m (List.mem_append_right _ m2)
    · exact (List.mem_append.mp m).elim .inr fun m => .inl (List.mem_append_right _ m)
  | n, x :: ds, xs, as, d, v, bs, j + 1, h, nd, k, nb, dj, hj => by
    simp only [OwL] at h
    obtain ⟨u, r, cs, ts, rfl, rfl, h1, h2⟩ := h
    have nd' := List.nodup_append.mp nd
    obtain ⟨es, q1, q2, q3⟩ := Ow.setL j h2 nd'.2.1 k nb (fun a m m2 => dj a m (List.mem_append_right _ m2)) (by simpa using hj)
    refine ⟨cs ++ es, ?_, List.nodup_append.mpr ⟨nd'.1, q2, fun a m b m2 e => ?_⟩, fun a m => ?_⟩
    · simp only [List.set_cons_succ, OwL]
      exact ⟨u, r.set j v, cs, es, rfl, rfl, h1, q1⟩
    · subst e
      rcases q3 a m2 with z | z
      · exact nd'.2.2 a m a z rfl
      · exact dj a z (List.mem_append_left _ m)
    · rcases List.mem_append.mp m with m | m
      · exact .inl (List.mem_append_left _ m)
      · exact (q3 a m).imp (List.mem_append_right _) id
end
section
variable {X : Cx} {F : Fns} {lv : List Nat} {Z : Str → D → Prop} {rl fuel : Nat} {pos : Pos} {e c a b : E} {ee ec ea eb : Expr}
/-! ### a, b = x, y -/
def kindC (sc : Scope) (x : Str) : Bool := match sc.names.lookup x with | some .local => true | _ => false
def swapB (sc : Scope) (x y : Str) (px py : Pos) (ea eb : Expr) : Bool :=
  (match sc.kind with | .function => true | _ => false) && kindC sc x && kindC sc y && py.line == px.line && !(x == y) && notStar ea && notStar eb && !([ea, eb].all (foldedForSure 8)) && !([ea, eb].all (constantsAlone 8))
theorem swap_ok {x y : Str} {px py pt pt2 : Pos} {kt k2 : Nat} {env : PySem.Env} (h : swapB env.scope x y px py ea eb = true) : swappedStores [.Tuple [.Name x px, .Name y py] kt pt] (.Tuple [ea, eb] k2 pt2) env = pure (some [x, y]) := by
  unfold swapB at h
  simp only [Bool.and_eq_true, Bool.not_eq_true', beq_iff_eq] at h
  obtain ⟨⟨⟨⟨⟨⟨⟨⟨h1, h2⟩, h3⟩, h4⟩, h5⟩, h6⟩, h7⟩, h8⟩, h9⟩ := h
  have hk : env.scope.kind = .function := by
    split at h1
    · assumption
    · cases h1
  have hb : env.blockKind = .function := by unfold Env.blockKind; rw [hk]; rfl
  have kx : env.kindOf x = some .local := by
    unfold kindC at h2
    split at h2
    · assumption
    · cases h2
  have ky : env.kindOf y = some .local := by
    unfold kindC at h3
    split at h3
    · assumption
    · cases h3
  have st : ([ea, eb].any fun | .Starred .. => true | _ => false) = false := by
    cases ea <;> first | (cases h6; done) | skip
    all_goals (cases eb <;> first | (cases h7; done) | rfl)
  unfold swappedStores
  have xy : x ≠ y := by
    intro z
    rw [z] at h5
    simp at h5
  simp only [hb, kx, ky, st, h8, h9, h4, List.length_cons, List.length_nil]
  simp [Expr.pos, xy, h4, List.eraseDups_cons, Ne.symm xy, kx, ky]
  intro hh
  exfalso
  rcases hh with hh | hh
  · cases ea <;> first | (cases h6; done) | cases hh
  · cases eb <;> first | (cases h7; done) | cases hh
theorem ss_par {i j : Nat} {x y : Str} {px py pt pt2 : Pos} {kt k2 : Nat} (hc : X.calm = true) (hN : X.N.Nodup) (hi : X.N[i]? = some x) (hj : X.N[j]? = some y) (hij : i ≠ j) (hsw : swapB X.env.scope x y px py ea eb = true) (hl : SA X F lv Z [a, b] [ea, eb])
    (ha : wyE lv a = .val [] (lv.getD i 0)) (hb : wyE lv b = .val [] (lv.getD j 0)) : SS X F lv Z rl fuel (.par [i, j] [a, b]) (.Assign [.Tuple [.Name x px, .Name y py] kt pt] (.Tuple [ea, eb] k2 pt2) pos) := by
  have kk := hsw
  unfold swapB at kk
  simp only [Bool.and_eq_true, Bool.not_eq_true', beq_iff_eq] at kk
  obtain ⟨⟨⟨⟨⟨⟨⟨⟨_, h2⟩, h3⟩, _⟩, _⟩, _⟩, _⟩, _⟩, _⟩ := kk
  have kx : X.env.scope.names.lookup x = some .local := by
    unfold kindC at h2
    split at h2
    · assumption
    · cases h2
  have ky : X.env.scope.names.lookup y = some .local := by
    unfold kindC at h3
    split at h3
    · assumption
    · cases h3
  refine ps_of (ps_par hc hN hi hj hij kx ky hl (swap_ok hsw)) fun D σ H ⟨r, B, As, G, w⟩ => ?_
  simp only [evS] at w
  rw [wp_bind] at w
  refine tEvL.mk G w fun ds r' H' B' As' vs ass hw G' S' P' => ?_
  rw [List.map_cons, List.map_cons, List.map_nil, ha, hb] at P'
  obtain ⟨d, ds1, v, vs1, as, ass1, rfl, rfl, rfl, x1, dj, d2, ds2, v2, vs2, as2, ass2, rfl, rfl, rfl, x2, _, e1, e2, e3⟩ := P'
  subst e1 e2 e3
  refine ⟨v, v2, rfl, ?_⟩
  obtain ⟨g, q⟩ := wp_when.mp hw
  simp only [Bool.and_eq_true, decide_eq_true_eq, List.all_cons, List.all_nil, Bool.and_true] at g
  have ww : ∀ i', ofL (wrL [a, b]) i' → ofL (wrS (.par [i, j] [a, b])) i' := fun i w => List.mem_append_left _ w
  have o1 := fun u m => x1.own rfl u m
  have o2 := fun u m => x2.own rfl u m
  have G1 := G'.asg (i := i) g.2.1 x1.ow x1.nd fun z m => ⟨x1.ban z m, fun k _ => (o1 z m).2 k⟩
  have G2 := G1.asg (i := j) (d := d2) (v := v2) (as := as2) (by rw [List.length_set]; exact g.2.2) x2.ow x2.nd fun z m => ⟨x2.ban z m, fun k hk m2 => by
    have m2 : z ∈ (if k = i then as else As' k) := m2
    split at m2
    · exact dj rfl z m2 as2 (by simp) m
    · exact (o2 z m).2 k m2⟩
  have S1 := (S'.wide ww).asg (i := i) (as := as) (List.mem_append_right _ List.mem_cons_self) fun z m => ((o1 z m).1).wide ww
  have S2 := S1.asg (i := j) (as := as2) (List.mem_append_right _ (List.mem_cons_of_mem _ List.mem_cons_self)) fun z m => ((o2 z m).1).wide ww
  refine q _ H' B' _ G2 S2 fun k n => ?_
  rw [List.getElem?_set_ne (fun z => n (by rw [← z]; simp [asS])), List.getElem?_set_ne (fun z => n (by rw [← z]; simp [asS]))]
/-! ### x[i] = e, x a list -/
theorem setL_nx (o k v : D) : NoX (setL o k v) := by
  intro c d
  unfold setL
  split <;> first | exact NoX.bad c d | skip
  split <;> first | exact NoX.ok c d | exact NoX.bad c d
theorem ixD_lt {n j : Nat} {i : Int} (h : ixD n i = some j) : j < n := by
  unfold ixD at h
  split at h
  · split at h
    · cases h
      omega
    · cases h
  · split at h
    · cases h
      omega
    · cases h
theorem ss_put {i n : Nat} {x : Str} {p1 p2 : Pos} (hN : X.N[i]? = some x) (hv : Vis X.env.scope x) (hd : (x == ("__debug__" : Str)) = false) (hcd : (x == ("__classdict__" : Str)) = false) (he : SE X F lv Z e ee) (hc : SE X F lv Z c ec) (hn : lv.getD i 0 = n + 1)
    (hl : lvE lv e = n) (ha : alE lv e = []) (hi : i ∉ wrE c) (hs : noComp ee = true) (hix : plainIx ec = true) : SS X F lv Z rl fuel (.put i c e) (.Assign [.Subscript (.Name x p1) ec p2] ee pos) := by
  have hsw : swappedStores [.Subscript (.Name x p1) ec p2] ee X.env = pure none := by cases ee <;> rfl
  have hassign : ∀ v, assign (.Subscript (.Name x p1) ec p2) X.env v = (do
      let ov ← holding [v] (eval (.Name x p1) X.env)
      let iv ← holding [v, ov] (eval ec X.env)
      standAt p2
      holding [v, ov, iv] (setItem ov iv v)
      release [v, ov, iv] []) := by
    intro v
    cases ec <;> first | rfl | skip
    rename_i lo hi' st p'
    cases st
    · cases hix
    · rfl
  refine ps_of (ps_asg he (pg_sub (pe_var hN hv hd hcd) hc set_list hassign) (by unfold swapsWithSole; exact swaps_ok hs _ _ _) hsw rfl) fun D σ H ⟨r, B, As, G, w⟩ => ?_
  simp only [evS] at w
  rw [wp_bind] at w
  refine tEv.mk G w fun dv r1 H1 B1 As1 v as hw G1 S1 X1 => ?_
  simp only at hw
  split at hw
  · rename_i d0 e0
    obtain ⟨vo, ev, _⟩ := G1.slot i d0 e0
    refine ⟨vo, ev, ?_⟩
    rw [wp_bind] at hw
    refine tEv.mk G1 hw fun dk r2 H2 B2 As2 vk ask hw2 G2 S2 X2 => ?_
    simp only at hw2
    split at hw2
    · rename_i d1 e1
      rw [wp_bind] at hw2
      obtain ⟨z, ez, q⟩ := hw2.get (setL_nx d1 dk dv)
      cases d1 <;> simp only [setL] at ez <;> first | (cases ez; done) | skip
      cases dk <;> simp only at ez <;> first | (cases ez; done) | skip
      rename_i ds k
      split at ez <;> cases ez
      rename_i j ej
      obtain ⟨p, xs, bs, ev', h4, h5, h6⟩ := slot_list G2 hn e1
      rw [ev] at ev'
      cases ev'
      have hk := X2.ow.rp0
      simp only [Rp] at hk
      refine ⟨p, xs, k, j, rfl, hk, h4, by rw [← h6.len, ← ixD_eq]; exact ej, ?_⟩
      have X3 := X1.step G1 S2 fun u m => by rw [ha] at m; cases m
      have ow := X3.ow
      rw [hl] at ow
      have pA : p ∈ As2 i := by rw [h5]; exact List.mem_cons_self
      have nd2 := G2.nd i
      rw [h5] at nd2
      have pb : B2 p := G2.ban i p pA
      have o3 := fun u m => X3.own ha u m
      have pas : p ∉ as := fun m => (o3 p m).2 i pA
      have pbs : p ∉ bs := (List.nodup_cons.mp nd2).1
      have mA : ∀ u ∈ bs, u ∈ As2 i := fun u m => by rw [h5]; exact List.mem_cons_of_mem _ m
      obtain ⟨cs, q1, q2, q3⟩ := Ow.setL j h6 (List.nodup_cons.mp nd2).2 ow X3.nd (fun u m m2 => (o3 u m).2 i (mA u m2)) (ixD_lt ej)
      have pcs : p ∉ cs := fun m => (q3 p m).elim pbs pas
      have ww : ∀ j', ofL (wrE e) j' ∨ ofL (wrE c) j' → ofL (wrS (.put i c e)) j' := fun j' w => w.elim (fun w => List.mem_cons_of_mem _ (List.mem_append_left _ w)) fun w => List.mem_cons_of_mem _ (List.mem_append_right _ w)
      have S12 := (S1.trans G S2).wide ww
      have srcs : ∀ u ∈ p :: cs, Src (ofL (wrS (.put i c e))) H As u := fun u m => by
        rcases List.mem_cons.mp m with rfl | m
        · exact S12.srcOf List.mem_cons_self pA
        · rcases q3 u m with m | m
          · exact S12.srcOf List.mem_cons_self (mA u m)
          · exact ((o3 u m).1).wide fun j' w => ww j' (.inl w)
      refine q σ _ B2 _ (G2.put (as := p :: cs) (o := .lst (xs.set j v)) pA rfl ev (rest_len e1) ?_ (List.nodup_cons.mpr ⟨pcs, q2⟩) fun u m => ?_) (S12.put List.mem_cons_self pA srcs) fun _ _ => rfl
      · rw [hn]
        simp only [Ow]
        exact ⟨p, _, cs, rfl, upd_same, rfl, q1.updA pb pcs⟩
      · rcases List.mem_cons.mp m with rfl | m
        · exact ⟨pb, fun k' hk' m2 => G2.dj k' i u hk' m2 pA⟩
        · rcases q3 u m with m | m
          · exact ⟨G2.ban i u (mA u m), fun k' hk' m2 => G2.dj k' i u hk' m2 (mA u m)⟩
          · exact ⟨X3.ban u m, fun k' _ => (o3 u m).2 k'⟩
    · cases hw2
  · cases hw
end
end Pv
end
section
/-! P53: d[k] = v and d.clear(), of an own dict. -/
namespace Pv
open PySem PySem.Spec PyProof.Rows L2
section
variable {X : Cx} {pins : List (Addr × Obj)} {σ : Sg} {H : Hp} {s : Shared}
/-- an empty dict is an empty dict -/
theorem inv_dt0 {a : Addr} (I : Inv X pins σ H s) (h : H a = some (.dT [])) : Inv X pins σ (upd H a (.dK [])) s := by
  obtain ⟨_, lo, xs, rel, o, es, ep, h1, h2, h3, h4, h5⟩ := (show ObjOk X.prog X.w H s.heap a (.dT []) from I.hok a _ h)
  cases rel
  have e : es.toList = [] := by simpa using h4
  have e2 : es = #[] := by simpa using e
  have new : ObjOk X.prog X.w (upd H a (.dK [])) s.heap a (.dK []) := by
    refine ⟨Nat.zero_le _, lo, [], .nil, o, es, ep, h1, h2, h3, ?_, ?_, by simp⟩
    · subst e2
      intro i hi
      simp at hi
    · rw [e]
      exact .nil
  exact I.write (x := a) (e := a) (t' := s.toks) (h' := s.heap) (by rw [h]; trivial) (.inl rfl) (fun b v _ q => q) ⟨o, h1⟩ new
/-- the dict at a, of texts and numbers -/
def Dk0 (H : Hp) (a : Addr) (kvs : List (Key × V)) : Prop := H a = some (.dK kvs) ∨ (kvs = [] ∧ H a = some (.dT []))
theorem inv_dk0 {a : Addr} {kvs : List (Key × V)} (I : Inv X pins σ H s) (h : Dk0 H a kvs) : ∃ H', Inv X pins σ H' s ∧ H' a = some (.dK kvs) ∧ ∀ u, upd H' a u = upd H a u := by
  rcases h with h | ⟨rfl, h⟩
  · exact ⟨H, I, h, fun _ => rfl⟩
  · exact ⟨_, inv_dt0 I h, upd_same, fun _ => upd_upd⟩
def sDPut0 (td ty tv : TE) : TS := fun D σ H => tv σ H fun v H1 => td σ H1 fun x H2 => ty σ H2 fun y H3 => ∃ a kvs k, x = .ref a ∧ y = kV k ∧ Dk0 H3 a kvs ∧ kvs.length < sizeLine ∧ D.nx σ (upd H3 a (.dK (putK kvs k v)))
theorem ps_dput0 {o i value : Expr} {pos pos' : Pos} {td ty tv : TE} (hu : X.A.units + 1 < cLine) (ho : PE X o td) (hi : PE X i ty) (hv : PE X value tv) (hs : swapsWith value (some (.Subscript o i pos')) pos.line X.env = pure false) :
    PS X (.Assign [.Subscript o i pos'] value pos) (sDPut0 td ty tv) := by
  refine ⟨fun pins s σ H D I h => ?_⟩
  refine wpAny_Assign_Subscript (thn (hv.run pins s σ H _ I h) fun r s1 ⟨v, H1, I1, rv, q1⟩ => thn (ho.run pins s1 σ H1 _ I1 q1) fun u s2 ⟨x, H2, I2, rx, q2⟩ => thn (hi.run pins s2 σ H2 _ I2 q2) fun iv s3 ⟨y, H3, I3, ry, a, kvs, k, ex, ek, g, hl, q3⟩ => ?_) hs
  subst ex ek
  obtain rfl : u = Value.ref a := rx
  obtain ⟨H4, I4, e4, f4⟩ := inv_dk0 I3 g
  exact d_setItem hu I4 (DPut.k e4 hl) ry rv fun s4 I5 => ⟨σ, _, I5, by rw [f4]; exact q3⟩
def rDClear0 : V → List V → Hp → VK → Prop := fun x vs H Q => ∃ (a : Addr) (kvs : List (Key × V)), x = .ref a ∧ vs = [] ∧ Dk0 H a kvs ∧ Q .non (upd H a (.dK []))
theorem mtd_clear0 : MtR X "dict.clear" rDClear0 := by
  intro pins s σ H x vs v us Q I rx rv h
  obtain ⟨a, kvs, ex, ev, e, q⟩ := h
  subst ex
  subst ev
  obtain rfl : v = Value.ref a := rx
  have hus := rv.zero
  subst hus
  obtain ⟨H4, I4, e4, f4⟩ := inv_dk0 I e
  exact d_clear I4 e4 fun s' I' => ⟨.non, _, I', rfl, by rw [f4]; exact q⟩
end
section
variable {X : Cx} {F : Fns} {lv : List Nat} {Z : Str → D → Prop} {rl fuel : Nat} {pos : Pos} {e c : E} {ee ec : Expr}
theorem slot_dict {K : Fg} {σ : Sg} {H : Hp} {r : Env} {B : No} {As : AsT} {i : Nat} {kvs : List (D × D)} (G : Good K lv σ H r B As) (hn : lv.getD i 0 = 1) (er : r[i]? = some (some (.dict kvs))) (g : (kvs.all fun p => keyS p.1) = true) :
    ∃ p es, σ[i]? = some (some (.ref p)) ∧ As i = [p] ∧ Dk0 H p es ∧ RpK K H B kvs es := by
  obtain ⟨v, ev, ow⟩ := G.slot i _ er
  rw [hn] at ow
  simp only [Ow] at ow
  obtain ⟨p, bs, rfl, e2, ow⟩ := ow
  rcases ow with ⟨es, h1, h2⟩ | ⟨es, h1, h2⟩
  · obtain ⟨rfl, h3⟩ := OwK.zero.mp h2
    exact ⟨p, es, ev, e2, .inl h1, h3⟩
  · obtain ⟨rfl, h3⟩ := OwT.zero.mp h2
    cases kvs with
    | nil =>
      simp only [RpT] at h3
      subst h3
      exact ⟨p, [], ev, e2, .inr ⟨rfl, h1⟩, by simp [RpK]⟩
    | cons q t =>
      obtain ⟨k, d⟩ := q
      simp only [RpT] at h3
      obtain ⟨q, v, t2, _, e3, _, _⟩ := h3
      subst e3
      simp [tD, keyS] at g
theorem put_slot {K : Fg} {W : Nat → Prop} {σ : Sg} {H0 H : Hp} {r : Env} {B0 B : No} {As0 As : AsT} {i : Nat} {p : Addr} {kvs : List (D × D)} {es : List (Key × V)} (G : Good K lv σ H r B As) (S : Stp W H0 B0 As0 H B As) (hn : lv.getD i 0 = 1) (ev : σ[i]? = some (some (.ref p))) (ha : As i = [p]) (hi : i < r.length) (wi : W i) (h : RpK K H B kvs es) :
    ∃ As', Good K lv σ (upd H p (.dK es)) (r.set i (some (.dict kvs))) B As' ∧ Stp W H0 B0 As0 (upd H p (.dK es)) B As' := by
  have pA : p ∈ As i := by rw [ha]; exact List.mem_cons_self
  have pb : B p := G.ban i p pA
  refine ⟨_, G.put (as := [p]) (o := .dK es) pA rfl ev hi ?_ (by simp) fun u m => ?_, S.put wi pA fun u m => ?_⟩
  · rw [hn]
    simp only [Ow]
    exact ⟨p, [], rfl, rfl, .inl ⟨es, upd_same, OwK.zero.mpr ⟨rfl, RpK.kp ⟨fun a o e n => (upd_ne fun z => by subst z; exact n pb).trans e, fun a z => .inl z⟩ kvs es h⟩⟩⟩
  · rw [List.mem_singleton.mp m]
    exact ⟨pb, fun j hj m2 => G.dj j i p hj m2 pA⟩
  · rw [List.mem_singleton.mp m]
    exact S.srcOf wi pA
theorem ss_putd {i : Nat} {x : Str} {p1 p2 : Pos} (hu : X.A.units + 1 < cLine) (hN : X.N[i]? = some x) (hv : Vis X.env.scope x) (hd : (x == ("__debug__" : Str)) = false) (hcd : (x == ("__classdict__" : Str)) = false) (he : SE X F lv Z e ee) (hc : SE X F lv Z c ec) (hn : lv.getD i 0 = 1)
    (hl : lvE lv e = 0) (ha0 : alE lv e = []) (hs : noComp ee = true) : SS X F lv Z rl fuel (.putd i c e) (.Assign [.Subscript (.Name x p1) ec p2] ee pos) := by
  refine ps_of (ps_dput0 hu (pe_var hN hv hd hcd) hc he (swaps_ok hs _ _ _)) fun D σ H ⟨r, B, As, G, w⟩ => ?_
  simp only [evS] at w
  rw [wp_bind] at w
  refine tEv.mk G w fun dv r1 H1 B1 As1 v as hw G1 S1 X1 => ?_
  simp only at hw
  split at hw
  · rename_i d0 e0
    obtain ⟨vo, ev, _⟩ := G1.slot i d0 e0
    refine ⟨vo, ev, ?_⟩
    rw [wp_bind] at hw
    refine tEv.mk G1 hw fun dk r2 H2 B2 As2 vk ask hw2 G2 S2 X2 => ?_
    simp only at hw2
    split at hw2
    · rename_i kvs e1
      obtain ⟨z, ez, q⟩ := hw2.get NoX.when
      obtain ⟨g, ez⟩ := when_ok ez
      subst ez
      simp only [Bool.and_eq_true, decide_eq_true_eq] at g
      obtain ⟨⟨g1, g2⟩, g3⟩ := g
      obtain ⟨p, es, ev', ha, hd0, hk⟩ := slot_dict G2 hn e1 g2
      rw [ev] at ev'
      cases ev'
      have hy := X2.ow.rp0
      obtain ⟨k, rfl, rfl⟩ : ∃ k : Key, dk = kD k ∧ vk = kV k := by
        cases dk <;> simp only [keyS] at g1 <;> first | (cases g1; done) | skip
        · simp only [Rp] at hy
          exact ⟨.inl _, rfl, hy⟩
        · simp only [Rp] at hy
          exact ⟨.inr _, rfl, hy⟩
      have X3 := X1.step G1 S2 fun u m => by rw [ha0] at m; cases m
      have ow := X3.ow
      rw [hl] at ow
      have hv0 := (Ow.zero.mp ow).2
      have ww : ∀ j', ofL (wrE e) j' ∨ ofL (wrE c) j' → ofL (wrS (.putd i c e)) j' := fun j' w => w.elim (fun w => List.mem_cons_of_mem _ (List.mem_append_left _ w)) fun w => List.mem_cons_of_mem _ (List.mem_append_right _ w)
      have S12 := (S1.trans G S2).wide ww
      refine ⟨p, es, k, rfl, rfl, hd0, by rw [← rpk_len hk]; exact g3, ?_⟩
      obtain ⟨As', G5, S5⟩ := put_slot G2 S12 hn ev ha (rest_len e1) List.mem_cons_self (rpk_store hk hv0)
      exact q σ _ B2 As' G5 S5 fun _ _ => rfl
    · exact hw2.elim
  · exact hw.elim
theorem s_dclr {i : Nat} {x : Str} {p1 apos : Pos} (hN : X.N[i]? = some x) (hv : Vis X.env.scope x) (hd : (x == ("__debug__" : Str)) = false) (hcd : (x == ("__classdict__" : Str)) = false) (hn : lv.getD i 0 = 1)
    (hline : (apos.endLine == pos.line) = true) : SE X F lv Z (.dclr i) (.Call (.Attribute (.Name x p1) "clear" apos) [] [] pos) := by
  refine pe_of (pe_bm0 PySem.F.plainAttrs_dict PySem.F.slot_dict_clear PySem.F.type_dict_clear mtd_clear0 (pe_var hN hv hd hcd) rfl hline) fun σ H Q ⟨r, B, As, G, w⟩ => ?_
  simp only [evE] at w
  split at w
  · rename_i kvs e1
    obtain ⟨z, ez, q⟩ := w.get NoX.when
    obtain ⟨g, ez⟩ := when_ok ez
    subst ez
    obtain ⟨p, es, ev, ha, hd0, hk⟩ := slot_dict G hn e1 g
    have ty : tyV X.K "dict" (.ref p) H := by
      refine .inr (.inr (.inl ⟨rfl, ?_⟩))
      rcases hd0 with h | ⟨_, h⟩
      · exact .inl ⟨_, h⟩
      · exact .inr ⟨_, h⟩
    refine ⟨.ref p, ev, ty, p, es, rfl, rfl, hd0, ?_⟩
    obtain ⟨As', G5, S5⟩ := put_slot (W := ofL (wrE (.dclr i))) G Stp.refl hn ev ha (rest_len e1) List.mem_cons_self (show RpK X.K H B [] [] by simp [RpK])
    exact q _ _ ⟨B, As', [], G5, S5, ⟨by simp [lvE, Ow, Rp], List.nodup_nil, by simp, fun _ => by simp, fun c => absurd rfl c⟩⟩
  · exact w.elim
end
end Pv
end
section
/-! P22: list comprehensions of one clause. -/
namespace Pv
open PySem PySem.Spec PyProof.Rows L2
theorem wp_noX {A : Type} {x : Out A} {Q : A → Prop} {Z : Str → D → Prop} (h : wp x.noX Q Z) : wp x Q ZF := by
  cases x with
  | ok a => exact h
  | exc c d => exact h.elim
  | bad => exact h.elim
/-- a clause's tests -/
def tIfs (K : Fg) (F : Fns) (lv : List Nat) (ifs : List E) : TT := fun σ H Q =>
  ∃ r B As, Good K lv σ H r B As ∧ wp (evIfs F ifs r) (fun p => ∀ H' B' As', Good K lv σ H' p.2 B' As' → Stp (ofL (wrL ifs)) H B As H' B' As' → Q p.1 H') ZF
abbrev SIfs (X : Cx) (F : Fns) (lv : List Nat) (ifs : List E) (es : List Expr) : Prop := PTs X es (tIfs X.K F lv ifs)
theorem pts_of {X : Cx} {e : List Expr} {t t' : TT} (h : PTs X e t) (k : ∀ σ H Q, t' σ H Q → t σ H Q) : PTs X e t' := ⟨fun pins s σ H Q I q => h.run pins s σ H Q I (k σ H Q q)⟩
theorem wipeE_len (r : Pv.Env) : ∀ l : List Nat, (wipeE r l).length = r.length
  | [] => rfl
  | v :: vs => by unfold wipeE; rw [List.length_set, wipeE_len r vs]
theorem wipeE_in {r : Pv.Env} {i : Nat} : ∀ {l : List Nat} {d : D}, (wipeE r l)[i]? = some (some d) → r[i]? = some (some d) ∧ i ∉ l
  | [], d, h => ⟨h, by simp⟩
  | v :: vs, d, h => by
    unfold wipeE at h
    by_cases hi : v = i
    · subst hi
      rw [List.getElem?_set] at h
      simp at h
    · rw [List.getElem?_set_ne hi] at h
      obtain ⟨h1, h2⟩ := wipeE_in h
      exact ⟨h1, by simp only [List.mem_cons, not_or]; exact ⟨fun e => hi e.symm, h2⟩⟩
theorem wipeE_out {r : Pv.Env} {i : Nat} : ∀ {l : List Nat}, i ∉ l → (wipeE r l)[i]? = r[i]?
  | [], _ => rfl
  | v :: vs, h => by
    simp only [List.mem_cons, not_or] at h
    unfold wipeE
    rw [List.getElem?_set_ne (fun e => h.1 e.symm), wipeE_out h.2]
theorem backE_out {r r' : Pv.Env} {i : Nat} : ∀ {l : List Nat}, i ∉ l → (backE r r' l)[i]? = r'[i]?
  | [], _ => rfl
  | v :: vs, h => by
    simp only [List.mem_cons, not_or] at h
    unfold backE
    rw [List.getElem?_set_ne (fun e => h.1 e.symm), backE_out h.2]
theorem backE_len (r r' : Pv.Env) : ∀ l : List Nat, (backE r r' l).length = r'.length
  | [] => rfl
  | v :: vs => by unfold backE; rw [List.length_set, backE_len r r' vs]
theorem backE_in {r r' : Pv.Env} {i : Nat} {d : D} : ∀ {l : List Nat}, i ∈ l → (backE r r' l)[i]? = some (some d) → r[i]? = some (some d)
  | v :: vs, h, e => by
    unfold backE at e
    by_cases c : v = i
    · subst c
      rw [List.getElem?_set] at e
      split at e
      · split at e
        · have e : r[v]?.getD none = some d := by simpa using e
          cases q : r[v]? with
          | none => rw [q] at e; cases e
          | some o => rw [q] at e; exact congrArg some e
        · cases e
      · rename_i h1
        exact absurd rfl h1
    · rw [List.getElem?_set_ne c] at e
      exact backE_in ((List.mem_cons.mp h).resolve_left fun z => c z.symm) e
theorem backE_get {r r' : Pv.Env} {i : Nat} : ∀ {l : List Nat}, i ∈ l → i < r'.length → (backE r r' l)[i]? = some (r[i]?.getD none)
  | v :: vs, h, hl => by
    unfold backE
    by_cases c : v = i
    · subst c
      exact List.getElem?_set_self (by rw [backE_len]; exact hl)
    · rw [List.getElem?_set_ne c]
      exact backE_get ((List.mem_cons.mp h).resolve_left fun z => c z.symm) hl
theorem wipe_get {σ : Sg} {i : Nat} : ∀ {vs : List Nat}, i ∈ vs → i < σ.length → (wipe σ vs)[i]? = some none
  | v :: vs, h, hl => by
    unfold wipe
    by_cases c : v = i
    · subst c
      exact List.getElem?_set_self (by rw [wipe_length]; exact hl)
    · rw [List.getElem?_set_ne c]
      exact wipe_get ((List.mem_cons.mp h).resolve_left fun z => c z.symm) hl
theorem wipe_ext {σ σ' : Sg} {vs : List Nat} (hl : σ'.length = σ.length) (h : ∀ j, j ∉ vs → σ'[j]? = σ[j]?) : wipe σ' vs = wipe σ vs := by
  apply List.ext_getElem?
  intro j
  by_cases c : j ∈ vs
  · by_cases c2 : j < σ.length
    · rw [wipe_get c c2, wipe_get c (by omega)]
    · rw [List.getElem?_eq_none (by rw [wipe_length]; omega), List.getElem?_eq_none (by rw [wipe_length]; omega)]
  · rw [wipe_out c, wipe_out c]
    exact h j c
def wipA (As : AsT) (vs : List Nat) : AsT := fun j => if j ∈ vs then [] else As j
section
variable {K : Fg} {lv : List Nat} {σ : Sg} {H H' : Hp} {r r' : Pv.Env} {B B' : No} {As As' : AsT} {vs W : List Nat}
/-- the block's own names forgotten -/
theorem Good.wipe (G : Good K lv σ H r B As) (vs : List Nat) : Good K lv (L2.wipe σ vs) H (wipeE r vs) B (wipA As vs) where
  slot := fun i d e => by
    obtain ⟨e1, n⟩ := wipeE_in e
    obtain ⟨v, e2, ow⟩ := G.slot i d e1
    refine ⟨v, by rw [wipe_out n]; exact e2, ?_⟩
    show Ow K H B _ d v (if i ∈ vs then [] else As i)
    rw [if_neg n]
    exact ow
  off := fun i h => by
    show (if i ∈ vs then [] else As i) = []
    split
    · rfl
    · rename_i n
      exact G.off i fun d e => h d (by rw [wipeE_out n]; exact e)
  nd := fun i => by
    show (if i ∈ vs then [] else As i).Nodup
    split
    · exact List.nodup_nil
    · exact G.nd i
  dj := fun i j a n m m2 => by
    have m : a ∈ (if i ∈ vs then [] else As i) := m
    have m2 : a ∈ (if j ∈ vs then [] else As j) := m2
    split at m
    · cases m
    · split at m2
      · cases m2
      · exact G.dj i j a n m m2
  ban := fun i a m => by
    have m : a ∈ (if i ∈ vs then [] else As i) := m
    split at m
    · cases m
    · exact G.ban i a m
  bin := G.bin
  len := by rw [wipeE_len, wipe_length]; exact G.len
theorem wipA_in {j : Nat} {a : Addr} (m : a ∈ wipA As vs j) : j ∉ vs ∧ a ∈ As j := by
  have m : a ∈ (if j ∈ vs then [] else As j) := m
  split at m
  · cases m
  · rename_i n
    exact ⟨n, m⟩
theorem wipA_out {j : Nat} (h : j ∉ vs) : wipA As vs j = As j := if_neg h
/-- .. a step more -/
theorem Stp.wipe {W : Nat → Prop} {H0 : Hp} {B0 : No} {As0 : AsT} (S : Stp W H0 B0 As0 H B As) : Stp (fun i => W i ∨ i ∈ vs) H0 B0 As0 H B (wipA As vs) where
  keep := fun a o e n => S.keep a o e fun i w => n i (.inl w)
  ban := S.ban
  hold := fun a z n => S.hold a z fun i w => n i (.inl w)
  frm := fun i w a m => by
    obtain ⟨n, m⟩ := wipA_in m
    have w := w.resolve_right n
    exact (S.frm i w a m).imp (fun ⟨j, wj, q⟩ => ⟨j, .inl wj, q⟩) id
  same := fun i w => by
    simp only [not_or] at w
    rw [wipA_out w.2]
    exact S.same i w.1
/-- back from the block -/
theorem Good.back (G1 : Good K lv σ H r B As) (G : Good K lv (L2.wipe σ vs) H' r' B' As') (S : Stp (ofL W) H B (wipA As vs) H' B' As') : Good K lv σ H' (backE r r' vs) B' (fun j => if j ∈ vs then As j else As' j) := by
  have hk : ∀ j ∈ vs, ∀ a ∈ As j, ∀ i, a ∉ wipA As vs i := fun j hj a m i m2 => by
    obtain ⟨n, m2⟩ := wipA_in m2
    exact G1.dj j i a (fun e => n (e ▸ hj)) m m2
  have dj0 : ∀ j ∈ vs, ∀ k, k ∉ vs → ∀ a ∈ As j, a ∉ As' k := fun j hj k hk2 a m m2 => by
    by_cases c : k ∈ W
    · rcases S.frm k c a m2 with ⟨i, _, q⟩ | e
      · exact hk j hj a m i q
      · obtain ⟨o, e2⟩ := G1.here m
        rw [e] at e2
        cases e2
    · rw [S.same k c] at m2
      exact hk j hj a m k m2
  refine ⟨fun i d e => ?_, fun i h => ?_, fun i => ?_, fun i j a n m m2 => ?_, fun i a m => ?_, G.bin, ?_⟩
  · by_cases c : i ∈ vs
    · obtain ⟨v, e2, ow⟩ := G1.slot i d (backE_in c e)
      rw [if_pos c]
      refine ⟨v, e2, Ow.kp ⟨fun a o e n => S.keep a o e fun k _ m => n ?_, S.ban⟩ _ d v _ (fun a o m e => S.keep a o e fun k _ m2 => hk i c a m k m2) ow⟩
      exact G1.ban k a (wipA_in m).2
    · rw [backE_out c] at e
      obtain ⟨v, e2, ow⟩ := G.slot i d e
      rw [if_neg c]
      rw [wipe_out c] at e2
      exact ⟨v, e2, ow⟩
  · by_cases c : i ∈ vs
    · rw [if_pos c]
      refine G1.off i fun d e => h d ?_
      have hl : i < r'.length := by
        have h1 := rest_len e
        have h2 := G1.len
        have h3 := G.len
        rw [wipe_length] at h3
        omega
      rw [backE_get c hl, e]
      rfl
    · rw [if_neg c]
      refine G.off i fun d e => h d ?_
      rw [backE_out c]
      exact e
  · by_cases c : i ∈ vs
    · rw [if_pos c]; exact G1.nd i
    · rw [if_neg c]; exact G.nd i
  · by_cases c : i ∈ vs
    · rw [if_pos c] at m
      by_cases c2 : j ∈ vs
      · rw [if_pos c2] at m2
        exact G1.dj i j a n m m2
      · rw [if_neg c2] at m2
        exact dj0 i c j c2 a m m2
    · rw [if_neg c] at m
      by_cases c2 : j ∈ vs
      · rw [if_pos c2] at m2
        exact dj0 j c2 i c a m2 m
      · rw [if_neg c2] at m2
        exact G.dj i j a n m m2
  · by_cases c : i ∈ vs
    · rw [if_pos c] at m
      exact S.hold a (G1.ban i a m) fun k _ m2 => hk i c a m k m2
    · rw [if_neg c] at m
      exact G.ban i a m
  · rw [backE_len, G.len, wipe_length]
theorem Stp.back (S : Stp (ofL W) H B (wipA As vs) H' B' As') : Stp (ofL W) H B As H' B' (fun j => if j ∈ vs then As j else As' j) where
  keep := fun a o e n => S.keep a o e fun i w m => n i w (wipA_in m).2
  ban := S.ban
  hold := fun a z n => S.hold a z fun i w m => n i w (wipA_in m).2
  frm := fun i w a m => by
    by_cases c : i ∈ vs
    · rw [if_pos c] at m
      exact .inl ⟨i, w, m⟩
    · rw [if_neg c] at m
      exact (S.frm i w a m).imp (fun ⟨j, wj, q⟩ => ⟨j, wj, (wipA_in q).2⟩) id
  same := fun i w => by
    by_cases c : i ∈ vs
    · rw [if_pos c]
    · rw [if_neg c, S.same i w, wipA_out c]
/-- an object of a waiting value rewritten -/
theorem Good.updP (G : Good K lv σ H r B As) {a : Addr} {o : HO} (ha : B a) (hn : ∀ i, a ∉ As i) (hl : isLD o = true) : Good K lv σ (upd H a o) r B As where
  slot := fun i d e => by
    obtain ⟨v, e2, ow⟩ := G.slot i d e
    exact ⟨v, e2, ow.updA ha (hn i)⟩
  off := G.off
  nd := G.nd
  dj := G.dj
  ban := G.ban
  bin := fun z q => by
    by_cases c : z = a
    · exact ⟨o, by rw [c]; exact upd_same, hl⟩
    · rw [upd_ne c]
      exact G.bin z q
  len := G.len
theorem Stp.updP {W : Nat → Prop} {H0 : Hp} {B0 : No} {As0 : AsT} (S : Stp W H0 B0 As0 H B As) {a : Addr} {o : HO} (ha : H0 a = none) : Stp W H0 B0 As0 (upd H a o) B As where
  keep := fun z u e n => by
    rw [upd_ne (fun c => by subst c; rw [ha] at e; cases e)]
    exact S.keep z u e n
  ban := S.ban
  hold := S.hold
  frm := S.frm
  same := S.same
/-- a waiting list: an item more -/
theorem Val.push (G : Good K lv σ H r B As) {src : No} {n : Nat} {ds : List D} {pD : Addr} {as : List Addr} {d : D} {v : V} {bs : List Addr} (x : Val K H B As src [] (n + 1) (.list ds) (.ref pD) as) (y : Val K H B As src [] n d v bs) (dj : ∀ a ∈ bs, a ∉ as) :
    ∃ acc cs, H pD = some (.lst acc) ∧ acc.length = ds.length ∧ B pD ∧ (∀ i, pD ∉ As i) ∧ src pD ∧ Val K (upd H pD (.lst (acc ++ [v]))) B As src [] (n + 1) (.list (ds ++ [d])) (.ref pD) cs := by
  have ow := x.ow
  simp only [Ow] at ow
  obtain ⟨a, acc, ts, e, h1, e2, h2⟩ := ow
  cases e
  subst e2
  have hD := x.own rfl pD List.mem_cons_self
  have nd := List.nodup_cons.mp x.nd
  have bD := x.ban pD List.mem_cons_self
  refine ⟨acc, pD :: (ts ++ bs), h1, h2.len.symm, bD, hD.2, hD.1, ?_, ?_, fun a m => ?_, fun _ a m => ?_, fun c => absurd rfl c⟩
  · simp only [Ow]
    exact ⟨pD, _, ts ++ bs, rfl, upd_same, rfl, (h2.updA bD nd.1).app (OwL.one (y.ow.updA bD fun m => dj pD m List.mem_cons_self))⟩
  · refine List.nodup_cons.mpr ⟨fun m => ?_, List.nodup_append.mpr ⟨nd.2, y.nd, fun a m b m2 e => ?_⟩⟩
    · exact (List.mem_append.mp m).elim nd.1 fun m => dj pD m List.mem_cons_self
    · subst e
      exact dj a m2 (List.mem_cons_of_mem _ m)
  · rcases List.mem_cons.mp m with rfl | m
    · exact bD
    · exact (List.mem_append.mp m).elim (fun m => x.ban a (List.mem_cons_of_mem _ m)) (y.ban a)
  · rcases List.mem_cons.mp m with rfl | m
    · exact hD
    · exact (List.mem_append.mp m).elim (fun m => x.own rfl a (List.mem_cons_of_mem _ m)) (y.own rfl a)
theorem Val.wipe {src : No} {al : List Nat} {n : Nat} {d : D} {v : V} {as : List Addr} (x : Val K H B As src [] n d v as) : Val K H B (wipA As vs) src [] n d v as :=
  ⟨x.ow, x.nd, x.ban, fun c a m => ⟨(x.own c a m).1, fun i m2 => (x.own c a m).2 i (wipA_in m2).2⟩, fun c => absurd rfl c⟩
theorem PdL.wipe {src : No} : ∀ {ws : List Wy} {ds : List D} {vs' : List V} {ass : List (List Addr)}, PdL K σ H B As src ws ds vs' ass → ws.all valWy = true → (∀ i ∈ alsW ws, i ∉ vs) → ∀ σ', PdL K σ' H B (wipA As vs) src ws ds vs' ass
  | [], ds, vs', ass, h, _, _, _ => h
  | .io i :: ws, ds, vs', ass, h, g, _, _ => by simp [valWy] at g
  | .lo al :: ws, ds, vs', ass, h, g, _, _ => by simp [valWy] at g
  | .val al n :: ws, ds, vs', ass, h, g, k, σ' => by
    obtain ⟨d, ds', v, vs2, as, ass', e1, e2, e3, x, dj, t⟩ := h
    simp only [List.all_cons, Bool.and_eq_true] at g
    refine ⟨d, ds', v, vs2, as, ass', e1, e2, e3, ⟨x.ow, x.nd, x.ban, fun c a m => ⟨(x.own c a m).1, fun i m2 => (x.own c a m).2 i (wipA_in m2).2⟩, fun c a m => ?_⟩, dj, t.wipe g.2 (fun i m => k i (List.mem_append_right _ m)) σ'⟩
    obtain ⟨i, hi, q⟩ := x.bor c a m
    exact ⟨i, hi, by rw [wipA_out (k i (List.mem_append_left _ hi))]; exact q⟩
end
end Pv
end
section
/-! P23: [e for t in it if c]. -/
namespace Pv
open PySem PySem.Spec PyProof.Rows L2
def lcStep (F : Fns) (e : E) (tg : Tg) (ifs : List E) (own : List Nat) (d : D) (a : List D × Pv.Env) : Out (List D × Pv.Env) :=
  (asgT tg d (wipeE a.2 own)).bind fun r1 => (evIfs F ifs r1).bind fun b => if b.1 then (evE F e b.2).bind fun y => .ok (a.1 ++ [y.1], y.2) else .ok (a.1, b.2)
theorem asgT_len {tg : Tg} {d : D} {r r1 : Pv.Env} (h : asgT tg d r = .ok r1) : r1.length = r.length := by
  cases tg with
  | n i =>
    simp only [asgT] at h
    obtain ⟨_, h⟩ := when_ok h
    subst h
    exact List.length_set
  | t l =>
    cases d <;> simp only [asgT] at h <;> first | (cases h; done) | skip
    rename_i ds
    obtain ⟨_, h⟩ := when_ok h
    subst h
    have : ∀ (l : List Nat) (ds : List D) (r : Pv.Env), (setAll l ds r).length = r.length := by
      intro l
      induction l with
      | nil => intro ds r; simp [setAll]
      | cons i l ih =>
        intro ds r
        cases ds with
        | nil => simp [setAll]
        | cons d ds => simp [setAll, ih]
    exact this l ds r
theorem asgT_nx (tg : Tg) (d : D) (r : Pv.Env) : NoX (asgT tg d r) := by
  intro c e
  unfold asgT
  split <;> first | exact NoX.when c e | exact NoX.bad c e
section
variable {X : Cx} {F : Fns} {lv : List Nat} {Z : Str → D → Prop} {pos : Pos} {e : E} {elt tge iter : Expr} {ifs il : List E} {ifes : List Expr} {scope : Scope} {own : List (Str × Nat)} {tg : Tg} {ik : IK}
/-- a turn's store: the block's state at its start -/
theorem blk_turn {K : Fg} {σ : Sg} {H H2 : Hp} {rw r1 : Pv.Env} {B : No} {As : AsT} {vs : List Nat} {d : D} {x : V} {Q : Sg → Hp → Prop} (h0 : ∀ i ∈ tgL tg, lv.getD i 0 = 0) (ht : ∀ i ∈ tgL tg, i ∈ vs) (G : Good K lv (wipe σ vs) H rw B As) (sm : Same H H2) (rp : Rp K H2 B d x) (e : asgT tg d rw = .ok r1)
    (q : ∀ σ2 As2, Good K lv σ2 H2 r1 B As2 → Stp (fun i => i ∈ vs) H B As H2 B As2 → wipe σ2 vs = wipe σ vs → Q σ2 H2) : gT K tg x (wipe σ vs) H2 Q := by
  have G2 : Good K lv (wipe σ vs) H2 rw (fun a => a ∈ ([] : List Addr) ∨ B a) As := G.grow sm (by simp) (by simp)
  have eB : (fun a => a ∈ ([] : List Addr) ∨ B a) = B := by
    funext a
    simp
  rw [eB] at G2
  have ew : wipe (wipe σ vs) vs = wipe σ vs := wipe_ext (wipe_length σ vs) fun j n => wipe_out n
  have Sm : Stp (fun _ => False) H B As H2 B As := Stp.same' sm (fun a z => .inl z) fun a z => z
  refine gT_ok h0 G2 rp e fun σ2 As2 G4 S4 fx => ?_
  refine q σ2 As2 G4 ((Sm.trans G S4).wide fun i w => w.elim False.elim (ht i)) ?_
  have := wipe_ext (vs := vs) (σ := wipe σ vs) (σ' := σ2) ?_ fun j n => fx j fun m => n (ht j m)
  · rw [this, ew]
  · rw [← G4.len, asgT_len e, G2.len]
theorem backE_wipe (r r' : Pv.Env) (vs : List Nat) : backE r (wipeE r' vs) vs = backE r r' vs := by
  apply List.ext_getElem?
  intro j
  by_cases c : j ∈ vs
  · by_cases c2 : j < r'.length
    · rw [backE_get c (by rw [wipeE_len]; exact c2), backE_get c c2]
    · rw [List.getElem?_eq_none (by rw [backE_len, wipeE_len]; omega), List.getElem?_eq_none (by rw [backE_len]; omega)]
  · rw [backE_out c, backE_out c, wipeE_out c]
theorem lc_imp {σ : Sg} {H : Hp} {Q : VK} {vs : List Nat}
    (hr : (il.map (wyE lv)).all rdWy = true) (hv : (il.map (wyE lv)).all valWy = true) (h0 : ∀ i ∈ tgL tg, lv.getD i 0 = 0) (hto : ∀ i ∈ tgL tg, i ∈ vs) (hd : ∀ i ∈ alsW (il.map (wyE lv)), i ∉ vs ++ (wrL ifs ++ wrE e)) (hal : alE lv e = [])
    (h : tEv X.K F lv Z (.lc e tg ik il ifs vs) σ H Q) : tLc (tEvI X.K F lv Z ik il) (gT X.K tg) (tIfs X.K F lv ifs) (tEv X.K F lv ZF e) vs σ H Q := by
  obtain ⟨r, B, As, G, w⟩ := h
  have w' : wp (evI F ik il r) (fun p => fits p.1.length = true ∧ wp (foldO (lcStep F e tg ifs vs) p.1 ([], wipeE p.2 vs)) (fun a => ∀ H' v, Pst X.K lv (ofL (wrE (.lc e tg ik il ifs vs))) [] (lvE lv e + 1) σ H B As (.list a.1) (backE p.2 a.2 vs) v H' → Q v H') ZF) Z := by
    simp only [evE] at w
    unfold evI
    rw [wp_bind] at w ⊢
    refine w.imp fun x hx => ?_
    rw [wp_bind] at hx ⊢
    refine hx.imp fun items hz => ?_
    rw [wp_bind] at hz
    obtain ⟨g, hz⟩ := wp_when.mp hz
    refine ⟨g, ?_⟩
    rw [wp_bind] at hz
    exact wp_noX hz
  refine ⟨r, B, As, G, w'.imp fun p hw H1 B1 As1 J ds vs' ass G1 S1 P1 IO Dp hD => ?_⟩
  obtain ⟨items, r1⟩ := p
  obtain ⟨hf, hw⟩ := hw
  have hf : items.length ≤ sizeLine := fits_le hf
  let Wb := vs ++ (wrL ifs ++ wrE e)
  have wb : ∀ i, i ∈ Wb → i ∈ wrE (.lc e tg ik il ifs vs) := fun i m => List.mem_append_right _ m
  have hn := G1.new hD
  have Gw := G1.wipe vs
  have ew0 : wipe (wipe σ vs) vs = wipe σ vs := wipe_ext (wipe_length σ vs) fun j n => wipe_out n
  let src : No := Src (ofL Wb) H1 (wipA As1 vs)
  have srcW : ∀ u, src u → Src (ofL (wrE (.lc e tg ik il ifs vs))) H As u := fun u z => by
    have z2 : Src (ofL Wb) H1 As1 u := z.imp id fun ⟨i, w, m⟩ => ⟨i, w, (wipA_in m).2⟩
    exact (S1.src z2).wide fun i w => w.elim (List.mem_append_left _) (wb i)
  have srcD : src Dp := .inl hD
  have notD : ∀ i, Dp ∉ As1 i := fun i m => by
    obtain ⟨o, e⟩ := G1.here m
    rw [hD] at e
    cases e
  have hdv : ∀ i ∈ alsW (il.map (wyE lv)), i ∉ vs := fun i m m2 => hd i m (List.mem_append_left _ m2)
  have P1w := P1.wipe hv hdv (wipe σ vs)
  let In : Nat → Hp → Prop := fun i H' => i ≤ items.length ∧ ∃ accD rb Bb Asb asD, Good X.K lv (wipe σ vs) H' (wipeE rb vs) Bb Asb ∧ Stp (ofL Wb) H1 B1 (wipA As1 vs) H' Bb Asb ∧ Val X.K H' Bb Asb src [] (lvE lv e + 1) (.list accD) (.ref Dp) asD ∧ accD.length ≤ i ∧
    wp (foldO (lcStep F e tg ifs vs) (items.drop i) (accD, rb)) (fun a => ∀ H' v, Pst X.K lv (ofL (wrE (.lc e tg ik il ifs vs))) [] (lvE lv e + 1) σ H B As (.list a.1) (backE r1 a.2 vs) v H' → Q v H') ZF
  have start : In 0 (upd H1 Dp (.lst [])) := by
    have Gs : Good X.K lv (wipe σ vs) (upd H1 Dp (.lst [])) (wipeE r1 vs) (fun a => a ∈ [Dp] ∨ B1 a) (wipA As1 vs) := Gw.grow (Same.upd hD) (fun a ha => by rw [List.mem_singleton.mp ha]; exact hD) (fun a ha => ⟨.lst [], by rw [List.mem_singleton.mp ha]; exact upd_same, rfl⟩)
    have Gs2 := Gs.wipe vs
    have eA : wipA (wipA As1 vs) vs = wipA As1 vs := by
      funext j
      unfold wipA
      split <;> rfl
    rw [ew0, eA] at Gs2
    refine ⟨Nat.zero_le _, [], wipeE r1 vs, _, _, [Dp], Gs2, Stp.same' (Same.upd hD) (fun a z => z.elim (fun z => .inr (by rw [List.mem_singleton.mp z]; exact hD)) .inl) (fun a z => .inr z), ⟨?_, by simp, fun a m => .inl m, fun _ a m => ?_, fun c => absurd rfl c⟩, Nat.le_refl _, by rw [List.drop_zero]; exact hw⟩
    · simp only [Ow]
      exact ⟨Dp, [], [], rfl, upd_same, rfl, by simp [OwL]⟩
    · rw [List.mem_singleton.mp m]
      exact ⟨srcD, fun i m2 => notD i (wipA_in m2).2⟩
  refine ⟨fun i m H' => m = items.length - i ∧ In i H', ⟨items.length, by simp, start⟩, ?_⟩
  rintro i m H' ⟨rfl, hi', accD, rb, Bb, Asb, asD, Gb, Sb, Vb, hl, hw'⟩
  have Pb := P1w.step Gw Sb hv hd (σ' := wipe σ vs)
  obtain ⟨t1, t2, t3⟩ := it_turn IO (Pb.rt hr) Gb.noin (fun _ _ _ => rfl) (Gw.kp Sb)
  by_cases hlt : i < items.length
  · refine .inr ⟨t1 i hlt, In (i + 1), fun H2 q => ⟨items.length - (i + 1), by omega, rfl, q⟩, fun x H3 y => ?_⟩
    have ed : items[i]? = some items[i] := List.getElem?_eq_getElem hlt
    obtain ⟨sm, rp⟩ := t3 i _ x H3 ed y
    rw [List.drop_eq_getElem_cons hlt] at hw'
    simp only [foldO_cons] at hw'
    rw [wp_bind] at hw'
    unfold lcStep at hw'
    rw [wp_bind] at hw'
    obtain ⟨ra, ea, hw2⟩ := hw'.get (asgT_nx _ _ _)
    refine blk_turn h0 hto Gb sm rp ea fun σ3 As3 G3 S3 ew => ⟨ew, ?_⟩
    rw [wp_bind] at hw2
    refine ⟨ra, Bb, As3, G3, hw2.imp fun bq hbq H4 B4 As4 G4 S4 => ?_⟩
    have Sx : Stp (ofL Wb) H' Bb Asb H4 B4 As4 := (S3.trans Gb S4).wide fun j w => w.elim (List.mem_append_left _) fun w => List.mem_append_right _ (List.mem_append_left _ w)
    obtain ⟨bz, rz⟩ := bq
    cases bz with
    | false =>
      simp only [Bool.false_eq_true, if_false] at hbq ⊢
      have Gf := G4.wipe vs
      rw [ew] at Gf
      have Sf := ((Sb.trans Gw Sx).wipe (vs := vs)).wide (W' := ofL Wb) fun j w => w.elim (fun w => w.elim id id) (List.mem_append_left _)
      exact ⟨hlt, accD, rz, B4, wipA As4 vs, asD, Gf, Sf, (Vb.step Gb Sx fun _ z => by cases z).wipe (al := []), by omega, hbq⟩
    | true =>
      simp only [if_true] at hbq ⊢
      rw [wp_bind] at hbq
      refine tEv.mk G4 hbq fun dy r5 H5 B5 As5 yv asy h5 G5 S5 X5 => ?_
      have Sy : Stp (ofL Wb) H' Bb Asb H5 B5 As5 := (Sx.trans Gb S5).wide fun j w => w.elim id fun w => List.mem_append_right _ (List.mem_append_right _ w)
      have S04 := (Sb.trans Gw Sx).wide (W' := ofL Wb) fun j w => w.elim id id
      have V4 := Vb.step Gb Sx fun _ z => by cases z
      have V5 := V4.step G4 S5 fun _ z => by cases z
      rw [hal] at X5
      have X6 : Val X.K H5 B5 As5 src [] (lvE lv e) dy yv asy := X5.src fun u z => (S04.src z).wide fun j w => w.elim id fun w => List.mem_append_right _ (List.mem_append_right _ w)
      have dj : ∀ u ∈ asy, u ∉ asD := fun u m m2 => by
        rcases (X5.own rfl u m).1 with z | ⟨j, _, z⟩
        · obtain ⟨o, e2, _⟩ := G4.bin u (V4.ban u m2)
          rw [z] at e2
          cases e2
        · exact (V4.own rfl u m2).2 j z
      obtain ⟨acc, cs, a1, a2, a3, a4, a5, V6⟩ := Val.push G5 V5 X6 dj
      refine ⟨acc, a1, by omega, ?_⟩
      have Gf := (G5.updP (o := .lst (acc ++ [yv])) a3 a4 rfl).wipe vs
      rw [ew] at Gf
      have Sf := (((Sb.trans Gw Sy).updP (o := .lst (acc ++ [yv])) hD).wipe (vs := vs)).wide (W' := ofL Wb) fun j w => w.elim (fun w => w.elim id id) (List.mem_append_left _)
      exact ⟨hlt, accD ++ [dy], r5, B5, wipA As5 vs, cs, Gf, Sf, V6.wipe (al := []), by rw [List.length_append]; simp; omega, h5⟩
  · have ei : i = items.length := by omega
    subst ei
    rw [List.drop_length] at hw'
    refine .inl ⟨t2 _ (Nat.le_refl _), ?_⟩
    have Gf := G1.back Gb Sb
    rw [backE_wipe] at Gf
    refine hw' H' _ ⟨Bb, _, asD, Gf, (S1.trans G Sb.back).wide fun j w => w.elim (List.mem_append_left _) (wb j), Vb.ow, Vb.nd, Vb.ban, fun _ u m => ⟨srcW u (Vb.own rfl u m).1, fun j m2 => ?_⟩, fun c => absurd rfl c⟩
    by_cases c : j ∈ vs
    · rw [if_pos c] at m2
      rcases (Vb.own rfl u m).1 with z | ⟨k, _, z⟩
      · obtain ⟨o, e2⟩ := G1.here m2
        rw [z] at e2
        cases e2
      · obtain ⟨n, z⟩ := wipA_in z
        exact G1.dj k j u (fun e => n (e ▸ c)) z m2
    · rw [if_neg c] at m2
      exact (Vb.own rfl u m).2 j m2
theorem s_lc (hc : X.calm = true) (hN : X.N.Nodup) (hi : SI X F lv Z tge ik il iter) (ok : BlkOk X.N X.env.scope scope own)
    (hg : ∀ (s : Shared) (H : Hp) (C : Addr) (cl : List (Str × Addr)) (fp : List Addr), PG (X.blk s H scope (compEnvC scope cl C X.env) fp) tge (gT X.K tg))
    (ht : ∀ (s : Shared) (H : Hp) (C : Addr) (cl : List (Str × Addr)) (fp : List Addr), SIfs (X.blk s H scope (compEnvC scope cl C X.env) fp) F lv ifs ifes)
    (he : ∀ (s : Shared) (H : Hp) (C : Addr) (cl : List (Str × Addr)) (fp : List Addr), SE (X.blk s H scope (compEnvC scope cl C X.env) fp) F lv ZF e elt) (hs : ∀ x, foldedSetIterable iter X.env x = pure x)
    (hr : (il.map (wyE lv)).all rdWy = true) (hv : (il.map (wyE lv)).all valWy = true) (h0 : ∀ i ∈ tgL tg, lv.getD i 0 = 0) (hto : ∀ i ∈ tgL tg, i ∈ own.map (·.2)) (hd : ∀ i ∈ alsW (il.map (wyE lv)), i ∉ own.map (·.2) ++ (wrL ifs ++ wrE e)) (hal : alE lv e = []) :
    SE X F lv Z (.lc e tg ik il ifs (own.map (·.2))) (.ListComp elt [⟨tge, iter, ifes, 0⟩] scope pos) :=
  pe_of (pe_lc (tt := tIfs X.K F lv ifs) (te := tEv X.K F lv ZF e) hc hN hi ok hg ht he hs) fun σ H Q h => lc_imp hr hv h0 hto hd hal h
set_option maxHeartbeats 2000000 in
theorem ss_setLc {rl fuel i : Nat} {y : Str} {py spos : Pos} (hc : X.calm = true) (hN : X.N.Nodup) (hy : X.N[i]? = some y) (hyl : X.env.scope.names.lookup y = some .local)
    (hsw : swapsWith (.ListComp elt [⟨tge, iter, ifes, 0⟩] scope pos) (some (.Name y py)) spos.line X.env = pure true) (hi : SI X F lv Z tge ik il iter) (ok : BlkOk X.N X.env.scope scope own)
    (hg : ∀ (s : Shared) (H : Hp) (C : Addr) (cl : List (Str × Addr)) (fp : List Addr), PG (X.blk s H scope (compEnvC scope cl C X.env) fp) tge (gT X.K tg))
    (ht : ∀ (s : Shared) (H : Hp) (C : Addr) (cl : List (Str × Addr)) (fp : List Addr), SIfs (X.blk s H scope (compEnvC scope cl C X.env) fp) F lv ifs ifes)
    (he : ∀ (s : Shared) (H : Hp) (C : Addr) (cl : List (Str × Addr)) (fp : List Addr), SE (X.blk s H scope (compEnvC scope cl C X.env) fp) F lv ZF e elt) (hs : ∀ x, foldedSetIterable iter X.env x = pure x)
    (hr : (il.map (wyE lv)).all rdWy = true) (hv : (il.map (wyE lv)).all valWy = true) (h0 : ∀ i ∈ tgL tg, lv.getD i 0 = 0) (hto : ∀ i ∈ tgL tg, i ∈ own.map (·.2)) (hd : ∀ i ∈ alsW (il.map (wyE lv)), i ∉ own.map (·.2) ++ (wrL ifs ++ wrE e)) (hal : alE lv e = []) (hl : lvE lv e + 1 = lv.getD i 0) :
    SS X F lv Z rl fuel (.asg (.n i) (.lc e tg ik il ifs (own.map (·.2)))) (.Assign [.Name y py] (.ListComp elt [⟨tge, iter, ifes, 0⟩] scope pos) spos) :=
by
  have base := ps_setLc (wi := tEvI X.K F lv Z ik il) (g := gT X.K tg) (own := own) (tt := tIfs X.K F lv ifs) (te := tEv X.K F lv ZF e) hc hN hy hyl hsw hi ok hg ht he hs
  refine ⟨fun pins s σ H D I h => base.run pins s σ H D I ?_⟩
  have q : tAsg (tEv X.K F lv Z (.lc e tg ik il ifs (own.map (·.2)))) (gName i) D σ H := by
    refine @asg_fin X F lv Z rl fuel (.lc e tg ik il ifs (own.map (·.2))) i σ H D (by simp only [lvE]; exact hl) (by simp only [alE]) ?_
    exact h
  have q2 : tEv X.K F lv Z (.lc e tg ik il ifs (own.map (·.2))) σ H (fun x H1 => gName i x σ H1 D.nx) := q
  have q3 := lc_imp hr hv h0 hto hd hal q2
  exact q3
theorem ifs_nil : SIfs X F lv [] [] := pts_of pts_nil fun σ H Q ⟨r, B, As, G, w⟩ => w H B As G Stp.refl
theorem ifs_one {c : E} {ec : Expr} (hc : ST X F lv ZF c ec) : SIfs X F lv [c] [ec] := by
  refine pts_of (pts_one hc) fun σ H Q ⟨r, B, As, G, w⟩ => ⟨r, B, As, G, ?_⟩
  simp only [evIfs] at w
  unfold tru2
  rw [wp_bind] at w ⊢
  refine w.imp fun x hx => ?_
  rw [wp_bind] at hx ⊢
  refine hx.imp fun z hz H' B' As' G' S' => ?_
  have ww : ∀ i, ofL (wrE c) i → ofL (wrL [c]) i := fun i w => List.mem_append_left _ w
  cases z with
  | true => exact (show ∀ H' B' As', Good X.K lv σ H' x.2 B' As' → Stp (ofL (wrL [c])) H B As H' B' As' → Q true H' from hz) H' B' As' G' (S'.wide ww)
  | false => exact (show ∀ H' B' As', Good X.K lv σ H' x.2 B' As' → Stp (ofL (wrL [c])) H B As H' B' As' → Q false H' from hz) H' B' As' G' (S'.wide ww)
end
end Pv
end
section
/-! P48: for k in a new dict. -/
namespace Pv
open PySem PySem.Spec PyProof.Rows L2
/-- a dict that is locked from here on -/
def iKeysL (td : TE) : TI := fun σ H R => td σ H fun x H1 => ∃ d, x = .ref d ∧ ((∃ kvs, H1 d = some (.dK kvs) ∧ ∀ o, R (Itk d o kvs) (upd H1 d (.frz o (.dK kvs)))) ∨ ∃ kvs, H1 d = some (.dT kvs) ∧ ∀ o, R (Itkt d o kvs) (upd H1 d (.frz o (.dT kvs))))
section
variable {X : Cx} {tg e : Expr} {td : TE}
theorem pi_keysL (he : PE X e td) : PI X tg e (iKeysL td) := by
  refine ⟨fun pins s σ H R I h => ?_⟩
  refine thn (he.run pins s σ H _ I h) fun u s1 ⟨x, H1, I1, rx, d, ex, q⟩ => ?_
  subst ex
  obtain rfl : u = Value.ref d := rx
  rcases q with ⟨kvs, hd, q⟩ | ⟨kvs, hd, q⟩
  · obtain ⟨o, I2⟩ := I1.lock hd trivial
    obtain ⟨hs, hgd, hx, es, ep, vs, hdt, hsz, kv, hm⟩ := I2.frzK upd_same
    refine iter_keys hs hgd hx hdt (pi_one (tk := s1.toks) I2 _ (turn_keys _ hdt) ⟨_, Heap.get?_push_size _ rfl, rfl, ?_⟩ (q o))
    rw [hsz] <;> rfl
  · obtain ⟨o, I2⟩ := I1.lock hd trivial
    obtain ⟨hs, hgd, hx, es, ep, hdt, hsz, ent⟩ := I2.frzT upd_same
    refine iter_keys hs hgd hx hdt (pi_one (tk := s1.toks) I2 _ (turn_keysT _ hdt) ⟨_, Heap.get?_push_size _ rfl, rfl, ?_⟩ (q o))
    rw [hsz] <;> rfl
end
theorem rpt_nil {K : Fg} {H : Hp} {no : No} {kvs : List (D × D)} {es : List (List Key × V)} (h : RpT K H no kvs es) (g : (kvs.all fun p => keyS p.1) = true) : kvs = [] ∧ es = [] := by
  cases kvs with
  | nil =>
    simp only [RpT] at h
    exact ⟨rfl, h⟩
  | cons p r =>
    obtain ⟨k, d⟩ := p
    simp only [RpT] at h
    obtain ⟨q, v, t, _, e2, _⟩ := h
    subst e2
    simp [tD, keyS] at g
section
variable {X : Cx} {F : Fns} {lv : List Nat} {Z : Str → D → Prop} {a : E} {ea tg : Expr}
/-- what nobody else holds is given up and locked -/
theorem lock_good {K : Fg} {lv : List Nat} {σ : Sg} {H H1 : Hp} {r r1 : Env} {B B1 : No} {As As1 : AsT} {W : Nat → Prop} {d : Addr} {u u2 : HO} (G : Good K lv σ H r B As) (S : Stp W H B As H1 B1 As1) (G1 : Good K lv σ H1 r1 B1 As1) (hd : H1 d = some u) (bd : B1 d) (src : Src W H As d) (out : ∀ i, d ∉ As1 i) :
    Good K lv σ (upd H1 d u2) r1 (fun a => B1 a ∧ a ≠ d) As1 ∧ Stp W H B As (upd H1 d u2) (fun a => B1 a ∧ a ≠ d) As1 := by
  have kp : Kp H1 (upd H1 d u2) B1 (fun a => B1 a ∧ a ≠ d) := ⟨fun a o e n => (upd_ne fun z => by subst z; exact n bd).trans e, fun a z => .inl z.1⟩
  refine ⟨⟨fun i x e => ?_, G1.off, G1.nd, G1.dj, fun i a m => ⟨G1.ban i a m, fun z => by subst z; exact out i m⟩, fun a z => ?_, G1.len⟩, ⟨fun a o e n => ?_, fun a z => S.ban a z.1, fun a z n => ?_, S.frm, S.same⟩⟩
  · obtain ⟨v, e2, ow⟩ := G1.slot i x e
    exact ⟨v, e2, Ow.kp kp _ x v _ (fun a o m e => (upd_ne fun z => by subst z; exact out i m).trans e) ow⟩
  · obtain ⟨o, e, l⟩ := G1.bin a z.1
    exact ⟨o, (upd_ne z.2).trans e, l⟩
  · refine (upd_ne fun z => ?_).trans (S.keep a o e n)
    subst z
    rcases src with z | ⟨i, w, m⟩
    · rw [e] at z
      cases z
    · exact n i w m
  · refine ⟨S.hold a z n, fun z2 => ?_⟩
    subst z2
    rcases src with z2 | ⟨i, w, m⟩
    · obtain ⟨o, e, _⟩ := G.bin a z
      rw [e] at z2
      cases z2
    · exact n i w m
theorem i_dict (ha : SE X F lv Z a ea) (hio : isIo a = false) (la : lvE lv a = 1) (al : alE lv a = []) : SI X F lv Z tg .dk [a] ea := by
  refine ⟨fun pins s σ H R I ⟨r, B, As, G, w⟩ => ?_⟩
  refine (pi_keysL ha).run pins s σ H R I ?_
  unfold evI at w
  simp only [evL] at w
  rw [wp_bind, wp_bind] at w
  refine tEv.mk G w fun dd r1 H1 B1 As1 v as hw G1 S1 X1 => ?_
  simp only [Out.bind_ok, wp_ok] at hw
  rw [wp_bind] at hw
  obtain ⟨items, ei, q⟩ := hw.get (itD_nx _ _)
  cases dd <;> simp only [itD] at ei <;> first | (cases ei; done) | skip
  rename_i kvs
  obtain ⟨g, ei⟩ := when_ok ei
  subst ei
  have ow := X1.ow
  rw [la] at ow
  simp only [Ow] at ow
  obtain ⟨d, bs, rfl, e2, ow⟩ := ow
  have md : d ∈ as := by rw [e2]; exact List.mem_cons_self
  obtain ⟨sd, od⟩ := X1.own al d md
  have ww : ∀ i, ofL (wrE a) i → ofL (wrL [a]) i := fun i w => List.mem_append_left _ w
  have P : ∀ {H' : Hp} {B' : No}, PdL X.K σ H' B' As1 (Src (ofL (wrL [a])) H As) ([a].map (wyE lv)) [.none] [.non] [[]] := fun {H' B'} => by
    rw [List.map_cons, wy_val hio, la, al]
    exact ⟨.none, [], .non, [], [], [], rfl, rfl, rfl, ⟨by simp [Ow, Rp], List.nodup_nil, by simp, fun _ => by simp, fun c => absurd rfl c⟩, by simp, rfl, rfl, rfl⟩
  rcases ow with ⟨es, h1, h2⟩ | ⟨es, h1, h2⟩
  · refine ⟨d, rfl, .inl ⟨es, h1, fun o => ?_⟩⟩
    obtain ⟨G2, S2⟩ := lock_good (u2 := .frz o (.dK es)) G S1 G1 h1 (X1.ban d md) sd od
    exact q _ _ _ _ _ _ _ G2 (S2.wide ww) P (.dict d o es _ upd_same (fun z => z.2 rfl) (by have := rpk_keys (OwK.zero.mp h2).2; rw [List.map_map] at this; exact this))
  · refine ⟨d, rfl, .inr ⟨es, h1, fun o => ?_⟩⟩
    obtain ⟨G2, S2⟩ := lock_good (u2 := .frz o (.dT es)) G S1 G1 h1 (X1.ban d md) sd od
    obtain ⟨rfl, rfl⟩ := rpt_nil (OwT.zero.mp h2).2 g
    exact q _ _ _ _ _ _ _ G2 (S2.wide ww) P (.dictT d o upd_same fun z => z.2 rfl)
end
end Pv
end
section
/-! P52: [.. for k in d], d a dict that a name holds: it is locked while the comprehension runs. -/
namespace Pv
open PySem PySem.Spec PyProof.Rows L2
/-- what is read in H is read in H', too -/
structure Fzr (H H' : Hp) : Prop where
  lst : ∀ a xs, Rd H a (.lst xs) → Rd H' a (.lst xs)
  dK : ∀ a es, Rd H a (.dK es) → Rd H' a (.dK es)
  dT : ∀ a es, Rd H a (.dT es) → Rd H' a (.dT es)
  tup : ∀ a xs, H a = some (.tup xs) → H' a = some (.tup xs)
section
variable {K : Fg} {H H' : Hp} {no : No}
mutual
theorem Rp.fz (k : Fzr H H') : ∀ (d : D) (v : V), Rp K H no d v → Rp K H' no d v
  | .none, _, h => h
  | .bool _, _, h => h
  | .int _, _, h => h
  | .str _, _, h => h
  | .list ds, v, h => by
    obtain ⟨a, xs, e, h1, h2⟩ := h
    exact ⟨a, xs, e, h1.elim (fun h => .inl ⟨k.lst _ _ h.1, h.2⟩) .inr, RpL.fz k ds xs h2⟩
  | .tuple ds, v, h => by
    obtain ⟨a, xs, e, h1, h2⟩ := h
    exact ⟨a, xs, e, ⟨k.tup _ _ h1.1, h1.2⟩, RpL.fz k ds xs h2⟩
  | .dict kvs, v, h => by
    obtain ⟨a, e, n, h⟩ := h
    rcases h with ⟨es, h1, h2⟩ | ⟨es, h1, h2⟩
    · exact ⟨a, e, n, .inl ⟨es, k.dK _ _ h1, RpK.fz k kvs es h2⟩⟩
    · exact ⟨a, e, n, .inr ⟨es, k.dT _ _ h1, RpT.fz k kvs es h2⟩⟩
theorem RpL.fz (k : Fzr H H') : ∀ (ds : List D) (vs : List V), RpL K H no ds vs → RpL K H' no ds vs
  | [], _, h => h
  | d :: ds, vs, h => by
    obtain ⟨v, r, e, h1, h2⟩ := h
    exact ⟨v, r, e, Rp.fz k d v h1, RpL.fz k ds r h2⟩
theorem RpK.fz (k : Fzr H H') : ∀ (ds : List (D × D)) (vs : List (Key × V)), RpK K H no ds vs → RpK K H' no ds vs
  | [], _, h => h
  | (x, d) :: ds, vs, h => by
    obtain ⟨q, v, s, e, e2, h1, h2⟩ := h
    exact ⟨q, v, s, e, e2, Rp.fz k d v h1, RpK.fz k ds s h2⟩
theorem RpT.fz (k : Fzr H H') : ∀ (ds : List (D × D)) (vs : List (List Key × V)), RpT K H no ds vs → RpT K H' no ds vs
  | [], _, h => h
  | (x, d) :: ds, vs, h => by
    obtain ⟨q, v, s, e, e2, h1, h2⟩ := h
    exact ⟨q, v, s, e, e2, Rp.fz k d v h1, RpT.fz k ds s h2⟩
end
mutual
theorem Ow.fz (k : Fzr H H') : ∀ (n : Nat) (d : D) (v : V) (as : List Addr), (∀ a o, a ∈ as → H a = some o → H' a = some o) → Ow K H no n d v as → Ow K H' no n d v as
  | 0, d, v, as, _, h => by
    unfold Ow at h ⊢
    exact ⟨h.1, Rp.fz k d v h.2⟩
  | n + 1, .list ds, v, as, q, h => by
    simp only [Ow] at h ⊢
    obtain ⟨a, xs, bs, e, h1, e2, h2⟩ := h
    subst e2
    exact ⟨a, xs, bs, e, q _ _ List.mem_cons_self h1, rfl, OwL.fz k n ds xs bs (fun a o ha => q a o (List.mem_cons_of_mem _ ha)) h2⟩
  | n + 1, .tuple ds, v, as, q, h => by
    simp only [Ow] at h ⊢
    exact ⟨h.1, Rp.fz k _ _ h.2⟩
  | n + 1, .dict kvs, v, as, q, h => by
    simp only [Ow] at h ⊢
    obtain ⟨a, bs, e, e2, h⟩ := h
    subst e2
    refine ⟨a, bs, e, rfl, ?_⟩
    rcases h with ⟨es, h1, h2⟩ | ⟨es, h1, h2⟩
    · exact .inl ⟨es, q _ _ List.mem_cons_self h1, OwK.fz k n kvs es bs (fun a o ha => q a o (List.mem_cons_of_mem _ ha)) h2⟩
    · exact .inr ⟨es, q _ _ List.mem_cons_self h1, OwT.fz k n kvs es bs (fun a o ha => q a o (List.mem_cons_of_mem _ ha)) h2⟩
  | n + 1, .none, v, as, q, h => h
  | n + 1, .bool b, v, as, q, h => h
  | n + 1, .int i, v, as, q, h => h
  | n + 1, .str x, v, as, q, h => h
theorem OwL.fz (k : Fzr H H') : ∀ (n : Nat) (ds : List D) (vs : List V) (as : List Addr), (∀ a o, a ∈ as → H a = some o → H' a = some o) → OwL K H no n ds vs as → OwL K H' no n ds vs as
  | n, [], vs, as, _, h => h
  | n, d :: ds, vs, as, q, h => by
    simp only [OwL] at h ⊢
    obtain ⟨v, r, bs, cs, e, e2, h1, h2⟩ := h
    subst e2
    exact ⟨v, r, bs, cs, e, rfl, Ow.fz k n d v bs (fun a o ha => q a o (List.mem_append_left _ ha)) h1, OwL.fz k n ds r cs (fun a o ha => q a o (List.mem_append_right _ ha)) h2⟩
theorem OwK.fz (k : Fzr H H') : ∀ (n : Nat) (ds : List (D × D)) (vs : List (Key × V)) (as : List Addr), (∀ a o, a ∈ as → H a = some o → H' a = some o) → OwK K H no n ds vs as → OwK K H' no n ds vs as
  | n, [], vs, as, _, h => h
  | n, (x, d) :: ds, vs, as, q, h => by
    simp only [OwK] at h ⊢
    obtain ⟨y, v, r, bs, cs, e, e1, e2, h1, h2⟩ := h
    subst e2
    exact ⟨y, v, r, bs, cs, e, e1, rfl, Ow.fz k n d v bs (fun a o ha => q a o (List.mem_append_left _ ha)) h1, OwK.fz k n ds r cs (fun a o ha => q a o (List.mem_append_right _ ha)) h2⟩
theorem OwT.fz (k : Fzr H H') : ∀ (n : Nat) (ds : List (D × D)) (vs : List (List Key × V)) (as : List Addr), (∀ a o, a ∈ as → H a = some o → H' a = some o) → OwT K H no n ds vs as → OwT K H' no n ds vs as
  | n, [], vs, as, _, h => h
  | n, (x, d) :: ds, vs, as, q, h => by
    simp only [OwT] at h ⊢
    obtain ⟨y, v, r, bs, cs, e, e1, e2, h1, h2⟩ := h
    subst e2
    exact ⟨y, v, r, bs, cs, e, e1, rfl, Ow.fz k n d v bs (fun a o ha => q a o (List.mem_append_left _ ha)) h1, OwT.fz k n ds r cs (fun a o ha => q a o (List.mem_append_right _ ha)) h2⟩
end
end
/-- what a dict holds -/
def DkU (u : HO) : Prop := (∃ es, u = .dK es) ∨ ∃ es, u = .dT es
theorem DkU.ne_frz {u : HO} (h : DkU u) {o : Obj} {u' : HO} (e : u = .frz o u') : False := by
  rcases h with ⟨es, rfl⟩ | ⟨es, rfl⟩ <;> cases e
theorem fz_on {H : Hp} {d : Addr} {u : HO} {od : Obj} (h : H d = some u) (hu : DkU u) : Fzr H (upd H d (.frz od u)) := by
  have g : ∀ a u', Rd H a u' → (∀ o w, u' ≠ .frz o w) → Rd (upd H d (.frz od u)) a u' := fun a u' r nf => by
    by_cases c : a = d
    · subst c
      rcases r with r | ⟨o, r⟩
      · rw [h] at r
        cases r
        exact .inr ⟨od, upd_same⟩
      · rw [h] at r
        cases r
        exact (hu.ne_frz rfl).elim
    · rcases r with r | ⟨o, r⟩
      · exact .inl ((upd_ne c).trans r)
      · exact .inr ⟨o, (upd_ne c).trans r⟩
  refine ⟨fun a xs r => g a _ r fun _ _ z => (by cases z), fun a xs r => g a _ r fun _ _ z => (by cases z), fun a xs r => g a _ r fun _ _ z => (by cases z), fun a xs r => ?_⟩
  by_cases c : a = d
  · subst c
    rw [h] at r
    cases r
    rcases hu with ⟨es, e⟩ | ⟨es, e⟩ <;> cases e
  · exact (upd_ne c).trans r
theorem fz_off {H : Hp} {d : Addr} {u : HO} {od : Obj} (h : H d = some (.frz od u)) (hu : DkU u) : Fzr H (upd H d u) := by
  have g : ∀ a u', Rd H a u' → (∀ o w, u' ≠ .frz o w) → Rd (upd H d u) a u' := fun a u' r nf => by
    by_cases c : a = d
    · subst c
      rcases r with r | ⟨o, r⟩
      · rw [h] at r
        cases r
        exact (nf _ _ rfl).elim
      · rw [h] at r
        cases r
        exact .inl upd_same
    · rcases r with r | ⟨o, r⟩
      · exact .inl ((upd_ne c).trans r)
      · exact .inr ⟨o, (upd_ne c).trans r⟩
  refine ⟨fun a xs r => g a _ r fun _ _ z => (by cases z), fun a xs r => g a _ r fun _ _ z => (by cases z), fun a xs r => g a _ r fun _ _ z => (by cases z), fun a xs r => ?_⟩
  by_cases c : a = d
  · subst c
    rw [h] at r
    cases r
  · exact (upd_ne c).trans r
theorem Good.fz {K : Fg} {lv : List Nat} {σ : Sg} {H H' : Hp} {r : Env} {B : No} {As : AsT} (G : Good K lv σ H r B As) (k : Fzr H H') (q : ∀ a o, B a → H a = some o → H' a = some o) : Good K lv σ H' r B As :=
  ⟨fun i x e => by
    obtain ⟨v, e2, ow⟩ := G.slot i x e
    exact ⟨v, e2, Ow.fz k _ x v _ (fun a o m e => q a o (G.ban i a m) e) ow⟩, G.off, G.nd, G.dj, G.ban, fun a z => by
    obtain ⟨o, e, l⟩ := G.bin a z
    exact ⟨o, q a o z e, l⟩, G.len⟩
/-- the dict that slot i holds is locked -/
def Fz (i : Nat) (σ : Sg) (H : Hp) : Prop := ∃ d o u, σ[i]? = some (some (.ref d)) ∧ H d = some (.frz o u)
section
variable {X : Cx} {F : Fns} {lv : List Nat} {Z : Str → D → Prop} {e : E} {ex : Expr}
theorem se_lock {i : Nat} (hlv : lv.getD i 0 = 0) (hd : ∀ r Q, wp (evE F e r) Q Z → ∃ kvs, r[i]? = some (some (.dict kvs))) (hf : PE X ex (fun σ H Q => Fz i σ H ∧ tEv X.K F lv Z e σ H Q)) : SE X F lv Z e ex := by
  refine ⟨fun pins s σ H Q I ⟨r, B, As, G, w⟩ => ?_⟩
  obtain ⟨kvs, er⟩ := hd r _ w
  obtain ⟨v, ev, ow⟩ := G.slot i _ er
  rw [hlv] at ow
  have hp := (Ow.zero.mp ow).2
  simp only [Rp] at hp
  obtain ⟨d, rfl, nb, hp⟩ := hp
  have hh : (∃ u, H d = some u ∧ DkU u) ∨ ∃ o u, H d = some (.frz o u) := by
    rcases hp with ⟨es, h | ⟨o, h⟩, _⟩ | ⟨es, h | ⟨o, h⟩, _⟩
    · exact .inl ⟨_, h, .inl ⟨es, rfl⟩⟩
    · exact .inr ⟨o, _, h⟩
    · exact .inl ⟨_, h, .inr ⟨es, rfl⟩⟩
    · exact .inr ⟨o, _, h⟩
  rcases hh with ⟨u, h1, hu⟩ | ⟨o, u, h1⟩
  · refine (pe_lock hf).run pins s σ H Q I ?_
    have mu : Mut (some u) := by
      rcases hu with ⟨es, rfl⟩ | ⟨es, rfl⟩ <;> trivial
    refine ⟨d, u, h1, mu, fun od => ⟨⟨d, od, u, ev, upd_same⟩, ?_⟩⟩
    have nd : ∀ a, B a → a ≠ d := fun a z e => nb (e ▸ z)
    refine ⟨r, B, As, G.fz (fz_on h1 hu) (fun a o z e => (upd_ne (nd a z)).trans e), w.imp fun p hp H' v ⟨B', As', as, G', S', V'⟩ => ?_⟩
    have hd' : H' d = some (.frz od u) := S'.keep d _ upd_same fun j _ m => nb (G.ban j d m)
    have nb' : ¬ B' d := fun z => (S'.ban d z).elim nb fun e => by rw [upd_same] at e; cases e
    have nd' : ∀ a, B' a → a ≠ d := fun a z e => nb' (e ▸ z)
    have k2 : ∀ a o, B' a → H' a = some o → upd H' d u a = some o := fun a o z e => (upd_ne (nd' a z)).trans e
    have bk : ∀ a, upd H d (.frz od u) a = none → H a = none := fun a e => by
      by_cases c : a = d
      · rw [c, upd_same] at e
        cases e
      · rw [upd_ne c] at e
        exact e
    refine ⟨hd', hp (upd H' d u) v ⟨B', As', as, G'.fz (fz_off hd' hu) k2, ⟨fun a o e n => ?_, fun a z => (S'.ban a z).imp id (bk a), S'.hold, fun j wj a m => (S'.frm j wj a m).imp id (bk a), S'.same⟩, ?_⟩⟩
    · by_cases c : a = d
      · rw [c] at e ⊢
        rw [h1] at e
        cases e
        exact upd_same
      · exact (upd_ne c).trans (S'.keep a o ((upd_ne c).trans e) n)
    · exact ⟨Ow.fz (fz_off hd' hu) _ _ _ _ (fun a o m e => k2 a o (V'.ban a m) e) V'.ow, V'.nd, V'.ban, fun al a m => ⟨(V'.own al a m).1.imp (bk a) id, (V'.own al a m).2⟩, V'.bor⟩
  · exact hf.run pins s σ H Q I ⟨⟨d, o, u, ev, h1⟩, r, B, As, G, w⟩
/-- the walk over a locked dict -/
theorem i_var {i : Nat} {x : Str} {p1 : Pos} {tg : Expr} (hlv : lv.getD i 0 = 0) (hN : X.N[i]? = some x) (hv : Vis X.env.scope x) (hd : (x == ("__debug__" : Str)) = false) (hcd : (x == ("__classdict__" : Str)) = false) :
    PI X tg (.Name x p1) (fun σ H R => Fz i σ H ∧ tEvI X.K F lv Z .dk [.v i] σ H R) := by
  refine ⟨fun pins s σ H R I ⟨⟨d, o, u, es, hd1⟩, r, B, As, G, w⟩ => ?_⟩
  refine (pi_keys (pe_var hN hv hd hcd)).run pins s σ H R I ⟨.ref d, es, ?_⟩
  unfold evI at w
  simp only [evL, evE] at w
  split at w
  · rename_i dd er
    simp only [Out.bind_ok] at w
    rw [wp_bind] at w
    obtain ⟨items, ei, q⟩ := w.get (itD_nx _ _)
    cases dd <;> simp only [itD] at ei <;> first | (cases ei; done) | skip
    rename_i kvs
    obtain ⟨g, ei⟩ := when_ok ei
    subst ei
    obtain ⟨v, ev, ow⟩ := G.slot i _ er
    rw [es] at ev
    cases ev
    rw [hlv] at ow
    have hp := (Ow.zero.mp ow).2
    simp only [Rp] at hp
    obtain ⟨d', e', nb, hp⟩ := hp
    cases e'
    have P : PdL X.K σ H B As (Src (ofL (wrL [E.v i])) H As) ([E.v i].map (wyE lv)) [.none] [.non] [[]] := by
      have e1 : wyE lv (.v i) = .val [] 0 := by
        show Wy.val (alE lv (.v i)) (lvE lv (.v i)) = _
        simp only [alE, lvE, hlv]
        rfl
      rw [List.map_cons, e1]
      exact ⟨.none, [], .non, [], [], [], rfl, rfl, rfl, ⟨by simp [Ow, Rp], List.nodup_nil, by simp, fun _ => by simp, fun c => absurd rfl c⟩, by simp, rfl, rfl, rfl⟩
    refine ⟨d, o, rfl, ?_⟩
    rcases hp with ⟨es2, h1, h2⟩ | ⟨es2, h1, h2⟩
    · have h3 : H d = some (.frz o (.dK es2)) := by
        rcases h1 with h1 | ⟨o2, h1⟩
        · rw [hd1] at h1
          cases h1
        · rw [hd1] at h1
          cases h1
          exact hd1
      exact .inl ⟨es2, h3, q H B As _ _ _ _ G Stp.refl P (.dict d o es2 _ h3 nb (by have := rpk_keys h2; rw [List.map_map] at this; exact this))⟩
    · have h3 : H d = some (.frz o (.dT es2)) := by
        rcases h1 with h1 | ⟨o2, h1⟩
        · rw [hd1] at h1
          cases h1
        · rw [hd1] at h1
          cases h1
          exact hd1
      obtain ⟨rfl, rfl⟩ := rpt_nil h2 g
      exact .inr ⟨[], h3, q H B As _ _ _ _ G Stp.refl P (.dictT d o h3 nb)⟩
  · simp only [Out.bind] at w
    exact w.elim
end
section
variable {X : Cx} {F : Fns} {lv : List Nat} {Z : Str → D → Prop} {e : E} {elt tge : Expr} {ifs : List E} {ifes : List Expr} {tg : Tg} {scope : Scope} {own : List (Str × Nat)} {pos : Pos}
theorem s_lcV {i : Nat} {x : Str} {p1 : Pos} (hlv : lv.getD i 0 = 0) (hNx : X.N[i]? = some x) (hvx : Vis X.env.scope x) (hdx : (x == ("__debug__" : Str)) = false) (hcx : (x == ("__classdict__" : Str)) = false)
    (hc : X.calm = true) (hN : X.N.Nodup) (ok : BlkOk X.N X.env.scope scope own)
    (hg : ∀ (s : Shared) (H : Hp) (C : Addr) (cl : List (Str × Addr)) (fp : List Addr), PG (X.blk s H scope (compEnvC scope cl C X.env) fp) tge (gT X.K tg))
    (ht : ∀ (s : Shared) (H : Hp) (C : Addr) (cl : List (Str × Addr)) (fp : List Addr), SIfs (X.blk s H scope (compEnvC scope cl C X.env) fp) F lv ifs ifes)
    (he : ∀ (s : Shared) (H : Hp) (C : Addr) (cl : List (Str × Addr)) (fp : List Addr), SE (X.blk s H scope (compEnvC scope cl C X.env) fp) F lv ZF e elt)
    (h0 : ∀ i ∈ tgL tg, lv.getD i 0 = 0) (hto : ∀ i ∈ tgL tg, i ∈ own.map (·.2)) (hal : alE lv e = []) :
    SE X F lv Z (.lc e tg .dk [.v i] ifs (own.map (·.2))) (.ListComp elt [⟨tge, .Name x p1, ifes, 0⟩] scope pos) := by
  have e1 : wyE lv (.v i) = .val [] 0 := by
    show Wy.val (alE lv (.v i)) (lvE lv (.v i)) = _
    simp only [alE, lvE, hlv]
    rfl
  refine se_lock hlv (fun r Q w => ?_) (pe_of (pe_lc (tt := tIfs X.K F lv ifs) (te := tEv X.K F lv ZF e) hc hN (i_var (F := F) (Z := Z) hlv hNx hvx hdx hcx) ok hg ht he (fun _ => rfl)) fun σ H Q ⟨fz, h⟩ => ⟨fz, lc_imp (by rw [List.map_cons, e1]; rfl) (by rw [List.map_cons, e1]; rfl) h0 hto (by rw [List.map_cons, e1]; simp [alsW]) hal h⟩)
  simp only [evE, evL] at w
  split at w
  · rename_i dd er
    simp only [Out.bind_ok] at w
    cases dd <;> simp only [itD] at w <;> first | exact w.elim | exact ⟨_, er⟩
  · simp only [Out.bind] at w
    exact w.elim
end
end Pv
end
section
/-! P42: name = [..], given up at once. -/
namespace Pv
open PySem PySem.Spec PyProof.Rows L2
section
variable {X : Cx} {F : Fns} {lv : List Nat} {Z : Str → D → Prop} {a : E}
theorem dn_imp {m : Nat} {σ : Sg} {H : Hp} {Q : VK} (hm : m ≤ lvE lv a) (hal : alE lv a = []) (h : tEv X.K F lv Z (.dn m a) σ H Q) : tEv X.K F lv Z a σ H Q := by
  obtain ⟨r, B, As, G, w⟩ := h
  simp only [evE] at w
  refine tEv.mk G w fun dx r1 H1 B1 As1 x asx h1 G1 S1 X1 => ?_
  obtain ⟨bs, sb, ow⟩ := Ow.down _ m dx x asx hm X1.nd X1.ow
  refine h1 H1 x ⟨Less B1 asx bs, As1, bs, G1.less fun i u m z => (X1.own hal u z).2 i m, S1.less G fun u z => (X1.own hal u z).1, ow, sb.nodup X1.nd, fun u m => ⟨X1.ban u (sb.subset m), fun _ => m⟩, fun _ u m => X1.own hal u (sb.subset m), fun c => absurd rfl c⟩
end
section
variable {X : Cx} {F : Fns} {lv : List Nat} {Z : Str → D → Prop} {pos : Pos} {elt tge iter : Expr} {ifes : List Expr} {scope : Scope} {own : List (Str × Nat)} {e : E} {tg : Tg} {ik : IK} {il ifs : List E}
set_option maxHeartbeats 2000000 in
theorem ss_setLcDn {rl fuel i m : Nat} {y : Str} {py spos : Pos} (hc : X.calm = true) (hN : X.N.Nodup) (hy : X.N[i]? = some y) (hyl : X.env.scope.names.lookup y = some .local)
    (hsw : swapsWith (.ListComp elt [⟨tge, iter, ifes, 0⟩] scope pos) (some (.Name y py)) spos.line X.env = pure true) (hi : SI X F lv Z tge ik il iter) (ok : BlkOk X.N X.env.scope scope own)
    (hg : ∀ (s : Shared) (H : Hp) (C : Addr) (cl : List (Str × Addr)) (fp : List Addr), PG (X.blk s H scope (compEnvC scope cl C X.env) fp) tge (gT X.K tg))
    (ht : ∀ (s : Shared) (H : Hp) (C : Addr) (cl : List (Str × Addr)) (fp : List Addr), SIfs (X.blk s H scope (compEnvC scope cl C X.env) fp) F lv ifs ifes)
    (he : ∀ (s : Shared) (H : Hp) (C : Addr) (cl : List (Str × Addr)) (fp : List Addr), SE (X.blk s H scope (compEnvC scope cl C X.env) fp) F lv ZF e elt) (hs : ∀ x, foldedSetIterable iter X.env x = pure x)
    (hr : (il.map (wyE lv)).all rdWy = true) (hv : (il.map (wyE lv)).all valWy = true) (h0 : ∀ i ∈ tgL tg, lv.getD i 0 = 0) (hto : ∀ i ∈ tgL tg, i ∈ own.map (·.2)) (hd : ∀ i ∈ alsW (il.map (wyE lv)), i ∉ own.map (·.2) ++ (wrL ifs ++ wrE e)) (hal : alE lv e = []) (hl : m = lv.getD i 0) (hm : m ≤ lvE lv e + 1) :
    SS X F lv Z rl fuel (.asg (.n i) (.dn m (.lc e tg ik il ifs (own.map (·.2))))) (.Assign [.Name y py] (.ListComp elt [⟨tge, iter, ifes, 0⟩] scope pos) spos) := by
  have base := ps_setLc (wi := tEvI X.K F lv Z ik il) (g := gT X.K tg) (own := own) (tt := tIfs X.K F lv ifs) (te := tEv X.K F lv ZF e) hc hN hy hyl hsw hi ok hg ht he hs
  refine ⟨fun pins s σ H D I h => base.run pins s σ H D I ?_⟩
  have q : tAsg (tEv X.K F lv Z (.dn m (.lc e tg ik il ifs (own.map (·.2))))) (gName i) D σ H := by
    refine @asg_fin X F lv Z rl fuel (.dn m (.lc e tg ik il ifs (own.map (·.2)))) i σ H D (by simp only [lvE]; exact hl) (by simp only [alE]) ?_
    exact h
  have q2 : tEv X.K F lv Z (.dn m (.lc e tg ik il ifs (own.map (·.2)))) σ H (fun x H1 => gName i x σ H1 D.nx) := q
  have q3 := lc_imp hr hv h0 hto hd hal (dn_imp (by simp only [lvE]; exact hm) (by simp only [alE]) q2)
  exact q3
end
end Pv
end
section
/-! P31: {k: v for t in it if c}. -/
namespace Pv
open PySem PySem.Spec PyProof.Rows L2
def dcStep (F : Fns) (kx vx : E) (tg : Tg) (ifs : List E) (own : List Nat) (d : D) (a : List (D × D) × Pv.Env) : Out (List (D × D) × Pv.Env) :=
  (asgT tg d (wipeE a.2 own)).bind fun r1 => (evIfs F ifs r1).bind fun b => if b.1 then
    (evE F kx b.2).bind fun y => (evE F vx y.2).bind fun z => .when (keyS y.1 && (a.1.all fun p => keyS p.1)) (storeD y.1 z.1 a.1, z.2)
  else .ok (a.1, b.2)
section
variable {X : Cx} {F : Fns} {lv : List Nat} {Z : Str → D → Prop} {pos : Pos} {kx vx : E} {kex vex tge iter : Expr} {ifs il : List E} {ifes : List Expr} {scope : Scope} {own : List (Str × Nat)} {tg : Tg} {ik : IK}
/-- the dict that grows -/
def DkAt (K : Fg) (H : Hp) (B : No) (Dp : Addr) (kvs : List (D × D)) : Prop := ∃ es, H Dp = some (.dK es) ∧ RpK K H B kvs es
theorem DkAt.step {K : Fg} {σ : Sg} {H H' : Hp} {r : Pv.Env} {B B' : No} {As As' : AsT} {W : Nat → Prop} {Dp : Addr} {kvs : List (D × D)} (x : DkAt K H B Dp kvs) (G : Good K lv σ H r B As) (S : Stp W H B As H' B' As') (hn : ∀ i, Dp ∉ As i) : DkAt K H' B' Dp kvs := by
  obtain ⟨es, h1, h2⟩ := x
  exact ⟨es, S.keep Dp _ h1 fun i _ => hn i, RpK.kp (G.kp S) _ _ h2⟩
theorem keep_not {K : Fg} {σ : Sg} {H H' : Hp} {r : Pv.Env} {B B' : No} {As As' : AsT} {W : Nat → Prop} {Dp : Addr} {o : HO} (e : H Dp = some o) (hn : ∀ i, Dp ∉ As i) (S : Stp W H B As H' B' As') : ∀ i, Dp ∉ As' i := by
  intro i m
  by_cases w : W i
  · rcases S.frm i w Dp m with ⟨j, _, m2⟩ | z
    · exact hn j m2
    · rw [e] at z
      cases z
  · rw [S.same i w] at m
    exact hn i m
theorem dc_imp {σ : Sg} {H : Hp} {Q : VK} {vs : List Nat}
    (hr : (il.map (wyE lv)).all rdWy = true) (hv : (il.map (wyE lv)).all valWy = true) (h0 : ∀ i ∈ tgL tg, lv.getD i 0 = 0) (hto : ∀ i ∈ tgL tg, i ∈ vs) (hd : ∀ i ∈ alsW (il.map (wyE lv)), i ∉ vs ++ (wrL ifs ++ (wrE kx ++ wrE vx))) (hal : alE lv vx = []) (hl0 : lvE lv vx = 0) (hkd : ∀ i ∈ alE lv kx, i ∉ wrE vx)
    (h : tEv X.K F lv Z (.dc kx vx tg ik il ifs vs) σ H Q) : tDc (tEvI X.K F lv Z ik il) (gT X.K tg) (tIfs X.K F lv ifs) (tEv X.K F lv ZF kx) (tEv X.K F lv ZF vx) vs σ H Q := by
  obtain ⟨r, B, As, G, w⟩ := h
  have w' : wp (evI F ik il r) (fun p => fits p.1.length = true ∧ wp (foldO (dcStep F kx vx tg ifs vs) p.1 ([], wipeE p.2 vs)) (fun a => ∀ H' v, Pst X.K lv (ofL (wrE (.dc kx vx tg ik il ifs vs))) [] (lvE lv vx + 1) σ H B As (.dict a.1) (backE p.2 a.2 vs) v H' → Q v H') ZF) Z := by
    simp only [evE] at w
    unfold evI
    rw [wp_bind] at w ⊢
    refine w.imp fun x hx => ?_
    rw [wp_bind] at hx ⊢
    refine hx.imp fun items hz => ?_
    rw [wp_bind] at hz
    obtain ⟨g, hz⟩ := wp_when.mp hz
    refine ⟨g, ?_⟩
    rw [wp_bind] at hz
    exact wp_noX hz
  refine ⟨r, B, As, G, w'.imp fun p hw H1 B1 As1 J ds vs' ass G1 S1 P1 IO Dp hD => ?_⟩
  obtain ⟨items, r1⟩ := p
  obtain ⟨hf, hw⟩ := hw
  have hf : items.length ≤ sizeLine := fits_le hf
  let Wb := vs ++ (wrL ifs ++ (wrE kx ++ wrE vx))
  have wb : ∀ i, i ∈ Wb → i ∈ wrE (.dc kx vx tg ik il ifs vs) := fun i m => List.mem_append_right _ m
  have hn := G1.new hD
  have Gw := G1.wipe vs
  have ew0 : wipe (wipe σ vs) vs = wipe σ vs := wipe_ext (wipe_length σ vs) fun j n => wipe_out n
  have srcW : ∀ u, Src (ofL Wb) H1 (wipA As1 vs) u → Src (ofL (wrE (.dc kx vx tg ik il ifs vs))) H As u := fun u z => by
    have z2 : Src (ofL Wb) H1 As1 u := z.imp id fun ⟨i, w, m⟩ => ⟨i, w, (wipA_in m).2⟩
    exact (S1.src z2).wide fun i w => w.elim (List.mem_append_left _) (wb i)
  have notD : ∀ i, Dp ∉ As1 i := fun i m => by
    obtain ⟨o, e⟩ := G1.here m
    rw [hD] at e
    cases e
  have hdv : ∀ i ∈ alsW (il.map (wyE lv)), i ∉ vs := fun i m m2 => hd i m (List.mem_append_left _ m2)
  have P1w := P1.wipe hv hdv (wipe σ vs)
  let In : Nat → Hp → Prop := fun i H' => i ≤ items.length ∧ ∃ acc rb Bb Asb, Good X.K lv (wipe σ vs) H' (wipeE rb vs) Bb Asb ∧ Stp (ofL Wb) H1 B1 (wipA As1 vs) H' Bb Asb ∧ DkAt X.K H' Bb Dp acc ∧ Bb Dp ∧ (∀ j, Dp ∉ Asb j) ∧ acc.length ≤ i ∧
    wp (foldO (dcStep F kx vx tg ifs vs) (items.drop i) (acc, rb)) (fun a => ∀ H' v, Pst X.K lv (ofL (wrE (.dc kx vx tg ik il ifs vs))) [] (lvE lv vx + 1) σ H B As (.dict a.1) (backE r1 a.2 vs) v H' → Q v H') ZF
  have start : In 0 (upd H1 Dp (.dK [])) := by
    have Gs : Good X.K lv (wipe σ vs) (upd H1 Dp (.dK [])) (wipeE r1 vs) (fun a => a ∈ [Dp] ∨ B1 a) (wipA As1 vs) := Gw.grow (Same.upd hD) (fun a ha => by rw [List.mem_singleton.mp ha]; exact hD) (fun a ha => ⟨.dK [], by rw [List.mem_singleton.mp ha]; exact upd_same, rfl⟩)
    have Gs2 := Gs.wipe vs
    have eA : wipA (wipA As1 vs) vs = wipA As1 vs := by
      funext j
      unfold wipA
      split <;> rfl
    rw [ew0, eA] at Gs2
    exact ⟨Nat.zero_le _, [], wipeE r1 vs, _, _, Gs2, Stp.same' (Same.upd hD) (fun a z => z.elim (fun z => .inr (by rw [List.mem_singleton.mp z]; exact hD)) .inl) (fun a z => .inr z), ⟨[], upd_same, by simp [RpK]⟩, .inl List.mem_cons_self, fun j m2 => notD j (wipA_in m2).2, Nat.le_refl _, by rw [List.drop_zero]; exact hw⟩
  refine ⟨fun i m H' => m = items.length - i ∧ In i H', ⟨items.length, by simp, start⟩, ?_⟩
  rintro i m H' ⟨rfl, hi', acc, rb, Bb, Asb, Gb, Sb, Vb, bD, nD, hl, hw'⟩
  have Pb := P1w.step Gw Sb hv hd (σ' := wipe σ vs)
  obtain ⟨t1, t2, t3⟩ := it_turn IO (Pb.rt hr) Gb.noin (fun _ _ _ => rfl) (Gw.kp Sb)
  by_cases hlt : i < items.length
  · refine .inr ⟨t1 i hlt, In (i + 1), fun H2 q => ⟨items.length - (i + 1), by omega, rfl, q⟩, fun x H3 y => ?_⟩
    have ed : items[i]? = some items[i] := List.getElem?_eq_getElem hlt
    obtain ⟨sm, rp⟩ := t3 i _ x H3 ed y
    rw [List.drop_eq_getElem_cons hlt] at hw'
    simp only [foldO_cons] at hw'
    rw [wp_bind] at hw'
    unfold dcStep at hw'
    rw [wp_bind] at hw'
    obtain ⟨ra, ea, hw2⟩ := hw'.get (asgT_nx _ _ _)
    refine blk_turn h0 hto Gb sm rp ea fun σ3 As3 G3 S3 ew => ⟨ew, ?_⟩
    rw [wp_bind] at hw2
    refine ⟨ra, Bb, As3, G3, hw2.imp fun bq hbq H4 B4 As4 G4 S4 => ?_⟩
    have Sx : Stp (ofL Wb) H' Bb Asb H4 B4 As4 := (S3.trans Gb S4).wide fun j w => w.elim (List.mem_append_left _) fun w => List.mem_append_right _ (List.mem_append_left _ w)
    obtain ⟨es0, hes0, _⟩ := id Vb
    obtain ⟨bz, rz⟩ := bq
    cases bz with
    | false =>
      simp only [Bool.false_eq_true, if_false] at hbq ⊢
      have Gf := G4.wipe vs
      rw [ew] at Gf
      have Sf := ((Sb.trans Gw Sx).wipe (vs := vs)).wide (W' := ofL Wb) fun j w => w.elim (fun w => w.elim id id) (List.mem_append_left _)
      exact ⟨hlt, acc, rz, B4, wipA As4 vs, Gf, Sf, Vb.step Gb Sx nD, Sx.hold Dp bD fun i _ => nD i, fun j m2 => keep_not (K := X.K) (σ := σ3) (r := rz) hes0 nD Sx j (wipA_in m2).2, by omega, hbq⟩
    | true =>
      simp only [if_true] at hbq ⊢
      rw [wp_bind] at hbq
      refine tEv.mk G4 hbq fun dk r5 H5 B5 As5 kv ask h5 G5 S5 X5 => ?_
      rw [wp_bind] at h5
      refine tEv.mk G5 h5 fun dy r6 H6 B6 As6 yv asy h6 G6 S6 X6 => ?_
      obtain ⟨g, q⟩ := wp_when.mp h6
      rw [Bool.and_eq_true] at g
      have hk := X5.ow.rp0
      obtain ⟨kk, ek, ekv⟩ := keyS_of g.1 hk
      have Sy : Stp (ofL Wb) H' Bb Asb H6 B6 As6 := ((Sx.trans Gb S5).trans Gb S6).wide fun j w => by
        rcases w with (w | w) | w
        · exact w
        · exact List.mem_append_right _ (List.mem_append_right _ (List.mem_append_left _ w))
        · exact List.mem_append_right _ (List.mem_append_right _ (List.mem_append_right _ w))
      obtain ⟨es, e1, e2⟩ := Vb.step Gb Sy nD
      have nD6 := keep_not (K := X.K) (σ := σ3) (r := r6) hes0 nD Sy
      have bD6 : B6 Dp := Sy.hold Dp bD fun i _ => nD i
      have ow := X6.ow
      rw [hl0] at ow
      have ry := (Ow.zero.mp ow).2
      have lk := rpk_len e2
      refine ⟨es, kk, ekv, e1, by omega, ?_⟩
      have Gf := (G6.updP (o := .dK (putK es kk yv)) bD6 nD6 rfl).wipe vs
      rw [ew] at Gf
      have Sf := (((Sb.trans Gw Sy).updP (o := .dK (putK es kk yv)) hD).wipe (vs := vs)).wide (W' := ofL Wb) fun j w => w.elim (fun w => w.elim id id) (List.mem_append_left _)
      have kpD : Kp H6 (upd H6 Dp (.dK (putK es kk yv))) B6 B6 := ⟨fun a o e n => (upd_ne fun z => by subst z; exact n bD6).trans e, fun a z => .inl z⟩
      refine ⟨hlt, storeD dk dy acc, r6, B6, wipA As6 vs, Gf, Sf, ⟨_, upd_same, ?_⟩, bD6, fun j m2 => nD6 j (wipA_in m2).2, Nat.le_trans (storeD_len _ _ _) (by omega), q⟩
      have ek : dk = kD kk := ek
      rw [ek]
      exact RpK.kp kpD _ _ (rpk_store e2 ry)
  · have ei : i = items.length := by omega
    subst ei
    rw [List.drop_length] at hw'
    refine .inl ⟨t2 _ (Nat.le_refl _), ?_⟩
    have Gf := G1.back Gb Sb
    rw [backE_wipe] at Gf
    obtain ⟨es, e1, e2⟩ := Vb
    refine hw' H' _ ⟨Bb, _, [Dp], Gf, (S1.trans G Sb.back).wide fun j w => w.elim (List.mem_append_left _) (wb j), ?_, by simp, fun u m => by rw [List.mem_singleton.mp m]; exact bD, fun _ u m => ?_, fun c => absurd rfl c⟩
    · rw [hl0]
      simp only [Ow]
      exact ⟨Dp, [], rfl, rfl, .inl ⟨es, e1, OwK.zero.mpr ⟨rfl, e2⟩⟩⟩
    · rw [List.mem_singleton.mp m]
      refine ⟨srcW Dp (.inl hD), fun j m2 => ?_⟩
      by_cases c : j ∈ vs
      · rw [if_pos c] at m2
        exact notD j m2
      · rw [if_neg c] at m2
        exact nD j m2
end
end Pv
end
section
/-! P32: {k: v for t0 in i0 if .. for t1 in i1 if ..}: the machine's two loops. -/
namespace Pv
open PySem PySem.Spec PyProof.Rows L2
section
variable {prog : Program} {w : World} {A : Around} {R : Result → Shared → Prop} {s : Shared} {kx vx t0 i0 t1 i1 : Expr} {ifs0 ifs1 : List Expr} {scope : Scope} {pos : Pos} {it : Value} {Dp : Addr} {env : PySem.Env}
/-- the whole comprehension -/
abbrev dnode (kx vx t0 i0 t1 i1 : Expr) (ifs0 ifs1 : List Expr) (scope : Scope) (pos : Pos) : Expr := .DictComp kx vx [⟨t0, i0, ifs0, 0⟩, ⟨t1, i1, ifs1, 0⟩] scope pos
theorem dturn_out (acc : Value) : compTurn (dnode kx vx t0 i0 t1 i1 ifs0 ifs1 scope pos) 0 it acc env = (do
      standAt i0.pos
      match ← pyNext it with
      | none => pure (.done .next)
      | some v =>
        letOwnedTupleGo t0 it v
        assign t0 env v
        let mut go := true
        for c in ifs0 do
          if go then go ← isTrue c env (eval c env)
        if go then
          let src ← eval i1 env
          standAt i1.pos
          let src ← foldedSetIterable i1 env src
          let _ ← runOwn (.compStart (dnode kx vx t0 i0 t1 i1 ifs0 ifs1 scope pos) 1 (← holding [src] (pyIter src)) acc env) env
        again (.compLoop (dnode kx vx t0 i0 t1 i1 ifs0 ifs1 scope pos) 0 it acc env)) := by rfl
theorem dturn_in : compTurn (dnode kx vx t0 i0 t1 i1 ifs0 ifs1 scope pos) 1 it (.ref Dp) env = (do
      standAt i1.pos
      match ← pyNext it with
      | none => pure (.done .next)
      | some v =>
        letOwnedTupleGo t1 it v
        assign t1 env v
        let mut go := true
        for c in ifs1 do
          if go then go ← isTrue c env (eval c env)
        if go then
          (do
            let kv ← eval kx env
            let vv ← holding [kv] (eval vx env)
            standAt { kx.pos with endLine := vx.pos.endLine, endCol := vx.pos.endCol }
            holding [kv, vv] (dictSet Dp kv vv))
        again (.compLoop (dnode kx vx t0 i0 t1 i1 ifs0 ifs1 scope pos) 1 it (.ref Dp) env)) := by rfl
abbrev noted (prog : Program) (w : World) (A : Around) (env : PySem.Env) (R : Result → Shared → Prop) : Value → Shared → Prop := notedBy (model prog w) A env fun e s' => R (.error e) s'
abbrev testsOf (ifs : List Expr) (env : PySem.Env) : Sem Bool := forIn ifs true fun c r => if r = true then do let ok ← isTrue c env (eval c env); pure (ForInStep.yield ok) else pure (ForInStep.yield r)
theorem dloop_out (hs : ∀ x, foldedSetIterable i1 env x = pure x) (I : Nat → Shared → Prop) (acc : Value)
    (turn : ∀ n s, I n s → wpAny (model prog w) A (pyNext it) (fun r sa => match r with
      | none => R (.ok .next) sa
      | some v => wpAny (model prog w) A (letOwnedTupleGo t0 it v) (fun _ sb => wpAny (model prog w) A (assign t0 env v) (fun _ sc => wpAny (model prog w) A (testsOf ifs0 env) (fun ok sd =>
            if ok = true then wpAny (model prog w) A (eval i1 env) (fun x se => wpAny (model prog w) A (pyIter x) (fun it1 sf =>
              codeAny (model prog w) A (.compStart (dnode kx vx t0 i0 t1 i1 ifs0 ifs1 scope pos) 1 it1 acc env) (fun r s' => match r with
                | .ok _ => ∃ m, m < n ∧ I m s'
                | .error _ => False) sf) (noted prog w A env R) se) (noted prog w A env R) sd
            else ∃ m, m < n ∧ I m sd) (noted prog w A env R) sc) (noted prog w A env R) sb) (noted prog w A env R) sa) (noted prog w A env R) s)
    (n : Nat) (h : I n s) : codeAny (model prog w) A (.compLoop (dnode kx vx t0 i0 t1 i1 ifs0 ifs1 scope pos) 0 it acc env) R s := by
  refine codeAny_loop rfl I (fun n s hI => ?_) n h
  show wpAny _ A ((compTurn (dnode kx vx t0 i0 t1 i1 ifs0 ifs1 scope pos) 0 it acc env).onRaise (fun x => do noteFrame x env; theTreesLotGoes x)) _ _ s
  refine wpAny_noted ?_
  rw [dturn_out]
  refine wpAny_bind (wpAny_standAt (wpAny_bind (wpAny_mono (turn n s hI) (fun r sa ha => ?_) fun _ _ z => z)))
  cases r with
  | none => exact wpAny_pure ha
  | some v =>
    refine wpAny_bind (wpAny_mono ha (fun _ sb hb => ?_) fun _ _ z => z)
    refine wpAny_bind (wpAny_mono hb (fun _ sc hc => wpAny_bind (wpAny_mono hc (fun ok sd hd => ?_) fun _ _ z => z)) fun _ _ z => z)
    cases ok with
    | false => exact wpAny_pure ⟨rfl, hd⟩
    | true =>
      refine wpAny_bind (wpAny_mono hd (fun x se he => ?_) fun _ _ z => z)
      refine wpAny_bind (wpAny_standAt (wpAny_bind (wpAny_of_eq (hs x) (wpAny_bind (wpAny_holding (wpAny_mono he (fun it1 sf hf => ?_) fun _ _ z => z))))))
      refine wpAny_bind (wpAny_runOwn ?_)
      rw [Around.mark_none]
      refine codeAny_mono hf fun r s' hr => ?_
      cases r with
      | ok f => first | exact wpAny_pure ⟨rfl, hr⟩ | exact wpAny_bind (wpAny_pure (wpAny_pure ⟨rfl, hr⟩))
      | error e => exact hr.elim
theorem dloop_in (I : Nat → Shared → Prop)
    (turn : ∀ n s, I n s → wpAny (model prog w) A (pyNext it) (fun r sa => match r with
      | none => R (.ok .next) sa
      | some v => wpAny (model prog w) A (letOwnedTupleGo t1 it v) (fun _ sb => wpAny (model prog w) A (assign t1 env v) (fun _ sc => wpAny (model prog w) A (testsOf ifs1 env) (fun ok sd =>
            if ok = true then wpAny (model prog w) A (eval kx env) (fun kv se => wpAny (model prog w) A (eval vx env) (fun vv sf =>
              wpAny (model prog w) A (dictSet Dp kv vv) (fun _ sg => ∃ m, m < n ∧ I m sg) (noted prog w A env R) sf) (noted prog w A env R) se) (noted prog w A env R) sd
            else ∃ m, m < n ∧ I m sd) (noted prog w A env R) sc) (noted prog w A env R) sb) (noted prog w A env R) sa) (noted prog w A env R) s)
    (n : Nat) (h : I n s) : codeAny (model prog w) A (.compLoop (dnode kx vx t0 i0 t1 i1 ifs0 ifs1 scope pos) 1 it (.ref Dp) env) R s := by
  refine codeAny_loop rfl I (fun n s hI => ?_) n h
  show wpAny _ A ((compTurn (dnode kx vx t0 i0 t1 i1 ifs0 ifs1 scope pos) 1 it (.ref Dp) env).onRaise (fun x => do noteFrame x env; theTreesLotGoes x)) _ _ s
  refine wpAny_noted ?_
  rw [dturn_in]
  refine wpAny_bind (wpAny_standAt (wpAny_bind (wpAny_mono (turn n s hI) (fun r sa ha => ?_) fun _ _ z => z)))
  cases r with
  | none => exact wpAny_pure ha
  | some v =>
    refine wpAny_bind (wpAny_mono ha (fun _ sb hb => ?_) fun _ _ z => z)
    refine wpAny_bind (wpAny_mono hb (fun _ sc hc => wpAny_bind (wpAny_mono hc (fun ok sd hd => ?_) fun _ _ z => z)) fun _ _ z => z)
    cases ok with
    | false => exact wpAny_pure ⟨rfl, hd⟩
    | true =>
      exact wpAny_bind (wpAny_bind (wpAny_mono hd (fun kv se he => wpAny_bind (wpAny_holding (wpAny_mono he (fun vv sf hf => wpAny_bind (wpAny_standAt (wpAny_holding (wpAny_mono hf (fun _ sg hg => wpAny_pure ⟨rfl, hg⟩) fun _ _ z => z)))) fun _ _ z => z))) fun _ _ z => z))
theorem dstart_in (acc : Value) (h0 : codeAny (model prog w) A (.compLoop (dnode kx vx t0 i0 t1 i1 ifs0 ifs1 scope pos) 1 it acc env) R s)
    (h : wpAny (model prog w) A (pyIter it) (fun it' s' => codeAny (model prog w) A (.compLoop (dnode kx vx t0 i0 t1 i1 ifs0 ifs1 scope pos) 1 it' acc env) R s') (noted prog w A env R) s) :
    codeAny (model prog w) A (.compStart (dnode kx vx t0 i0 t1 i1 ifs0 ifs1 scope pos) 1 it acc env) R s := by
  refine codeAny_of_tree ?_
  show wpAny _ _ ((compStart (dnode kx vx t0 i0 t1 i1 ifs0 ifs1 scope pos) 1 it acc env).onRaise (fun x => do noteFrame x env; standAt theWindowsPlace)) _ _ s
  refine wpAny_notedAt ?_
  unfold compStart
  show wpAny _ _ (ask >>= _) _ _ s
  refine wpAny_bind (wpAny_askSetting (wpAny_ite ?_))
  split
  · first | exact wpAny_bind (wpAny_pure (wpAny_pure (And.intro rfl h0))) | exact wpAny_pure (And.intro rfl h0)
  · first
      | exact wpAny_bind (wpAny_rule (wpAny_bind (wpAny_standAt (wpAny_bind (wpAny_mono h (fun it' s' z => wpAny_pure (And.intro rfl z)) fun _ _ x => x)))))
      | (refine wpAny_bind (wpAny_rule ?_); show wpAny _ _ (standAt i1.pos >>= _) _ _ s; exact wpAny_bind (wpAny_standAt (wpAny_bind (wpAny_mono h (fun it' s' z => wpAny_pure (And.intro rfl z)) fun _ _ x => x))))
end
end Pv
end
section
/-! P33: the dict comprehension of two clauses, as a rule. -/
namespace Pv
open PySem PySem.Spec PyProof.Rows L2
section
variable {X : Cx}
/-- first clause: wi, g, tt; second: wi1, g1, tt1; vs all names of the block, vs1 those of the second target -/
def tDc2 (wi : TI) (g : TG) (tt : TT) (wi1 : TI) (g1 : TG) (tt1 : TT) (tk tv : TE) (vs vs1 : List Nat) : TE := fun σ H Q => wi σ H fun J H1 => ∀ D, H1 D = none → ∃ W : Nat → Nat → Hp → Prop, (∃ m, W 0 m (upd H1 D (.dK []))) ∧ ∀ i m H, W i m H →
  (J.stop i H ∧ Q (.ref D) H) ∨ (J.go i H ∧ ∃ Nx : Hp → Prop, (∀ H', Nx H' → ∃ m', m' < m ∧ W (i + 1) m' H') ∧ ∀ x H', J.yld i H x H' → g x (wipe σ vs) H' fun σ2 H2 => wipe σ2 vs = wipe σ vs ∧ tt σ2 H2 fun b H3 =>
    if b = true then wi1 σ2 H3 fun J1 H4 => ∃ W1 : Nat → Nat → Hp → Prop, (∃ m, W1 0 m H4) ∧ ∀ j k H, W1 j k H →
      (J1.stop j H ∧ Nx H) ∨ (J1.go j H ∧ ∃ Nx1 : Hp → Prop, (∀ H', Nx1 H' → ∃ k', k' < k ∧ W1 (j + 1) k' H') ∧ ∀ x H', J1.yld j H x H' → g1 x (wipe σ2 vs1) H' fun σ3 H5 => wipe σ3 vs1 = wipe σ2 vs1 ∧ tt1 σ3 H5 fun b H6 =>
        if b = true then tk σ3 H6 fun y H7 => tv σ3 H7 fun z H8 => ∃ kvs k, y = kV k ∧ H8 D = some (.dK kvs) ∧ kvs.length < sizeLine ∧ Nx1 (upd H8 D (.dK (putK kvs k z))) else Nx1 H6)
    else Nx H3)
theorem dc2_core {pins : List (Addr × Obj)} {s : Shared} {σ : Sg} {H : Hp} {Q : VK} {kx vx tg iter tg1 iter1 : Expr} {ifs ifs1 : List Expr} {scope : Scope} {own : List (Str × Nat)} {vs1 : List Nat} {pos pos' : Pos} {wi wi1 : TI} {g g1 : TG} {tt tt1 : TT} {tk tv : TE} {use : Option (Value → Sem Unit)} {Qf : Value → Shared → Prop}
    (hc : X.calm = true) (hN : X.N.Nodup) (I : Inv X pins σ H s) (hi : PI X tg iter wi) (ok : BlkOk X.N X.env.scope scope own) (hv : ∀ i ∈ vs1, i ∈ own.map (·.2))
    (hB : ∀ (s : Shared) (H : Hp) (C : Addr) (cl : List (Str × Addr)) (fp : List Addr), PG (X.blk s H scope (compEnvC scope cl C X.env) fp) tg g ∧ PTs (X.blk s H scope (compEnvC scope cl C X.env) fp) ifs tt ∧ PI (X.blk s H scope (compEnvC scope cl C X.env) fp) tg1 iter1 wi1 ∧
      PG (X.blk s H scope (compEnvC scope cl C X.env) fp) tg1 g1 ∧ PTs (X.blk s H scope (compEnvC scope cl C X.env) fp) ifs1 tt1 ∧ PE (X.blk s H scope (compEnvC scope cl C X.env) fp) kx tk ∧ PE (X.blk s H scope (compEnvC scope cl C X.env) fp) vx tv)
    (hs : ∀ x, foldedSetIterable iter X.env x = pure x) (hs1 : ∀ env x, foldedSetIterable iter1 env x = pure x)
    (h : tDc2 wi g tt wi1 g1 tt1 tk tv (own.map (·.2)) vs1 σ H Q)
    (hRR : ∀ D C s' m H', Inv X pins σ H' s' → Q (.ref D) H' → s'.heap.Ns C m → FpOk X pins H' C → compPost (model X.prog X.w) X.A X.xe use Qf (.ref D) C (.ok .next) s') :
    wpAny (model X.prog X.w) X.A (comprehension (dnode kx vx tg iter tg1 iter1 ifs ifs1 scope pos) scope X.env pos' newDict false (eval iter X.env) use) Qf X.xe s := by
  have hfree : ∀ y ∈ scope.names, y.2 = .free → ∃ c, X.env.cells.lookup y.1 = some c := fun y hy e => (ok.free y hy e).elim (fun k => I.ok.has _ (.inl k)) fun k => I.ok.has _ (.inr k)
  refine wpAny_comprehension_free (use := use) rfl hs (closure_ok hfree) ok.kind (fun y hy e => by rw [ok.uniq y hy, e]) (thn (hi.run pins s σ H _ I h) fun xv sA hx => thn hx fun itv sB hB2 => ?_)
  obtain ⟨it, fp, tn, J, HB, e, IB, T, stB, fB, q⟩ := hB2
  subst e
  refine wpAny_newObj_type (newEnv_comp ?_)
  generalize hD : sB.heap.objs.size = Dd
  have hDn : HB Dd = none := IB.hok.fresh (Nat.le_of_eq hD)
  obtain ⟨W, ⟨m0, w0⟩, turn⟩ := q Dd hDn
  generalize hs3 : ({ sB with heap := sB.heap.push { cls := .type "dict", data := .dict #[] } } : Shared) = sC
  have IC : Inv X pins σ (upd HB Dd (.dK [])) sC := by
    rw [← hs3]
    refine IB.laid (t' := sB.toks) (fun b o e => Heap.get?_push_of_some _ e) (Nat.le_of_eq hD) ?_
    rw [← hD]
    exact dk_empty sB.heap IB.big
  have h3 : sC.heap = sB.heap.push { cls := .type "dict", data := .dict #[] } := by rw [← hs3]
  have fC : ∀ b ∈ fp, FpOk X pins (upd HB Dd (.dK [])) b ∧ b < sC.heap.objs.size := by
    intro b hb
    obtain ⟨o, e, _⟩ := T.obj _ _ stB b hb
    have hlt := Heap.lt_size e
    refine ⟨⟨?_, (fB b hb).2⟩, by rw [h3, Heap.size_push]; exact Nat.lt_succ_of_lt hlt⟩
    exact (upd_ne (by rw [← hD]; exact Nat.ne_of_lt hlt)).trans (fB b hb).1
  have stC : tn 0 sC.heap := T.keep _ _ _ stB fun b _ o e => by rw [h3]; exact Heap.get?_push_of_some _ e
  have ID := block_start IC ok hN fC
  have pAll := hB sC (upd HB Dd (.dK [])) sC.heap.objs.size (cellsFrom (sC.heap.objs.size + 1) scope.names (cloFrom X.env.cells scope.names [])) fp
  show codeAny _ _ (.compStart (dnode kx vx tg iter tg1 iter1 ifs ifs1 scope pos) 0 (.ref it) (.ref Dd) (compEnvC scope (cellsFrom (sC.heap.objs.size + 1) scope.names (cloFrom X.env.cells scope.names [])) sC.heap.objs.size X.env)) (compPost (model X.prog X.w) X.A X.xe use Qf (.ref Dd) sC.heap.objs.size) { sC with heap := pushCells (sC.heap.push { cls := .type "dict", data := .dict #[] }) scope.names }
  have nfp : ∀ b ∈ fp, (upd HB Dd (.dK [])) b = none := fun b hb => (fC b hb).1.1
  generalize hce : compEnvC scope (cellsFrom (sC.heap.objs.size + 1) scope.names (cloFrom X.env.cells scope.names [])) sC.heap.objs.size X.env = ce at ID pAll ⊢
  have cL : ce.locals = sC.heap.objs.size := by subst hce; rfl
  generalize hH3 : upd HB Dd (.dK []) = HC at IC ID pAll w0 nfp fC
  obtain ⟨pg, pt, pi1, pg1, pt1, pk, pv⟩ := pAll
  generalize hs4 : ({ sC with heap := pushCells (sC.heap.push { cls := .type "dict", data := .dict #[] }) scope.names } : Shared) = sD at ID ⊢
  have stD : tn 0 sD.heap := T.keep _ _ _ stC fun b _ o e => by rw [← hs4]; exact pushCells_keeps _ _ _ _ (Heap.get?_push_of_some _ e)
  have stat : ∀ {σ' : Sg} {H' : Hp} {s' : Shared}, Inv (X.blk sC HC scope ce fp) [] σ' H' s' → (∀ b ∈ fp, H' b = none) → ∀ b ∈ fp, FpOk (X.blk sC HC scope ce fp) [] H' b := by
    intro σ' H' s' I' hn b hb
    exact ⟨hn b hb, (I'.ok.exf b hb).1, I'.ok.exfs b hb, .inl hb, fun x c e => (I'.ok.exf b hb).2 x c e, fun p hp => absurd (show p ∈ ([] : List (Addr × Obj)) ++ [] from hp) (by simp)⟩
  let Jv : Nat → Shared → Prop := fun n s' => ∃ i H', Inv (X.blk sC HC scope ce fp) [] (wipe σ (own.map (·.2))) H' s' ∧ tn i s'.heap ∧ (∀ b ∈ fp, H' b = none) ∧ W i n H'
  have loop : codeAny (model X.prog X.w) X.A (.compLoop (dnode kx vx tg iter tg1 iter1 ifs ifs1 scope pos) 0 (.ref it) (.ref Dd) ce) (compPost (model X.prog X.w) X.A X.xe use Qf (.ref Dd) sC.heap.objs.size) sD := by
    refine dloop_out (hs1 ce) Jv (.ref Dd) ?_ m0 ⟨0, HC, ID, stD, nfp, w0⟩
    rintro n sE ⟨i, HE, IE, stE, nE, wE⟩
    rcases turn i n HE wE with ⟨stop, qq⟩ | ⟨go, Nx, hNx, step⟩
    · refine thnF (T.done (X.blk sC HC scope ce fp) rfl rfl rfl hc i [] sE _ HE (fun _ _ => False) IE (stat IE nE) stE stop) fun r sF ⟨hr, IF⟩ => ?_
      subst hr
      have IG : Inv X pins σ HE sF := IC.call' (ch := fp) IF.os IF.base IF.hok IF.bare fun b hb => ⟨(fC b hb).1.2.2.2.1, (fC b hb).1.2.1, (fC b hb).1.2.2.2.2.1, (fC b hb).1.2.2.2.2.2⟩
      have nC : HE sC.heap.objs.size = none := by
        rw [← cL]
        exact IF.free
      obtain ⟨m, hn, _⟩ := IF.loc
      have hn : sF.heap.Ns ce.locals m := hn
      rw [cL] at hn
      exact hRR Dd sC.heap.objs.size sF m HE IG qq hn (IC.fpOk (Nat.le_refl _) nC)
    · refine thnF (T.item (X.blk sC HC scope ce fp) rfl rfl rfl hc i [] sE _ HE (fun _ _ => False) IE (stat IE nE) stE go) fun r sF ⟨u, hr, hF⟩ => ?_
      subst hr
      refine thnF hF fun _ sG ⟨x, HG, IG, rG, yG, stG, nG⟩ => ?_
      refine thnF (pg.run _ sG _ HG x u _ (IG.pinned (stat IG nG) (T.obj _ _ stG)) rG (step x HG yG)) fun _ sH ⟨σH, HH, IH, hw8, q8⟩ => ?_
      refine thnF (pt.run _ sH σH HH _ IH q8) fun b sI ⟨HI, II, q9⟩ => ?_
      have fin : ∀ {σ9 : Sg} {s' : Shared} {H' : Hp}, Inv (X.blk sC HC scope ce fp) ([] ++ pinsAt fp sG.heap) σ9 H' s' → (wipe σ (own.map (·.2))).length = σ9.length → (∀ (j : Nat) v, (wipe σ (own.map (·.2)))[j]? = some (some v) → σ9[j]? = some (some v)) → Nx H' → ∃ m, m < n ∧ Jv m s' := by
        intro σ9 s' H' I' hl hk nx
        obtain ⟨m', hm, w'⟩ := hNx H' nx
        have pin' : ∀ b ∈ fp, ∀ o, sG.heap.get? b = some o → s'.heap.get? b = some o ∧ H' b = none := by
          intro b hb o e
          have z := I'.pin (b, o) (List.mem_append_right _ (List.mem_append_right _ (mem_pinsAt hb e)))
          exact ⟨z.1, z.2.1⟩
        refine ⟨m', hm, i + 1, H', (I'.unpinned (pins := [])).weak hl hk, T.keep _ _ _ stG fun b hb o e => (pin' b hb o e).1, fun b hb => ?_, w'⟩
        obtain ⟨o, e, _⟩ := T.obj _ _ stG b hb
        exact (pin' b hb o e).2
      have hl8 : (wipe σ (own.map (·.2))).length = σH.length := by rw [← hw8, wipe_length]
      have hk8 : ∀ (j : Nat) v, (wipe σ (own.map (·.2)))[j]? = some (some v) → σH[j]? = some (some v) ∧ j ∉ own.map (·.2) := by
        intro j v e
        rw [← hw8] at e
        exact wipe_some e
      have hk9 : ∀ (j : Nat) v, (wipe σ (own.map (·.2)))[j]? = some (some v) → (wipe σH vs1)[j]? = some (some v) := by
        intro j v e
        obtain ⟨e1, e2⟩ := hk8 j v e
        rw [wipe_out fun z => e2 (hv j z)]
        exact e1
      cases b with
      | false =>
        simp only [Bool.false_eq_true, if_false] at q9 ⊢
        exact fin II hl8 (fun j v e => (hk8 j v e).1) q9
      | true =>
        simp only [if_true] at q9 ⊢
        refine thnF (pi1.run _ sI σH HI _ II q9) fun xv sJ hx => thnF hx fun itv sK hK => ?_
        obtain ⟨it1, fp1, tn1, J1, HK, e1, IK', T1, stK, fK, W1, ⟨m1, w1⟩, turn1⟩ := hK
        subst e1
        have stat1 : ∀ {H' : Hp}, (∀ b ∈ fp1, H' b = none) → ∀ b ∈ fp1, FpOk (X.blk sC HC scope ce fp) ([] ++ pinsAt fp sG.heap) H' b := fun hn b hb => ⟨hn b hb, (fK b hb).2⟩
        let J2 : Nat → Shared → Prop := fun k s' => ∃ j H', Inv (X.blk sC HC scope ce fp) ([] ++ pinsAt fp sG.heap) (wipe σH vs1) H' s' ∧ tn1 j s'.heap ∧ (∀ b ∈ fp1, H' b = none) ∧ W1 j k H'
        have loop1 : codeAny (model X.prog X.w) X.A (.compLoop (dnode kx vx tg iter tg1 iter1 ifs ifs1 scope pos) 1 (.ref it1) (.ref Dd) ce)
            (fun r s' => match r with
              | .ok _ => ∃ m, m < n ∧ Jv m s'
              | .error _ => False) sK := by
          refine dloop_in J2 ?_ m1 ⟨0, HK, IK'.weak (wipe_length _ _) (fun j v e => (wipe_some e).1), stK, fun b hb => (fK b hb).1, w1⟩
          rintro k sL ⟨j, HL, IL, stL, nL, wL⟩
          rcases turn1 j k HL wL with ⟨stop1, nx1⟩ | ⟨go1, Nx1, hNx1, step1⟩
          · refine thnF (T1.done (X.blk sC HC scope ce fp) rfl rfl rfl hc j _ sL (wipe σH vs1) HL (fun _ _ => False) IL (stat1 nL) stL stop1) fun r sM ⟨hr, IM⟩ => ?_
            subst hr
            exact fin IM (hl8.trans (wipe_length σH vs1).symm) hk9 nx1
          · refine thnF (T1.item (X.blk sC HC scope ce fp) rfl rfl rfl hc j _ sL (wipe σH vs1) HL (fun _ _ => False) IL (stat1 nL) stL go1) fun r sM ⟨u1, hr, hM⟩ => ?_
            subst hr
            refine thnF hM fun _ sN ⟨x1, HN', IN, rN, yN, stN, nN⟩ => ?_
            refine thnF (pg1.run _ sN (wipe σH vs1) HN' x1 u1 _ (IN.pinned (stat1 nN) (T1.obj _ _ stN)) rN (step1 x1 HN' yN)) fun _ sO ⟨σO, HO', IO, hw15, q15⟩ => ?_
            refine thnF (pt1.run _ sO σO HO' _ IO q15) fun b1 sP ⟨HP, IP, q16⟩ => ?_
            have fin1 : ∀ {s' : Shared} {H' : Hp}, Inv (X.blk sC HC scope ce fp) (([] ++ pinsAt fp sG.heap) ++ pinsAt fp1 sN.heap) σO H' s' → Nx1 H' → ∃ m, m < k ∧ J2 m s' := by
              intro s' H' I' nx
              obtain ⟨m', hm, w'⟩ := hNx1 H' nx
              have pin' : ∀ b ∈ fp1, ∀ o, sN.heap.get? b = some o → s'.heap.get? b = some o ∧ H' b = none := by
                intro b hb o e
                have z := I'.pin (b, o) (List.mem_append_right _ (List.mem_append_right _ (mem_pinsAt hb e)))
                exact ⟨z.1, z.2.1⟩
              refine ⟨m', hm, j + 1, H', I'.unpinned.weak (by rw [← hw15, wipe_length]) (fun j v e => by rw [← hw15] at e; exact (wipe_some e).1), T1.keep _ _ _ stN fun b hb o e => (pin' b hb o e).1, fun b hb => ?_, w'⟩
              obtain ⟨o, e, _⟩ := T1.obj _ _ stN b hb
              exact (pin' b hb o e).2
            cases b1 with
            | false =>
              simp only [Bool.false_eq_true, if_false] at q16 ⊢
              exact fin1 IP q16
            | true =>
              simp only [if_true] at q16 ⊢
              refine thnF (pk.run _ sP σO HP _ IP q16) fun z sQ ⟨yk, HQ, IQ, rQ, qQ⟩ => ?_
              refine thnF (pv.run _ sQ σO HQ _ IQ qQ) fun z2 sR ⟨yv, HR, IR, rR, kvs, kk, ek, hDR, hzR, nx⟩ => ?_
              subst ek
              exact d_dictSet (X := X.blk sC HC scope ce fp) IR hDR hzR rQ rR fun sS IS => fin1 IS nx
        exact dstart_in (.ref Dd) loop1 (T1.self X.A 0 _ _ _ stK loop1)
  exact codeAny_compStart_dict loop (T.self X.A 0 _ _ _ stD loop)
theorem pe_dc2 {kx vx tg iter tg1 iter1 : Expr} {ifs ifs1 : List Expr} {scope : Scope} {own : List (Str × Nat)} {vs1 : List Nat} {pos : Pos} {wi wi1 : TI} {g g1 : TG} {tt tt1 : TT} {tk tv : TE} (hc : X.calm = true) (hN : X.N.Nodup) (hi : PI X tg iter wi) (ok : BlkOk X.N X.env.scope scope own) (hv : ∀ i ∈ vs1, i ∈ own.map (·.2))
    (hB : ∀ (s : Shared) (H : Hp) (C : Addr) (cl : List (Str × Addr)) (fp : List Addr), PG (X.blk s H scope (compEnvC scope cl C X.env) fp) tg g ∧ PTs (X.blk s H scope (compEnvC scope cl C X.env) fp) ifs tt ∧ PI (X.blk s H scope (compEnvC scope cl C X.env) fp) tg1 iter1 wi1 ∧
      PG (X.blk s H scope (compEnvC scope cl C X.env) fp) tg1 g1 ∧ PTs (X.blk s H scope (compEnvC scope cl C X.env) fp) ifs1 tt1 ∧ PE (X.blk s H scope (compEnvC scope cl C X.env) fp) kx tk ∧ PE (X.blk s H scope (compEnvC scope cl C X.env) fp) vx tv)
    (hs : ∀ x, foldedSetIterable iter X.env x = pure x) (hs1 : ∀ env x, foldedSetIterable iter1 env x = pure x) : PE X (dnode kx vx tg iter tg1 iter1 ifs ifs1 scope pos) (tDc2 wi g tt wi1 g1 tt1 tk tv (own.map (·.2)) vs1) := by
  refine ⟨fun pins s σ H Q I h => ?_⟩
  rw [arm_eval_DictComp]
  refine dc2_core hc hN I hi ok hv hB hs hs1 h fun D C s' m H' I' q hn f => ⟨m, hn, fun h'' sb => ?_⟩
  obtain ⟨a0, a1, a2, a3, a4, a5⟩ := f
  exact ⟨.ref D, H', I'.turned (t' := s'.toks) (fun b o hb e => (sb.2 b hb).trans e) a0 a1 a3 a4 a5, rfl, q⟩
end
end Pv
end
section
/-! P34: the dict comprehension of two clauses, by the evaluator. -/
namespace Pv
open PySem PySem.Spec PyProof.Rows L2
theorem wipeE_get {r : Pv.Env} {i : Nat} : ∀ {l : List Nat}, i ∈ l → i < r.length → (wipeE r l)[i]? = some none
  | v :: vs, h, hl => by
    unfold wipeE
    by_cases c : v = i
    · subst c
      exact List.getElem?_set_self (by rw [wipeE_len]; exact hl)
    · rw [List.getElem?_set_ne c]
      exact wipeE_get ((List.mem_cons.mp h).resolve_left fun z => c z.symm) hl
theorem wipeE_sub {r : Pv.Env} {vs vs1 : List Nat} (h : ∀ i ∈ vs1, i ∈ vs) : wipeE (wipeE r vs1) vs = wipeE r vs := by
  apply List.ext_getElem?
  intro j
  by_cases c : j ∈ vs
  · by_cases c2 : j < r.length
    · rw [wipeE_get c (by rw [wipeE_len]; exact c2), wipeE_get c c2]
    · rw [List.getElem?_eq_none (by rw [wipeE_len, wipeE_len]; omega), List.getElem?_eq_none (by rw [wipeE_len]; omega)]
  · rw [wipeE_out c, wipeE_out c, wipeE_out fun z => c (h j z)]
theorem wipe_sub {σ : Sg} {vs vs1 : List Nat} (h : ∀ i ∈ vs1, i ∈ vs) : wipe (wipe σ vs1) vs = wipe σ vs :=
  wipe_ext (wipe_length σ vs1) fun j n => wipe_out fun z => n (h j z)
theorem wipA_sub {As : AsT} {vs vs1 : List Nat} (h : ∀ i ∈ vs1, i ∈ vs) : wipA (wipA As vs1) vs = wipA As vs := by
  funext j
  unfold wipA
  by_cases c : j ∈ vs
  · rw [if_pos c, if_pos c]
  · rw [if_neg c, if_neg c, if_neg fun z => c (h j z)]
def d2In (F : Fns) (kx vx : E) (tg2 : Tg) (ifs2 : List E) (own2 : List Nat) (d2 : D) (a2 : List (D × D) × Pv.Env) : Out (List (D × D) × Pv.Env) :=
  (asgT tg2 d2 (wipeE a2.2 own2)).bind fun r2 => (evIfs F ifs2 r2).bind fun b2 => if b2.1 then
    (evE F kx b2.2).bind fun y => (evE F vx y.2).bind fun z => .when (keyS y.1 && (a2.1.all fun p => keyS p.1) && decide (a2.1.length < sizeLine)) (storeD y.1 z.1 a2.1, z.2)
  else .ok (a2.1, b2.2)
def d2Out (F : Fns) (kx vx : E) (tg : Tg) (ifs : List E) (tg2 : Tg) (ik2 : IK) (il2 ifs2 : List E) (own own2 : List Nat) (d : D) (a : List (D × D) × Pv.Env) : Out (List (D × D) × Pv.Env) :=
  (asgT tg d (wipeE a.2 own)).bind fun r1 => (evIfs F ifs r1).bind fun b => if b.1 then
    (evI F ik2 il2 b.2).bind fun x2 => foldO (d2In F kx vx tg2 ifs2 own2) x2.1 (a.1, x2.2)
  else .ok (a.1, b.2)
theorem bind_assoc {A B C : Type} (x : Out A) (f : A → Out B) (g : B → Out C) : (x.bind f).bind g = x.bind fun a => (f a).bind g := by cases x <;> rfl
section
variable {X : Cx} {F : Fns} {lv : List Nat} {Z : Str → D → Prop} {kx vx : E} {ifs il ifs2 il2 : List E} {tg tg2 : Tg} {ik ik2 : IK}
theorem ev_dc2 {r : Pv.Env} {own own2 : List Nat} : evE F (.dc2 kx vx tg ik il ifs tg2 ik2 il2 ifs2 own own2) r = (evI F ik il r).bind fun x =>
    (Out.noX (foldO (d2Out F kx vx tg ifs tg2 ik2 il2 ifs2 own own2) x.1 ([], wipeE x.2 own))).bind fun a => .ok (.dict a.1, backE x.2 a.2 own) := by
  simp only [evE]
  unfold evI
  rw [bind_assoc]
  congr 1
  funext x
  rw [bind_assoc]
  congr 1
  funext items
  show _ = (Out.noX (foldO (d2Out F kx vx tg ifs tg2 ik2 il2 ifs2 own own2) items ([], wipeE x.2 own))).bind _
  have : (fun d (a : List (D × D) × Pv.Env) => (asgT tg d (wipeE a.2 own)).bind fun r1 => (evIfs F ifs r1).bind fun b => if b.1 then
          (evL F il2 b.2).bind fun x2 => (itD ik2 x2.1).bind fun items2 =>
            foldO (fun d2 (a2 : List (D × D) × Pv.Env) => (asgT tg2 d2 (wipeE a2.2 own2)).bind fun r2 => (evIfs F ifs2 r2).bind fun b2 => if b2.1 then
              (evE F kx b2.2).bind fun y => (evE F vx y.2).bind fun z => .when (keyS y.1 && (a2.1.all fun p => keyS p.1) && decide (a2.1.length < sizeLine)) (storeD y.1 z.1 a2.1, z.2)
            else .ok (a2.1, b2.2)) items2 (a.1, x2.2)
        else .ok (a.1, b.2)) = d2Out F kx vx tg ifs tg2 ik2 il2 ifs2 own own2 := by
    funext d a
    unfold d2Out evI
    congr 1
    funext r1
    congr 1
    funext b
    split
    · rw [bind_assoc]
      congr 1
      funext x2
      rw [bind_assoc]
      rfl
    · rfl
  rw [this]
theorem PdL.updP {K : Fg} {σ : Sg} {H : Hp} {B src : No} {As : AsT} {a : Addr} {o : HO} (ha : B a) : ∀ {ws : List Wy} {ds : List D} {vs : List V} {ass : List (List Addr)}, PdL K σ H B As src ws ds vs ass → ws.all valWy = true → (∀ bs ∈ ass, a ∉ bs) → PdL K σ (upd H a o) B As src ws ds vs ass
  | [], ds, vs, ass, h, _, _ => h
  | .io i :: ws, ds, vs, ass, h, g, _ => by simp [valWy] at g
  | .lo al :: ws, ds, vs, ass, h, g, _ => by simp [valWy] at g
  | .val al n :: ws, ds, vs, ass, h, g, k => by
    obtain ⟨d, ds', v, vs2, as, ass', rfl, rfl, rfl, x, dj, t⟩ := h
    simp only [List.all_cons, Bool.and_eq_true] at g
    exact ⟨d, ds', v, vs2, as, ass', rfl, rfl, rfl, ⟨x.ow.updA ha (k as List.mem_cons_self), x.nd, x.ban, x.own, x.bor⟩, dj, t.updP ha g.2 fun bs hb => k bs (List.mem_cons_of_mem _ hb)⟩
theorem dc2_imp {σ : Sg} {H : Hp} {Q : VK} {vs vs1 : List Nat}
    (hr : (il.map (wyE lv)).all rdWy = true) (hv : (il.map (wyE lv)).all valWy = true) (h0 : ∀ i ∈ tgL tg, lv.getD i 0 = 0) (hto : ∀ i ∈ tgL tg, i ∈ vs) (hd : ∀ i ∈ alsW (il.map (wyE lv)), i ∉ vs ++ (wrL ifs ++ (wrL il2 ++ (wrL ifs2 ++ (wrE kx ++ wrE vx)))))
    (hr2 : (il2.map (wyE lv)).all rdWy = true) (hv2 : (il2.map (wyE lv)).all valWy = true) (h02 : ∀ i ∈ tgL tg2, lv.getD i 0 = 0) (hto2 : ∀ i ∈ tgL tg2, i ∈ vs1) (hsub : ∀ i ∈ vs1, i ∈ vs) (hd2 : ∀ i ∈ alsW (il2.map (wyE lv)), i ∉ vs1 ++ (wrL ifs2 ++ (wrE kx ++ wrE vx)))
    (hl0 : lvE lv vx = 0) (h : tEv X.K F lv Z (.dc2 kx vx tg ik il ifs tg2 ik2 il2 ifs2 vs vs1) σ H Q) :
    tDc2 (tEvI X.K F lv Z ik il) (gT X.K tg) (tIfs X.K F lv ifs) (tEvI X.K F lv ZF ik2 il2) (gT X.K tg2) (tIfs X.K F lv ifs2) (tEv X.K F lv ZF kx) (tEv X.K F lv ZF vx) vs vs1 σ H Q := by
  obtain ⟨r, B, As, G, w⟩ := h
  rw [ev_dc2, wp_bind] at w
  refine ⟨r, B, As, G, w.imp fun p hw H1 B1 As1 J ds vs' ass G1 S1 P1 IO Dp hD => ?_⟩
  obtain ⟨items, r1⟩ := p
  rw [wp_bind] at hw
  have hw := wp_noX hw
  let Wb := vs ++ (wrL ifs ++ (wrL il2 ++ (wrL ifs2 ++ (wrE kx ++ wrE vx))))
  let We : List Nat := wrE (.dc2 kx vx tg ik il ifs tg2 ik2 il2 ifs2 vs vs1)
  have wb : ∀ i, i ∈ Wb → i ∈ We := fun i m => List.mem_append_right _ m
  have wI : ∀ i, i ∈ wrL ifs → i ∈ Wb := fun i m => List.mem_append_right _ (List.mem_append_left _ m)
  have wL : ∀ i, i ∈ wrL il2 → i ∈ Wb := fun i m => List.mem_append_right _ (List.mem_append_right _ (List.mem_append_left _ m))
  have wJ : ∀ i, i ∈ wrL ifs2 ++ (wrE kx ++ wrE vx) → i ∈ Wb := fun i m => List.mem_append_right _ (List.mem_append_right _ (List.mem_append_right _ m))
  have Gw := G1.wipe vs
  have ew0 : wipe (wipe σ vs) vs = wipe σ vs := wipe_sub fun i m => m
  have srcW : ∀ u, Src (ofL Wb) H1 (wipA As1 vs) u → Src (ofL We) H As u := fun u z => by
    have z2 : Src (ofL Wb) H1 As1 u := z.imp id fun ⟨i, w, m⟩ => ⟨i, w, (wipA_in m).2⟩
    exact (S1.src z2).wide fun i w => w.elim (List.mem_append_left _) (wb i)
  have notD : ∀ i, Dp ∉ As1 i := fun i m => by
    obtain ⟨o, e⟩ := G1.here m
    rw [hD] at e
    cases e
  have hdv : ∀ i ∈ alsW (il.map (wyE lv)), i ∉ vs := fun i m m2 => hd i m (List.mem_append_left _ m2)
  have P1w := P1.wipe hv hdv (wipe σ vs)
  let Post : List (D × D) × Pv.Env → Prop := fun a => wp (.ok (.dict a.1, backE r1 a.2 vs)) (fun p => ∀ H' v, Pst X.K lv (ofL We) [] (lvE lv vx + 1) σ H B As p.1 p.2 v H' → Q v H') Z
  let In : Nat → Hp → Prop := fun i H' => i ≤ items.length ∧ ∃ acc rb Bb Asb, Good X.K lv (wipe σ vs) H' (wipeE rb vs) Bb Asb ∧ Stp (ofL Wb) H1 B1 (wipA As1 vs) H' Bb Asb ∧ DkAt X.K H' Bb Dp acc ∧ Bb Dp ∧ (∀ j, Dp ∉ Asb j) ∧
    wp (foldO (d2Out F kx vx tg ifs tg2 ik2 il2 ifs2 vs vs1) (items.drop i) (acc, rb)) Post ZF
  have start : In 0 (upd H1 Dp (.dK [])) := by
    have Gs : Good X.K lv (wipe σ vs) (upd H1 Dp (.dK [])) (wipeE r1 vs) (fun a => a ∈ [Dp] ∨ B1 a) (wipA As1 vs) := Gw.grow (Same.upd hD) (fun a ha => by rw [List.mem_singleton.mp ha]; exact hD) (fun a ha => ⟨.dK [], by rw [List.mem_singleton.mp ha]; exact upd_same, rfl⟩)
    have Gs2 := Gs.wipe vs
    rw [ew0, wipA_sub fun i m => m] at Gs2
    exact ⟨Nat.zero_le _, [], wipeE r1 vs, _, _, Gs2, Stp.same' (Same.upd hD) (fun a z => z.elim (fun z => .inr (by rw [List.mem_singleton.mp z]; exact hD)) .inl) (fun a z => .inr z), ⟨[], upd_same, by simp [RpK]⟩, .inl List.mem_cons_self, fun j m2 => notD j (wipA_in m2).2, by rw [List.drop_zero]; exact hw⟩
  refine ⟨fun i m H' => m = items.length - i ∧ In i H', ⟨items.length, by simp, start⟩, ?_⟩
  rintro i m H' ⟨rfl, hi', acc, rb, Bb, Asb, Gb, Sb, Vb, bD, nD, hw'⟩
  have Pb := P1w.step Gw Sb hv hd (σ' := wipe σ vs)
  obtain ⟨t1, t2, t3⟩ := it_turn IO (Pb.rt hr) Gb.noin (fun _ _ _ => rfl) (Gw.kp Sb)
  by_cases hlt : i < items.length
  · refine .inr ⟨t1 i hlt, In (i + 1), fun H2 q => ⟨items.length - (i + 1), by omega, rfl, q⟩, fun x H3 y => ?_⟩
    have ed : items[i]? = some items[i] := List.getElem?_eq_getElem hlt
    obtain ⟨sm, rp⟩ := t3 i _ x H3 ed y
    rw [List.drop_eq_getElem_cons hlt] at hw'
    simp only [foldO_cons] at hw'
    rw [wp_bind] at hw'
    unfold d2Out at hw'
    rw [wp_bind] at hw'
    obtain ⟨ra, ea, hw2⟩ := hw'.get (asgT_nx _ _ _)
    refine blk_turn h0 hto Gb sm rp ea fun σ3 As3 G3 S3 ew => ⟨ew, ?_⟩
    rw [wp_bind] at hw2
    refine ⟨ra, Bb, As3, G3, hw2.imp fun bq hbq H4 B4 As4 G4 S4 => ?_⟩
    have Sx : Stp (ofL Wb) H' Bb Asb H4 B4 As4 := (S3.trans Gb S4).wide fun j w => w.elim (List.mem_append_left _) (wI j)
    obtain ⟨es0, hes0, _⟩ := id Vb
    have V4 := Vb.step Gb Sx nD
    have b4 : B4 Dp := Sx.hold Dp bD fun i _ => nD i
    obtain ⟨bz, rz⟩ := bq
    have n4 := keep_not (K := X.K) (σ := σ3) (r := rz) hes0 nD Sx
    have S04 := (Sb.trans Gw Sx).wide (W' := ofL Wb) fun j w => w.elim id id
    cases bz with
    | false =>
      simp only [Bool.false_eq_true, if_false] at hbq ⊢
      have Gf := G4.wipe vs
      rw [ew] at Gf
      have Sf := (S04.wipe (vs := vs)).wide (W' := ofL Wb) fun j w => w.elim id (List.mem_append_left _)
      exact ⟨hlt, acc, rz, B4, wipA As4 vs, Gf, Sf, V4, b4, fun j m2 => n4 j (wipA_in m2).2, hbq⟩
    | true =>
      simp only [if_true] at hbq ⊢
      rw [wp_bind] at hbq
      refine ⟨rz, B4, As4, G4, hbq.imp fun p5 h5 H5 B5 As5 J1 ds5 vs5 ass5 G5 S5 P5 IO5 => ?_⟩
      obtain ⟨items2, r5⟩ := p5
      obtain ⟨es4, hes4, _⟩ := id V4
      have V5 := V4.step G4 S5 n4
      have b5 : B5 Dp := S5.hold Dp b4 fun i _ => n4 i
      have n5 := keep_not (K := X.K) (σ := σ3) (r := r5) hes4 n4 S5
      have S05 := (S04.trans Gw S5).wide (W' := ofL Wb) fun j w => w.elim id (wL j)
      have dAss : ∀ bs ∈ ass5, Dp ∉ bs := fun bs hb m => by
        rcases P5.mem bs hb Dp m with ⟨z, _⟩ | ⟨j, z⟩
        · rcases z with z | ⟨j, _, z⟩
          · rw [hes4] at z
            cases z
          · exact n4 j z
        · exact n5 j z
      have hd2v : ∀ i ∈ alsW (il2.map (wyE lv)), i ∉ vs1 := fun i m m2 => hd2 i m (List.mem_append_left _ m2)
      let W2 := vs1 ++ (wrL ifs2 ++ (wrE kx ++ wrE vx))
      have w2b : ∀ i, i ∈ W2 → i ∈ Wb := fun i m => (List.mem_append.mp m).elim (fun m => List.mem_append_left _ (hsub i m)) (wJ i)
      let I2 : Nat → Hp → Prop := fun j H' => j ≤ items2.length ∧ ∃ acc rb Bb Asb, Good X.K lv (wipe σ3 vs1) H' (wipeE rb vs1) Bb Asb ∧ Stp (ofL Wb) H1 B1 (wipA As1 vs) H' Bb Asb ∧ DkAt X.K H' Bb Dp acc ∧ Bb Dp ∧ (∀ j, Dp ∉ Asb j) ∧
        PdL X.K (wipe σ3 vs1) H' Bb Asb (Src (ofL (wrL il2)) H4 As4) (il2.map (wyE lv)) ds5 vs5 ass5 ∧ Kp H5 H' B5 Bb ∧ wp (foldO (d2In F kx vx tg2 ifs2 vs1) (items2.drop j) (acc, rb)) (fun b => wp (foldO (d2Out F kx vx tg ifs tg2 ik2 il2 ifs2 vs vs1) (items.drop (i + 1)) b) Post ZF) ZF
      have start2 : I2 0 H5 := ⟨Nat.zero_le _, acc, r5, B5, wipA As5 vs1, G5.wipe vs1, (S05.wipe (vs := vs1)).wide fun j w => w.elim id fun m => List.mem_append_left _ (hsub j m), V5, b5, fun j m2 => n5 j (wipA_in m2).2, P5.wipe hv2 hd2v _, ⟨fun _ _ e _ => e, fun _ z => .inl z⟩, by rw [List.drop_zero]; exact h5⟩
      refine ⟨fun j k H' => k = items2.length - j ∧ I2 j H', ⟨items2.length, by simp, start2⟩, ?_⟩
      rintro j k H6 ⟨rfl, hj', acc6, rb6, B6, As6, G6, S6, V6, b6, n6, P6, K6, hw6⟩
      obtain ⟨u1, u2, u3⟩ := it_turn IO5 (P6.rt hr2) G6.noin (fun _ _ _ => rfl) K6
      by_cases hlt2 : j < items2.length
      · refine .inr ⟨u1 j hlt2, I2 (j + 1), fun H2 q => ⟨items2.length - (j + 1), by omega, rfl, q⟩, fun x2 H7 y2 => ?_⟩
        have ed2 : items2[j]? = some items2[j] := List.getElem?_eq_getElem hlt2
        obtain ⟨sm2, rp2⟩ := u3 j _ x2 H7 ed2 y2
        rw [List.drop_eq_getElem_cons hlt2] at hw6
        simp only [foldO_cons] at hw6
        rw [wp_bind] at hw6
        unfold d2In at hw6
        rw [wp_bind] at hw6
        obtain ⟨ra2, ea2, hw7⟩ := hw6.get (asgT_nx _ _ _)
        refine blk_turn h02 hto2 G6 sm2 rp2 ea2 fun σ8 As8 G8 S8 ew8 => ⟨ew8, ?_⟩
        rw [wp_bind] at hw7
        refine ⟨ra2, B6, As8, G8, hw7.imp fun bq hbq H9 B9 As9 G9 S9 => ?_⟩
        have Sz : Stp (ofL W2) H6 B6 As6 H9 B9 As9 := (S8.trans G6 S9).wide fun j w => w.elim (List.mem_append_left _) fun w => List.mem_append_right _ (List.mem_append_left _ w)
        obtain ⟨es6, hes6, _⟩ := id V6
        obtain ⟨bz2, rz2⟩ := bq
        cases bz2 with
        | false =>
          simp only [Bool.false_eq_true, if_false] at hbq ⊢
          have Gf := G9.wipe vs1
          rw [ew8] at Gf
          have n9 := keep_not (K := X.K) (σ := σ8) (r := rz2) hes6 n6 Sz
          refine ⟨hlt2, acc6, rz2, B9, wipA As9 vs1, Gf, (((S6.trans Gw Sz).wipe (vs := vs1)).wide fun j w => ?_), V6.step G6 Sz n6, Sz.hold Dp b6 fun i _ => n6 i, fun j m2 => n9 j (wipA_in m2).2, (P6.step G6 Sz hv2 hd2 (σ' := wipe σ3 vs1)).wipe hv2 hd2v _, K6.trans (G6.kp Sz), hbq⟩
          rcases w with (w | w) | w
          · exact w
          · exact w2b j w
          · exact List.mem_append_left _ (hsub j w)
        | true =>
          simp only [if_true] at hbq ⊢
          rw [wp_bind] at hbq
          refine tEv.mk G9 hbq fun dk ra3 Ha Ba Asa kv ask ha Ga Sa Xa => ?_
          rw [wp_bind] at ha
          refine tEv.mk Ga ha fun dy rb3 Hb Bb3 Asb3 yv asy hb Gb3 Sb3 Xb => ?_
          obtain ⟨g, q⟩ := wp_when.mp hb
          simp only [Bool.and_eq_true, decide_eq_true_eq] at g
          have hk := Xa.ow.rp0
          obtain ⟨kk, ek, ekv⟩ := keyS_of g.1.1 hk
          have ek : dk = kD kk := ek
          have Sy : Stp (ofL W2) H6 B6 As6 Hb Bb3 Asb3 := ((Sz.trans G6 Sa).trans G6 Sb3).wide fun j w => by
            rcases w with (w | w) | w
            · exact w
            · exact List.mem_append_right _ (List.mem_append_right _ (List.mem_append_left _ w))
            · exact List.mem_append_right _ (List.mem_append_right _ (List.mem_append_right _ w))
          obtain ⟨es, e1, e2⟩ := V6.step G6 Sy n6
          have nb := keep_not (K := X.K) (σ := σ8) (r := rb3) hes6 n6 Sy
          have bb : Bb3 Dp := Sy.hold Dp b6 fun i _ => n6 i
          have ow := Xb.ow
          rw [hl0] at ow
          have ry := (Ow.zero.mp ow).2
          have lk := rpk_len e2
          have g3 : acc6.length < sizeLine := g.2
          refine ⟨es, kk, ekv, e1, by omega, ?_⟩
          have Gf := (Gb3.updP (o := .dK (putK es kk yv)) bb nb rfl).wipe vs1
          rw [ew8] at Gf
          have Sf : Stp (ofL Wb) H1 B1 (wipA As1 vs) (upd Hb Dp (.dK (putK es kk yv))) Bb3 (wipA Asb3 vs1) := (((S6.trans Gw Sy).updP (o := .dK (putK es kk yv)) hD).wipe (vs := vs1)).wide fun j w => by
            rcases w with (w | w) | w
            · exact w
            · exact w2b j w
            · exact List.mem_append_left _ (hsub j w)
          have kpD : Kp Hb (upd Hb Dp (.dK (putK es kk yv))) Bb3 Bb3 := ⟨fun a o e n => (upd_ne fun z => by subst z; exact n bb).trans e, fun a z => .inl z⟩
          refine ⟨hlt2, storeD dk dy acc6, rb3, Bb3, wipA Asb3 vs1, Gf, Sf, ⟨_, upd_same, ?_⟩, bb, fun j m2 => nb j (wipA_in m2).2, ((P6.step G6 Sy hv2 hd2 (σ' := wipe σ3 vs1)).updP bb hv2 dAss).wipe hv2 hd2v _, (K6.trans (G6.kp Sy)).trans kpD, q⟩
          rw [ek]
          exact RpK.kp kpD _ _ (rpk_store e2 ry)
      · have ej : j = items2.length := by omega
        subst ej
        rw [List.drop_length] at hw6
        refine .inl ⟨u2 _ (Nat.le_refl _), ?_⟩
        have Gf := G6.wipe vs
        rw [wipe_sub hsub, wipeE_sub hsub, ew] at Gf
        exact ⟨hlt, acc6, rb6, B6, wipA As6 vs, Gf, (S6.wipe (vs := vs)).wide fun j w => w.elim id (List.mem_append_left _), V6, b6, fun j m2 => n6 j (wipA_in m2).2, hw6⟩
  · have ei : i = items.length := by omega
    subst ei
    rw [List.drop_length] at hw'
    refine .inl ⟨t2 _ (Nat.le_refl _), ?_⟩
    have Gf := G1.back Gb Sb
    rw [backE_wipe] at Gf
    obtain ⟨es, e1, e2⟩ := Vb
    refine hw' H' _ ⟨Bb, _, [Dp], Gf, (S1.trans G Sb.back).wide fun j w => w.elim (List.mem_append_left _) (wb j), ?_, by simp, fun u m => by rw [List.mem_singleton.mp m]; exact bD, fun _ u m => ?_, fun c => absurd rfl c⟩
    · rw [hl0]
      simp only [Ow]
      exact ⟨Dp, [], rfl, rfl, .inl ⟨es, e1, OwK.zero.mpr ⟨rfl, e2⟩⟩⟩
    · rw [List.mem_singleton.mp m]
      refine ⟨srcW Dp (.inl hD), fun j m2 => ?_⟩
      by_cases c : j ∈ vs
      · rw [if_pos c] at m2
        exact notD j m2
      · rw [if_neg c] at m2
        exact nD j m2
end
end Pv
end
section
/-! P35: dict comprehensions as expressions. -/
namespace Pv
open PySem PySem.Spec PyProof.Rows L2
section
variable {X : Cx} {F : Fns} {lv : List Nat} {Z : Str → D → Prop} {pos : Pos} {kx vx : E} {kex vex tge iter tge2 iter2 : Expr} {ifs il ifs2 il2 : List E} {ifes ifes2 : List Expr} {scope : Scope} {own : List (Str × Nat)} {vs1 : List Nat} {tg tg2 : Tg} {ik ik2 : IK}
theorem s_dc (hc : X.calm = true) (hN : X.N.Nodup) (hi : SI X F lv Z tge ik il iter) (ok : BlkOk X.N X.env.scope scope own)
    (hg : ∀ (s : Shared) (H : Hp) (C : Addr) (cl : List (Str × Addr)) (fp : List Addr), PG (X.blk s H scope (compEnvC scope cl C X.env) fp) tge (gT X.K tg))
    (ht : ∀ (s : Shared) (H : Hp) (C : Addr) (cl : List (Str × Addr)) (fp : List Addr), SIfs (X.blk s H scope (compEnvC scope cl C X.env) fp) F lv ifs ifes)
    (hk : ∀ (s : Shared) (H : Hp) (C : Addr) (cl : List (Str × Addr)) (fp : List Addr), SE (X.blk s H scope (compEnvC scope cl C X.env) fp) F lv ZF kx kex)
    (he : ∀ (s : Shared) (H : Hp) (C : Addr) (cl : List (Str × Addr)) (fp : List Addr), SE (X.blk s H scope (compEnvC scope cl C X.env) fp) F lv ZF vx vex) (hs : ∀ x, foldedSetIterable iter X.env x = pure x)
    (hr : (il.map (wyE lv)).all rdWy = true) (hv : (il.map (wyE lv)).all valWy = true) (h0 : ∀ i ∈ tgL tg, lv.getD i 0 = 0) (hto : ∀ i ∈ tgL tg, i ∈ own.map (·.2)) (hd : ∀ i ∈ alsW (il.map (wyE lv)), i ∉ own.map (·.2) ++ (wrL ifs ++ (wrE kx ++ wrE vx))) (hal : alE lv vx = []) (hl0 : lvE lv vx = 0) (hkd : ∀ i ∈ alE lv kx, i ∉ wrE vx) :
    SE X F lv Z (.dc kx vx tg ik il ifs (own.map (·.2))) (.DictComp kex vex [⟨tge, iter, ifes, 0⟩] scope pos) :=
  pe_of (pe_dc (tt := tIfs X.K F lv ifs) (tk := tEv X.K F lv ZF kx) (tv := tEv X.K F lv ZF vx) hc hN hi ok hg ht hk he hs) fun σ H Q h => dc_imp hr hv h0 hto hd hal hl0 hkd h
theorem s_dc2 (hc : X.calm = true) (hN : X.N.Nodup) (hi : SI X F lv Z tge ik il iter) (ok : BlkOk X.N X.env.scope scope own)
    (hg : ∀ (s : Shared) (H : Hp) (C : Addr) (cl : List (Str × Addr)) (fp : List Addr), PG (X.blk s H scope (compEnvC scope cl C X.env) fp) tge (gT X.K tg))
    (ht : ∀ (s : Shared) (H : Hp) (C : Addr) (cl : List (Str × Addr)) (fp : List Addr), SIfs (X.blk s H scope (compEnvC scope cl C X.env) fp) F lv ifs ifes)
    (hi2 : ∀ (s : Shared) (H : Hp) (C : Addr) (cl : List (Str × Addr)) (fp : List Addr), SI (X.blk s H scope (compEnvC scope cl C X.env) fp) F lv ZF tge2 ik2 il2 iter2)
    (hg2 : ∀ (s : Shared) (H : Hp) (C : Addr) (cl : List (Str × Addr)) (fp : List Addr), PG (X.blk s H scope (compEnvC scope cl C X.env) fp) tge2 (gT X.K tg2))
    (ht2 : ∀ (s : Shared) (H : Hp) (C : Addr) (cl : List (Str × Addr)) (fp : List Addr), SIfs (X.blk s H scope (compEnvC scope cl C X.env) fp) F lv ifs2 ifes2)
    (hk : ∀ (s : Shared) (H : Hp) (C : Addr) (cl : List (Str × Addr)) (fp : List Addr), SE (X.blk s H scope (compEnvC scope cl C X.env) fp) F lv ZF kx kex)
    (he : ∀ (s : Shared) (H : Hp) (C : Addr) (cl : List (Str × Addr)) (fp : List Addr), SE (X.blk s H scope (compEnvC scope cl C X.env) fp) F lv ZF vx vex) (hs : ∀ x, foldedSetIterable iter X.env x = pure x) (hs1 : ∀ env x, foldedSetIterable iter2 env x = pure x)
    (hr : (il.map (wyE lv)).all rdWy = true) (hv : (il.map (wyE lv)).all valWy = true) (h0 : ∀ i ∈ tgL tg, lv.getD i 0 = 0) (hto : ∀ i ∈ tgL tg, i ∈ own.map (·.2)) (hd : ∀ i ∈ alsW (il.map (wyE lv)), i ∉ own.map (·.2) ++ (wrL ifs ++ (wrL il2 ++ (wrL ifs2 ++ (wrE kx ++ wrE vx)))))
    (hr2 : (il2.map (wyE lv)).all rdWy = true) (hv2 : (il2.map (wyE lv)).all valWy = true) (h02 : ∀ i ∈ tgL tg2, lv.getD i 0 = 0) (hto2 : ∀ i ∈ tgL tg2, i ∈ vs1) (hsub : ∀ i ∈ vs1, i ∈ own.map (·.2)) (hd2 : ∀ i ∈ alsW (il2.map (wyE lv)), i ∉ vs1 ++ (wrL ifs2 ++ (wrE kx ++ wrE vx)))
    (hl0 : lvE lv vx = 0) :
    SE X F lv Z (.dc2 kx vx tg ik il ifs tg2 ik2 il2 ifs2 (own.map (·.2)) vs1) (dnode kex vex tge iter tge2 iter2 ifes ifes2 scope pos) :=
  pe_of (pe_dc2 (wi := tEvI X.K F lv Z ik il) (g := gT X.K tg) (tt := tIfs X.K F lv ifs) (wi1 := tEvI X.K F lv ZF ik2 il2) (g1 := gT X.K tg2) (tt1 := tIfs X.K F lv ifs2) (tk := tEv X.K F lv ZF kx) (tv := tEv X.K F lv ZF vx) hc hN hi ok hsub (fun s H C cl fp => ⟨hg s H C cl fp, ht s H C cl fp, hi2 s H C cl fp, hg2 s H C cl fp, ht2 s H C cl fp, hk s H C cl fp, he s H C cl fp⟩) hs hs1) fun σ H Q h => dc2_imp hr hv h0 hto hd hr2 hv2 h02 hto2 hsub hd2 hl0 h
end
end Pv
end
section
/-! P49: {x for t0 in i0 if .. for t1 in i1 if ..}: the machine's two loops, and as a rule. -/
namespace Pv
open PySem PySem.Spec PyProof.Rows L2
section
variable {prog : Program} {w : World} {A : Around} {R : Result → Shared → Prop} {s : Shared} {kx t0 i0 t1 i1 : Expr} {ifs0 ifs1 : List Expr} {scope : Scope} {pos : Pos} {it : Value} {Dp : Addr} {env : PySem.Env}
/-- the whole comprehension -/
abbrev snode (kx t0 i0 t1 i1 : Expr) (ifs0 ifs1 : List Expr) (scope : Scope) (pos : Pos) : Expr := .SetComp kx [⟨t0, i0, ifs0, 0⟩, ⟨t1, i1, ifs1, 0⟩] scope pos
theorem sturn_out (acc : Value) : compTurn (snode kx t0 i0 t1 i1 ifs0 ifs1 scope pos) 0 it acc env = (do
      standAt i0.pos
      match ← pyNext it with
      | none => pure (.done .next)
      | some v =>
        letOwnedTupleGo t0 it v
        assign t0 env v
        let mut go := true
        for c in ifs0 do
          if go then go ← isTrue c env (eval c env)
        if go then
          let src ← eval i1 env
          standAt i1.pos
          let src ← foldedSetIterable i1 env src
          let _ ← runOwn (.compStart (snode kx t0 i0 t1 i1 ifs0 ifs1 scope pos) 1 (← holding [src] (pyIter src)) acc env) env
        again (.compLoop (snode kx t0 i0 t1 i1 ifs0 ifs1 scope pos) 0 it acc env)) := by rfl
theorem sturn_in : compTurn (snode kx t0 i0 t1 i1 ifs0 ifs1 scope pos) 1 it (.ref Dp) env = (do
      standAt i1.pos
      match ← pyNext it with
      | none => pure (.done .next)
      | some v =>
        letOwnedTupleGo t1 it v
        assign t1 env v
        let mut go := true
        for c in ifs1 do
          if go then go ← isTrue c env (eval c env)
        if go then
          (do let v ← eval kx env; standAt kx.pos; let _ ← call (.builtin "set.add") [.ref Dp, v])
        again (.compLoop (snode kx t0 i0 t1 i1 ifs0 ifs1 scope pos) 1 it (.ref Dp) env)) := by rfl
theorem sloop_out (hs : ∀ x, foldedSetIterable i1 env x = pure x) (I : Nat → Shared → Prop) (acc : Value)
    (turn : ∀ n s, I n s → wpAny (model prog w) A (pyNext it) (fun r sa => match r with
      | none => R (.ok .next) sa
      | some v => wpAny (model prog w) A (letOwnedTupleGo t0 it v) (fun _ sb => wpAny (model prog w) A (assign t0 env v) (fun _ sc => wpAny (model prog w) A (testsOf ifs0 env) (fun ok sd =>
            if ok = true then wpAny (model prog w) A (eval i1 env) (fun x se => wpAny (model prog w) A (pyIter x) (fun it1 sf =>
              codeAny (model prog w) A (.compStart (snode kx t0 i0 t1 i1 ifs0 ifs1 scope pos) 1 it1 acc env) (fun r s' => match r with
                | .ok _ => ∃ m, m < n ∧ I m s'
                | .error _ => False) sf) (noted prog w A env R) se) (noted prog w A env R) sd
            else ∃ m, m < n ∧ I m sd) (noted prog w A env R) sc) (noted prog w A env R) sb) (noted prog w A env R) sa) (noted prog w A env R) s)
    (n : Nat) (h : I n s) : codeAny (model prog w) A (.compLoop (snode kx t0 i0 t1 i1 ifs0 ifs1 scope pos) 0 it acc env) R s := by
  refine codeAny_loop rfl I (fun n s hI => ?_) n h
  show wpAny _ A ((compTurn (snode kx t0 i0 t1 i1 ifs0 ifs1 scope pos) 0 it acc env).onRaise (fun x => do noteFrame x env; theTreesLotGoes x)) _ _ s
  refine wpAny_noted ?_
  rw [sturn_out]
  refine wpAny_bind (wpAny_standAt (wpAny_bind (wpAny_mono (turn n s hI) (fun r sa ha => ?_) fun _ _ z => z)))
  cases r with
  | none => exact wpAny_pure ha
  | some v =>
    refine wpAny_bind (wpAny_mono ha (fun _ sb hb => ?_) fun _ _ z => z)
    refine wpAny_bind (wpAny_mono hb (fun _ sc hc => wpAny_bind (wpAny_mono hc (fun ok sd hd => ?_) fun _ _ z => z)) fun _ _ z => z)
    cases ok with
    | false => exact wpAny_pure ⟨rfl, hd⟩
    | true =>
      refine wpAny_bind (wpAny_mono hd (fun x se he => ?_) fun _ _ z => z)
      refine wpAny_bind (wpAny_standAt (wpAny_bind (wpAny_of_eq (hs x) (wpAny_bind (wpAny_holding (wpAny_mono he (fun it1 sf hf => ?_) fun _ _ z => z))))))
      refine wpAny_bind (wpAny_runOwn ?_)
      rw [Around.mark_none]
      refine codeAny_mono hf fun r s' hr => ?_
      cases r with
      | ok f => first | exact wpAny_pure ⟨rfl, hr⟩ | exact wpAny_bind (wpAny_pure (wpAny_pure ⟨rfl, hr⟩))
      | error e => exact hr.elim
theorem sloop_in (I : Nat → Shared → Prop)
    (turn : ∀ n s, I n s → wpAny (model prog w) A (pyNext it) (fun r sa => match r with
      | none => R (.ok .next) sa
      | some v => wpAny (model prog w) A (letOwnedTupleGo t1 it v) (fun _ sb => wpAny (model prog w) A (assign t1 env v) (fun _ sc => wpAny (model prog w) A (testsOf ifs1 env) (fun ok sd =>
            if ok = true then wpAny (model prog w) A (eval kx env) (fun kv se =>
              wpAny (model prog w) A (call (.builtin "set.add") [.ref Dp, kv]) (fun _ sg => ∃ m, m < n ∧ I m sg) (noted prog w A env R) se) (noted prog w A env R) sd
            else ∃ m, m < n ∧ I m sd) (noted prog w A env R) sc) (noted prog w A env R) sb) (noted prog w A env R) sa) (noted prog w A env R) s)
    (n : Nat) (h : I n s) : codeAny (model prog w) A (.compLoop (snode kx t0 i0 t1 i1 ifs0 ifs1 scope pos) 1 it (.ref Dp) env) R s := by
  refine codeAny_loop rfl I (fun n s hI => ?_) n h
  show wpAny _ A ((compTurn (snode kx t0 i0 t1 i1 ifs0 ifs1 scope pos) 1 it (.ref Dp) env).onRaise (fun x => do noteFrame x env; theTreesLotGoes x)) _ _ s
  refine wpAny_noted ?_
  rw [sturn_in]
  refine wpAny_bind (wpAny_standAt (wpAny_bind (wpAny_mono (turn n s hI) (fun r sa ha => ?_) fun _ _ z => z)))
  cases r with
  | none => exact wpAny_pure ha
  | some v =>
    refine wpAny_bind (wpAny_mono ha (fun _ sb hb => ?_) fun _ _ z => z)
    refine wpAny_bind (wpAny_mono hb (fun _ sc hc => wpAny_bind (wpAny_mono hc (fun ok sd hd => ?_) fun _ _ z => z)) fun _ _ z => z)
    cases ok with
    | false => exact wpAny_pure ⟨rfl, hd⟩
    | true =>
      exact wpAny_bind (wpAny_bind (wpAny_mono hd (fun kv se he => wpAny_bind (wpAny_standAt (wpAny_bind (wpAny_mono he (fun _ sg hg => wpAny_pure (wpAny_pure ⟨rfl, hg⟩)) fun _ _ z => z)))) fun _ _ z => z))
theorem sstart_in (acc : Value) (h0 : codeAny (model prog w) A (.compLoop (snode kx t0 i0 t1 i1 ifs0 ifs1 scope pos) 1 it acc env) R s)
    (h : wpAny (model prog w) A (pyIter it) (fun it' s' => codeAny (model prog w) A (.compLoop (snode kx t0 i0 t1 i1 ifs0 ifs1 scope pos) 1 it' acc env) R s') (noted prog w A env R) s) :
    codeAny (model prog w) A (.compStart (snode kx t0 i0 t1 i1 ifs0 ifs1 scope pos) 1 it acc env) R s := by
  refine codeAny_of_tree ?_
  show wpAny _ _ ((compStart (snode kx t0 i0 t1 i1 ifs0 ifs1 scope pos) 1 it acc env).onRaise (fun x => do noteFrame x env; standAt theWindowsPlace)) _ _ s
  refine wpAny_notedAt ?_
  unfold compStart
  show wpAny _ _ (ask >>= _) _ _ s
  refine wpAny_bind (wpAny_askSetting (wpAny_ite ?_))
  split
  · first | exact wpAny_bind (wpAny_pure (wpAny_pure (And.intro rfl h0))) | exact wpAny_pure (And.intro rfl h0)
  · first
      | exact wpAny_bind (wpAny_rule (wpAny_bind (wpAny_standAt (wpAny_bind (wpAny_mono h (fun it' s' z => wpAny_pure (And.intro rfl z)) fun _ _ x => x)))))
      | (refine wpAny_bind (wpAny_rule ?_); show wpAny _ _ (standAt i1.pos >>= _) _ _ s; exact wpAny_bind (wpAny_standAt (wpAny_bind (wpAny_mono h (fun it' s' z => wpAny_pure (And.intro rfl z)) fun _ _ x => x))))
end
section
variable {X : Cx}
/-- first clause: wi, g, tt; second: wi1, g1, tt1; vs all names of the block, vs1 those of the second target -/
def tSc2 (P : Program) (w : World) (wi : TI) (g : TG) (tt : TT) (wi1 : TI) (g1 : TG) (tt1 : TT) (tk : TE) (vs vs1 : List Nat) : TE := fun σ H Q => wi σ H fun J H1 => ∀ D, H1 D = none → ∃ W : Nat → Nat → Hp → Prop, (∃ m, W 0 m (upd H1 D (SetK P w D (fun _ => false) 0))) ∧ ∀ i m H, W i m H →
  (J.stop i H ∧ Q (.ref D) H) ∨ (J.go i H ∧ ∃ Nx : Hp → Prop, (∀ H', Nx H' → ∃ m', m' < m ∧ W (i + 1) m' H') ∧ ∀ x H', J.yld i H x H' → g x (wipe σ vs) H' fun σ2 H2 => wipe σ2 vs = wipe σ vs ∧ tt σ2 H2 fun b H3 =>
    if b = true then wi1 σ2 H3 fun J1 H4 => ∃ W1 : Nat → Nat → Hp → Prop, (∃ m, W1 0 m H4) ∧ ∀ j k H, W1 j k H →
      (J1.stop j H ∧ Nx H) ∨ (J1.go j H ∧ ∃ Nx1 : Hp → Prop, (∀ H', Nx1 H' → ∃ k', k' < k ∧ W1 (j + 1) k' H') ∧ ∀ x H', J1.yld j H x H' → g1 x (wipe σ2 vs1) H' fun σ3 H5 => wipe σ3 vs1 = wipe σ2 vs1 ∧ tt1 σ3 H5 fun b H6 =>
        if b = true then tk σ3 H6 fun y H7 => ∃ k S n, y = kV k ∧ H7 D = some (SetK P w D S n) ∧ n + 1 < scanBound ∧ Nx1 (upd H7 D (SetK P w D (fun j => S j || decide (j = k)) (if S k = true then n else n + 1))) else Nx1 H6)
    else Nx H3)
theorem sc2_core {pins : List (Addr × Obj)} {s : Shared} {σ : Sg} {H : Hp} {Q : VK} {kx tg iter tg1 iter1 : Expr} {ifs ifs1 : List Expr} {scope : Scope} {own : List (Str × Nat)} {vs1 : List Nat} {pos pos' : Pos} {wi wi1 : TI} {g g1 : TG} {tt tt1 : TT} {tk : TE} {use : Option (Value → Sem Unit)} {Qf : Value → Shared → Prop}
    (hc : X.calm = true) (hN : X.N.Nodup) (I : Inv X pins σ H s) (hi : PI X tg iter wi) (ok : BlkOk X.N X.env.scope scope own) (hv : ∀ i ∈ vs1, i ∈ own.map (·.2))
    (hB : ∀ (s : Shared) (H : Hp) (C : Addr) (cl : List (Str × Addr)) (fp : List Addr), PG (X.blk s H scope (compEnvC scope cl C X.env) fp) tg g ∧ PTs (X.blk s H scope (compEnvC scope cl C X.env) fp) ifs tt ∧ PI (X.blk s H scope (compEnvC scope cl C X.env) fp) tg1 iter1 wi1 ∧
      PG (X.blk s H scope (compEnvC scope cl C X.env) fp) tg1 g1 ∧ PTs (X.blk s H scope (compEnvC scope cl C X.env) fp) ifs1 tt1 ∧ PE (X.blk s H scope (compEnvC scope cl C X.env) fp) kx tk)
    (hs : ∀ x, foldedSetIterable iter X.env x = pure x) (hs1 : ∀ env x, foldedSetIterable iter1 env x = pure x)
    (h : tSc2 X.prog X.w wi g tt wi1 g1 tt1 tk (own.map (·.2)) vs1 σ H Q)
    (hRR : ∀ D C s' m H', Inv X pins σ H' s' → Q (.ref D) H' → s'.heap.Ns C m → FpOk X pins H' C → compPost (model X.prog X.w) X.A X.xe use Qf (.ref D) C (.ok .next) s') :
    wpAny (model X.prog X.w) X.A (comprehension (snode kx tg iter tg1 iter1 ifs ifs1 scope pos) scope X.env pos' (newSet (.type "set")) false (eval iter X.env) use) Qf X.xe s := by
  have hfree : ∀ y ∈ scope.names, y.2 = .free → ∃ c, X.env.cells.lookup y.1 = some c := fun y hy e => (ok.free y hy e).elim (fun k => I.ok.has _ (.inl k)) fun k => I.ok.has _ (.inr k)
  refine wpAny_comprehension_free (use := use) rfl hs (closure_ok hfree) ok.kind (fun y hy e => by rw [ok.uniq y hy, e]) (thn (hi.run pins s σ H _ I h) fun xv sA hx => thn hx fun itv sB hB2 => ?_)
  obtain ⟨it, fp, tn, J, HB, e, IB, T, stB, fB, q⟩ := hB2
  subst e
  refine PpSet.newSet_ok (newEnv_comp ?_)
  generalize hD : sB.heap.objs.size = Dd
  have hDn : HB Dd = none := IB.hok.fresh (Nat.le_of_eq hD)
  obtain ⟨W, ⟨m0, w0⟩, turn⟩ := q Dd hDn
  generalize hs3 : ({ sB with heap := sB.heap.push { cls := .type "set", dict := none, data := .set #[] 0 (.fresh 0 0 (!X.w.params.followText "set-order")) } } : Shared) = sC
  have IC : Inv X pins σ (upd HB Dd (SetK X.prog X.w Dd (fun _ => false) 0)) sC := by
    rw [← hs3]
    refine IB.laid (t' := sB.toks) (fun b o e => Heap.get?_push_of_some _ e) (Nat.le_of_eq hD) ?_
    rw [← hD]
    exact setK_new ⟨_, #[], 0, _, Heap.get?_push_size _ rfl, ⟨rfl, rfl, rfl⟩, rfl, (fun e he => by simp at he), (fun k => by simp), (by decide), (by rfl), rfl⟩
  have h3 : sC.heap = sB.heap.push { cls := .type "set", dict := none, data := .set #[] 0 (.fresh 0 0 (!X.w.params.followText "set-order")) } := by rw [← hs3]
  have fC : ∀ b ∈ fp, FpOk X pins (upd HB Dd (SetK X.prog X.w Dd (fun _ => false) 0)) b ∧ b < sC.heap.objs.size := by
    intro b hb
    obtain ⟨o, e, _⟩ := T.obj _ _ stB b hb
    have hlt := Heap.lt_size e
    refine ⟨⟨?_, (fB b hb).2⟩, by rw [h3, Heap.size_push]; exact Nat.lt_succ_of_lt hlt⟩
    exact (upd_ne (by rw [← hD]; exact Nat.ne_of_lt hlt)).trans (fB b hb).1
  have stC : tn 0 sC.heap := T.keep _ _ _ stB fun b _ o e => by rw [h3]; exact Heap.get?_push_of_some _ e
  have ID := block_start IC ok hN fC
  have pAll := hB sC (upd HB Dd (SetK X.prog X.w Dd (fun _ => false) 0)) sC.heap.objs.size (cellsFrom (sC.heap.objs.size + 1) scope.names (cloFrom X.env.cells scope.names [])) fp
  show codeAny _ _ (.compStart (snode kx tg iter tg1 iter1 ifs ifs1 scope pos) 0 (.ref it) (.ref Dd) (compEnvC scope (cellsFrom (sC.heap.objs.size + 1) scope.names (cloFrom X.env.cells scope.names [])) sC.heap.objs.size X.env)) (compPost (model X.prog X.w) X.A X.xe use Qf (.ref Dd) sC.heap.objs.size) { sC with heap := pushCells (sC.heap.push { cls := .type "dict", data := .dict #[] }) scope.names }
  have nfp : ∀ b ∈ fp, (upd HB Dd (SetK X.prog X.w Dd (fun _ => false) 0)) b = none := fun b hb => (fC b hb).1.1
  generalize hce : compEnvC scope (cellsFrom (sC.heap.objs.size + 1) scope.names (cloFrom X.env.cells scope.names [])) sC.heap.objs.size X.env = ce at ID pAll ⊢
  have cL : ce.locals = sC.heap.objs.size := by subst hce; rfl
  generalize hH3 : upd HB Dd (SetK X.prog X.w Dd (fun _ => false) 0) = HC at IC ID pAll w0 nfp fC
  obtain ⟨pg, pt, pi1, pg1, pt1, pk⟩ := pAll
  generalize hs4 : ({ sC with heap := pushCells (sC.heap.push { cls := .type "dict", data := .dict #[] }) scope.names } : Shared) = sD at ID ⊢
  have stD : tn 0 sD.heap := T.keep _ _ _ stC fun b _ o e => by rw [← hs4]; exact pushCells_keeps _ _ _ _ (Heap.get?_push_of_some _ e)
  have stat : ∀ {σ' : Sg} {H' : Hp} {s' : Shared}, Inv (X.blk sC HC scope ce fp) [] σ' H' s' → (∀ b ∈ fp, H' b = none) → ∀ b ∈ fp, FpOk (X.blk sC HC scope ce fp) [] H' b := by
    intro σ' H' s' I' hn b hb
    exact ⟨hn b hb, (I'.ok.exf b hb).1, I'.ok.exfs b hb, .inl hb, fun x c e => (I'.ok.exf b hb).2 x c e, fun p hp => absurd (show p ∈ ([] : List (Addr × Obj)) ++ [] from hp) (by simp)⟩
  let Jv : Nat → Shared → Prop := fun n s' => ∃ i H', Inv (X.blk sC HC scope ce fp) [] (wipe σ (own.map (·.2))) H' s' ∧ tn i s'.heap ∧ (∀ b ∈ fp, H' b = none) ∧ W i n H'
  have loop : codeAny (model X.prog X.w) X.A (.compLoop (snode kx tg iter tg1 iter1 ifs ifs1 scope pos) 0 (.ref it) (.ref Dd) ce) (compPost (model X.prog X.w) X.A X.xe use Qf (.ref Dd) sC.heap.objs.size) sD := by
    refine sloop_out (hs1 ce) Jv (.ref Dd) ?_ m0 ⟨0, HC, ID, stD, nfp, w0⟩
    rintro n sE ⟨i, HE, IE, stE, nE, wE⟩
    rcases turn i n HE wE with ⟨stop, qq⟩ | ⟨go, Nx, hNx, step⟩
    · refine thnF (T.done (X.blk sC HC scope ce fp) rfl rfl rfl hc i [] sE _ HE (fun _ _ => False) IE (stat IE nE) stE stop) fun r sF ⟨hr, IF⟩ => ?_
      subst hr
      have IG : Inv X pins σ HE sF := IC.call' (ch := fp) IF.os IF.base IF.hok IF.bare fun b hb => ⟨(fC b hb).1.2.2.2.1, (fC b hb).1.2.1, (fC b hb).1.2.2.2.2.1, (fC b hb).1.2.2.2.2.2⟩
      have nC : HE sC.heap.objs.size = none := by
        rw [← cL]
        exact IF.free
      obtain ⟨m, hn, _⟩ := IF.loc
      have hn : sF.heap.Ns ce.locals m := hn
      rw [cL] at hn
      exact hRR Dd sC.heap.objs.size sF m HE IG qq hn (IC.fpOk (Nat.le_refl _) nC)
    · refine thnF (T.item (X.blk sC HC scope ce fp) rfl rfl rfl hc i [] sE _ HE (fun _ _ => False) IE (stat IE nE) stE go) fun r sF ⟨u, hr, hF⟩ => ?_
      subst hr
      refine thnF hF fun _ sG ⟨x, HG, IG, rG, yG, stG, nG⟩ => ?_
      refine thnF (pg.run _ sG _ HG x u _ (IG.pinned (stat IG nG) (T.obj _ _ stG)) rG (step x HG yG)) fun _ sH ⟨σH, HH, IH, hw8, q8⟩ => ?_
      refine thnF (pt.run _ sH σH HH _ IH q8) fun b sI ⟨HI, II, q9⟩ => ?_
      have fin : ∀ {σ9 : Sg} {s' : Shared} {H' : Hp}, Inv (X.blk sC HC scope ce fp) ([] ++ pinsAt fp sG.heap) σ9 H' s' → (wipe σ (own.map (·.2))).length = σ9.length → (∀ (j : Nat) v, (wipe σ (own.map (·.2)))[j]? = some (some v) → σ9[j]? = some (some v)) → Nx H' → ∃ m, m < n ∧ Jv m s' := by
        intro σ9 s' H' I' hl hk nx
        obtain ⟨m', hm, w'⟩ := hNx H' nx
        have pin' : ∀ b ∈ fp, ∀ o, sG.heap.get? b = some o → s'.heap.get? b = some o ∧ H' b = none := by
          intro b hb o e
          have z := I'.pin (b, o) (List.mem_append_right _ (List.mem_append_right _ (mem_pinsAt hb e)))
          exact ⟨z.1, z.2.1⟩
        refine ⟨m', hm, i + 1, H', (I'.unpinned (pins := [])).weak hl hk, T.keep _ _ _ stG fun b hb o e => (pin' b hb o e).1, fun b hb => ?_, w'⟩
        obtain ⟨o, e, _⟩ := T.obj _ _ stG b hb
        exact (pin' b hb o e).2
      have hl8 : (wipe σ (own.map (·.2))).length = σH.length := by rw [← hw8, wipe_length]
      have hk8 : ∀ (j : Nat) v, (wipe σ (own.map (·.2)))[j]? = some (some v) → σH[j]? = some (some v) ∧ j ∉ own.map (·.2) := by
        intro j v e
        rw [← hw8] at e
        exact wipe_some e
      have hk9 : ∀ (j : Nat) v, (wipe σ (own.map (·.2)))[j]? = some (some v) → (wipe σH vs1)[j]? = some (some v) := by
        intro j v e
        obtain ⟨e1, e2⟩ := hk8 j v e
        rw [wipe_out fun z => e2 (hv j z)]
        exact e1
      cases b with
      | false =>
        simp only [Bool.false_eq_true, if_false] at q9 ⊢
        exact fin II hl8 (fun j v e => (hk8 j v e).1) q9
      | true =>
        simp only [if_true] at q9 ⊢
        refine thnF (pi1.run _ sI σH HI _ II q9) fun xv sJ hx => thnF hx fun itv sK hK => ?_
        obtain ⟨it1, fp1, tn1, J1, HK, e1, IK', T1, stK, fK, W1, ⟨m1, w1⟩, turn1⟩ := hK
        subst e1
        have stat1 : ∀ {H' : Hp}, (∀ b ∈ fp1, H' b = none) → ∀ b ∈ fp1, FpOk (X.blk sC HC scope ce fp) ([] ++ pinsAt fp sG.heap) H' b := fun hn b hb => ⟨hn b hb, (fK b hb).2⟩
        let J2 : Nat → Shared → Prop := fun k s' => ∃ j H', Inv (X.blk sC HC scope ce fp) ([] ++ pinsAt fp sG.heap) (wipe σH vs1) H' s' ∧ tn1 j s'.heap ∧ (∀ b ∈ fp1, H' b = none) ∧ W1 j k H'
        have loop1 : codeAny (model X.prog X.w) X.A (.compLoop (snode kx tg iter tg1 iter1 ifs ifs1 scope pos) 1 (.ref it1) (.ref Dd) ce)
            (fun r s' => match r with
              | .ok _ => ∃ m, m < n ∧ Jv m s'
              | .error _ => False) sK := by
          refine sloop_in J2 ?_ m1 ⟨0, HK, IK'.weak (wipe_length _ _) (fun j v e => (wipe_some e).1), stK, fun b hb => (fK b hb).1, w1⟩
          rintro k sL ⟨j, HL, IL, stL, nL, wL⟩
          rcases turn1 j k HL wL with ⟨stop1, nx1⟩ | ⟨go1, Nx1, hNx1, step1⟩
          · refine thnF (T1.done (X.blk sC HC scope ce fp) rfl rfl rfl hc j _ sL (wipe σH vs1) HL (fun _ _ => False) IL (stat1 nL) stL stop1) fun r sM ⟨hr, IM⟩ => ?_
            subst hr
            exact fin IM (hl8.trans (wipe_length σH vs1).symm) hk9 nx1
          · refine thnF (T1.item (X.blk sC HC scope ce fp) rfl rfl rfl hc j _ sL (wipe σH vs1) HL (fun _ _ => False) IL (stat1 nL) stL go1) fun r sM ⟨u1, hr, hM⟩ => ?_
            subst hr
            refine thnF hM fun _ sN ⟨x1, HN', IN, rN, yN, stN, nN⟩ => ?_
            refine thnF (pg1.run _ sN (wipe σH vs1) HN' x1 u1 _ (IN.pinned (stat1 nN) (T1.obj _ _ stN)) rN (step1 x1 HN' yN)) fun _ sO ⟨σO, HO', IO, hw15, q15⟩ => ?_
            refine thnF (pt1.run _ sO σO HO' _ IO q15) fun b1 sP ⟨HP, IP, q16⟩ => ?_
            have fin1 : ∀ {s' : Shared} {H' : Hp}, Inv (X.blk sC HC scope ce fp) (([] ++ pinsAt fp sG.heap) ++ pinsAt fp1 sN.heap) σO H' s' → Nx1 H' → ∃ m, m < k ∧ J2 m s' := by
              intro s' H' I' nx
              obtain ⟨m', hm, w'⟩ := hNx1 H' nx
              have pin' : ∀ b ∈ fp1, ∀ o, sN.heap.get? b = some o → s'.heap.get? b = some o ∧ H' b = none := by
                intro b hb o e
                have z := I'.pin (b, o) (List.mem_append_right _ (List.mem_append_right _ (mem_pinsAt hb e)))
                exact ⟨z.1, z.2.1⟩
              refine ⟨m', hm, j + 1, H', I'.unpinned.weak (by rw [← hw15, wipe_length]) (fun j v e => by rw [← hw15] at e; exact (wipe_some e).1), T1.keep _ _ _ stN fun b hb o e => (pin' b hb o e).1, fun b hb => ?_, w'⟩
              obtain ⟨o, e, _⟩ := T1.obj _ _ stN b hb
              exact (pin' b hb o e).2
            cases b1 with
            | false =>
              simp only [Bool.false_eq_true, if_false] at q16 ⊢
              exact fin1 IP q16
            | true =>
              simp only [if_true] at q16 ⊢
              refine thnF (pk.run _ sP σO HP _ IP q16) fun z sQ ⟨yk, HQ, IQ, rQ, kk, S0, n0, ek, hDR, hzR, nx⟩ => ?_
              subst ek
              refine call_set_add (kV_is rQ) (key_scan rQ) (setK_get (X := X.blk sC HC scope ce fp) IQ hDR) hzR fun h' sb new => ?_
              have he : ∃ u, h'.get? Dd = some u := by
                have ⟨o, _, _, _, ho, _⟩ := new
                exact ⟨o, ho⟩
              exact fin1 (IQ.write (e := Dd) (t' := sQ.toks + 1) (by rw [hDR]; trivial) (.inl rfl) (fun b u hb hu => (sb.2 b hb).trans hu) he (setK_new new)) nx
        exact sstart_in (.ref Dd) loop1 (T1.self X.A 0 _ _ _ stK loop1)
  exact PpSet.codeAny_compStart_set loop (T.self X.A 0 _ _ _ stD loop)
theorem pe_sc2 {kx tg iter tg1 iter1 : Expr} {ifs ifs1 : List Expr} {scope : Scope} {own : List (Str × Nat)} {vs1 : List Nat} {pos : Pos} {wi wi1 : TI} {g g1 : TG} {tt tt1 : TT} {tk : TE} (hc : X.calm = true) (hN : X.N.Nodup) (hi : PI X tg iter wi) (ok : BlkOk X.N X.env.scope scope own) (hv : ∀ i ∈ vs1, i ∈ own.map (·.2))
    (hB : ∀ (s : Shared) (H : Hp) (C : Addr) (cl : List (Str × Addr)) (fp : List Addr), PG (X.blk s H scope (compEnvC scope cl C X.env) fp) tg g ∧ PTs (X.blk s H scope (compEnvC scope cl C X.env) fp) ifs tt ∧ PI (X.blk s H scope (compEnvC scope cl C X.env) fp) tg1 iter1 wi1 ∧
      PG (X.blk s H scope (compEnvC scope cl C X.env) fp) tg1 g1 ∧ PTs (X.blk s H scope (compEnvC scope cl C X.env) fp) ifs1 tt1 ∧ PE (X.blk s H scope (compEnvC scope cl C X.env) fp) kx tk)
    (hs : ∀ x, foldedSetIterable iter X.env x = pure x) (hs1 : ∀ env x, foldedSetIterable iter1 env x = pure x) : PE X (snode kx tg iter tg1 iter1 ifs ifs1 scope pos) (tSc2 X.prog X.w wi g tt wi1 g1 tt1 tk (own.map (·.2)) vs1) := by
  refine ⟨fun pins s σ H Q I h => ?_⟩
  rw [PpSet.eval_SetComp]
  refine sc2_core hc hN I hi ok hv hB hs hs1 h fun D C s' m H' I' q hn f => ⟨m, hn, fun h'' sb => ?_⟩
  obtain ⟨a0, a1, a2, a3, a4, a5⟩ := f
  exact ⟨.ref D, H', I'.turned (t' := s'.toks) (fun b o hb e => (sb.2 b hb).trans e) a0 a1 a3 a4 a5, rfl, q⟩
end
end Pv
end
section
/-! P50: len({x for .. for ..}). -/
namespace Pv
open PySem PySem.Spec PyProof.Rows L2
theorem onceK_len : ∀ (ks acc : List Key), (ks.foldl (fun a x => if decide (x ∈ a) then a else a ++ [x]) acc).length ≤ acc.length + ks.length
  | [], acc => by simp
  | k :: ks, acc => by
    simp only [List.foldl_cons, List.length_cons]
    split
    · have := onceK_len ks acc
      omega
    · have := onceK_len ks (acc ++ [k])
      rw [List.length_append] at this
      simp only [List.length_singleton] at this
      omega
theorem onceK_snoc (ks : List Key) (k : Key) : onceK (ks ++ [k]) = if decide (k ∈ ks) then onceK ks else onceK ks ++ [k] := by
  have e : (k ∈ onceK ks) ↔ k ∈ ks := by
    have := (onceK_spec ks [] List.nodup_nil).2 k
    simpa [onceK] using this
  show (ks ++ [k]).foldl _ [] = _
  rw [List.foldl_append]
  show (if decide (k ∈ onceK ks) then onceK ks else onceK ks ++ [k]) = _
  by_cases c : k ∈ ks
  · rw [if_pos (decide_eq_true (e.mpr c)), if_pos (decide_eq_true c)]
  · rw [if_neg (by simpa using fun z => c (e.mp z)), if_neg (by simpa using c)]
/-- the set at Dp has the keys acc -/
def SkAt (P : Program) (w : World) (H : Hp) (Dp : Addr) (acc : List D) : Prop := ∃ (S : Key → Bool) (ks : List Key), H Dp = some (SetK P w Dp S (onceK ks).length) ∧ acc = ks.map kD ∧ (∀ k, S k = true ↔ k ∈ ks) ∧ ks.length ≤ 4000
theorem SkAt.step {P : Program} {w : World} {H H' : Hp} {B B' : No} {As As' : AsT} {W : Nat → Prop} {Dp : Addr} {acc : List D} (x : SkAt P w H Dp acc) (S : Stp W H B As H' B' As') (hn : ∀ i, Dp ∉ As i) : SkAt P w H' Dp acc := by
  obtain ⟨s, ks, h1, h2⟩ := x
  exact ⟨s, ks, S.keep Dp _ h1 fun i _ => hn i, h2⟩
theorem SkAt.add {P : Program} {w : World} {H : Hp} {Dp : Addr} {S : Key → Bool} {ks : List Key} (k : Key) (hS : ∀ j, S j = true ↔ j ∈ ks) (hl : ks.length < 4000) : SkAt P w (upd H Dp (SetK P w Dp (fun j => S j || decide (j = k)) (if S k = true then (onceK ks).length else (onceK ks).length + 1))) Dp (ks.map kD ++ [kD k]) := by
  refine ⟨fun j => S j || decide (j = k), ks ++ [k], ?_, by simp, fun j => by simp [hS], by rw [List.length_append]; simp only [List.length_singleton]; omega⟩
  rw [upd_same, onceK_snoc]
  by_cases c : k ∈ ks
  · rw [if_pos ((hS k).mpr c), if_pos (decide_eq_true c)]
  · rw [if_neg (fun z => c ((hS k).mp z)), if_neg (by simpa using c), List.length_append]
    rfl
def s2In (F : Fns) (kx : E) (tg2 : Tg) (ifs2 : List E) (own2 : List Nat) (d2 : D) (a2 : List D × Pv.Env) : Out (List D × Pv.Env) :=
  (asgT tg2 d2 (wipeE a2.2 own2)).bind fun r2 => (evIfs F ifs2 r2).bind fun b2 => if b2.1 then
    (evE F kx b2.2).bind fun y => .when (keyS y.1 && decide (a2.1.length < 4000)) (a2.1 ++ [y.1], y.2)
  else .ok (a2.1, b2.2)
def s2Out (F : Fns) (kx : E) (tg : Tg) (ifs : List E) (tg2 : Tg) (ik2 : IK) (il2 ifs2 : List E) (own own2 : List Nat) (d : D) (a : List D × Pv.Env) : Out (List D × Pv.Env) :=
  (asgT tg d (wipeE a.2 own)).bind fun r1 => (evIfs F ifs r1).bind fun b => if b.1 then
    (evI F ik2 il2 b.2).bind fun x2 => foldO (s2In F kx tg2 ifs2 own2) x2.1 (a.1, x2.2)
  else .ok (a.1, b.2)
section
variable {X : Cx} {F : Fns} {lv : List Nat} {Z : Str → D → Prop} {kx : E} {ifs il ifs2 il2 : List E} {tg tg2 : Tg} {ik ik2 : IK}
theorem ev_ls2 {r : Pv.Env} {own own2 : List Nat} : evE F (.ls2 kx tg ik il ifs tg2 ik2 il2 ifs2 own own2) r = (evI F ik il r).bind fun x =>
    (Out.noX (foldO (s2Out F kx tg ifs tg2 ik2 il2 ifs2 own own2) x.1 ([], wipeE x.2 own))).bind fun a => .ok (.int (onceL a.1).length, backE x.2 a.2 own) := by
  simp only [evE]
  unfold evI
  rw [bind_assoc]
  congr 1
  funext x
  rw [bind_assoc]
  congr 1
  funext items
  show _ = (Out.noX (foldO (s2Out F kx tg ifs tg2 ik2 il2 ifs2 own own2) items ([], wipeE x.2 own))).bind _
  have : (fun d (a : List D × Pv.Env) => (asgT tg d (wipeE a.2 own)).bind fun r1 => (evIfs F ifs r1).bind fun b => if b.1 then
          (evL F il2 b.2).bind fun x2 => (itD ik2 x2.1).bind fun items2 =>
            foldO (fun d2 (a2 : List D × Pv.Env) => (asgT tg2 d2 (wipeE a2.2 own2)).bind fun r2 => (evIfs F ifs2 r2).bind fun b2 => if b2.1 then
              (evE F kx b2.2).bind fun y => .when (keyS y.1 && decide (a2.1.length < 4000)) (a2.1 ++ [y.1], y.2)
            else .ok (a2.1, b2.2)) items2 (a.1, x2.2)
        else .ok (a.1, b.2)) = s2Out F kx tg ifs tg2 ik2 il2 ifs2 own own2 := by
    funext d a
    unfold s2Out evI
    congr 1
    funext r1
    congr 1
    funext b
    split
    · rw [bind_assoc]
      congr 1
      funext x2
      rw [bind_assoc]
      rfl
    · rfl
  rw [this]
theorem sc2_imp {σ : Sg} {H : Hp} {Q : VK} {vs vs1 : List Nat}
    (hr : (il.map (wyE lv)).all rdWy = true) (hv : (il.map (wyE lv)).all valWy = true) (h0 : ∀ i ∈ tgL tg, lv.getD i 0 = 0) (hto : ∀ i ∈ tgL tg, i ∈ vs) (hd : ∀ i ∈ alsW (il.map (wyE lv)), i ∉ vs ++ (wrL ifs ++ (wrL il2 ++ (wrL ifs2 ++ wrE kx))))
    (hr2 : (il2.map (wyE lv)).all rdWy = true) (hv2 : (il2.map (wyE lv)).all valWy = true) (h02 : ∀ i ∈ tgL tg2, lv.getD i 0 = 0) (hto2 : ∀ i ∈ tgL tg2, i ∈ vs1) (hsub : ∀ i ∈ vs1, i ∈ vs) (hd2 : ∀ i ∈ alsW (il2.map (wyE lv)), i ∉ vs1 ++ (wrL ifs2 ++ wrE kx))
    (h : tEv X.K F lv Z (.ls2 kx tg ik il ifs tg2 ik2 il2 ifs2 vs vs1) σ H Q) :
    tSc2 X.prog X.w (tEvI X.K F lv Z ik il) (gT X.K tg) (tIfs X.K F lv ifs) (tEvI X.K F lv ZF ik2 il2) (gT X.K tg2) (tIfs X.K F lv ifs2) (tEv X.K F lv ZF kx) vs vs1 σ H (fun v H2 => ∃ (a : Addr) (S : Key → Bool) (n : Nat), [v] = [V.ref a] ∧ H2 a = some (SetK X.prog X.w a S n) ∧ n < 4096 ∧ Q (.int (n : Nat)) H2) := by
  obtain ⟨r, B, As, G, w⟩ := h
  rw [ev_ls2, wp_bind] at w
  refine ⟨r, B, As, G, w.imp fun p hw H1 B1 As1 J ds vs' ass G1 S1 P1 IO Dp hD => ?_⟩
  obtain ⟨items, r1⟩ := p
  rw [wp_bind] at hw
  have hw := wp_noX hw
  let Wb := vs ++ (wrL ifs ++ (wrL il2 ++ (wrL ifs2 ++ wrE kx)))
  let We : List Nat := wrE (.ls2 kx tg ik il ifs tg2 ik2 il2 ifs2 vs vs1)
  have wb : ∀ i, i ∈ Wb → i ∈ We := fun i m => List.mem_append_right _ m
  have wI : ∀ i, i ∈ wrL ifs → i ∈ Wb := fun i m => List.mem_append_right _ (List.mem_append_left _ m)
  have wL : ∀ i, i ∈ wrL il2 → i ∈ Wb := fun i m => List.mem_append_right _ (List.mem_append_right _ (List.mem_append_left _ m))
  have wJ : ∀ i, i ∈ wrL ifs2 ++ wrE kx → i ∈ Wb := fun i m => List.mem_append_right _ (List.mem_append_right _ (List.mem_append_right _ m))
  have Gw := G1.wipe vs
  have ew0 : wipe (wipe σ vs) vs = wipe σ vs := wipe_sub fun i m => m
  have srcW : ∀ u, Src (ofL Wb) H1 (wipA As1 vs) u → Src (ofL We) H As u := fun u z => by
    have z2 : Src (ofL Wb) H1 As1 u := z.imp id fun ⟨i, w, m⟩ => ⟨i, w, (wipA_in m).2⟩
    exact (S1.src z2).wide fun i w => w.elim (List.mem_append_left _) (wb i)
  have notD : ∀ i, Dp ∉ As1 i := fun i m => by
    obtain ⟨o, e⟩ := G1.here m
    rw [hD] at e
    cases e
  have hdv : ∀ i ∈ alsW (il.map (wyE lv)), i ∉ vs := fun i m m2 => hd i m (List.mem_append_left _ m2)
  have P1w := P1.wipe hv hdv (wipe σ vs)
  let Post : List D × Pv.Env → Prop := fun a => wp (.ok (.int ((onceL a.1).length : Nat), backE r1 a.2 vs)) (fun p => ∀ H' v, Pst X.K lv (ofL We) [] 0 σ H B As p.1 p.2 v H' → Q v H') Z
  let In : Nat → Hp → Prop := fun i H' => i ≤ items.length ∧ ∃ acc rb Bb Asb, Good X.K lv (wipe σ vs) H' (wipeE rb vs) Bb Asb ∧ Stp (ofL Wb) H1 B1 (wipA As1 vs) H' Bb Asb ∧ SkAt X.prog X.w H' Dp acc ∧ Bb Dp ∧ (∀ j, Dp ∉ Asb j) ∧
    wp (foldO (s2Out F kx tg ifs tg2 ik2 il2 ifs2 vs vs1) (items.drop i) (acc, rb)) Post ZF
  have start : In 0 (upd H1 Dp (SetK X.prog X.w Dp (fun _ => false) 0)) := by
    have Gs : Good X.K lv (wipe σ vs) (upd H1 Dp (SetK X.prog X.w Dp (fun _ => false) 0)) (wipeE r1 vs) (fun a => a ∈ [Dp] ∨ B1 a) (wipA As1 vs) := Gw.grow (Same.upd hD) (fun a ha => by rw [List.mem_singleton.mp ha]; exact hD) (fun a ha => ⟨SetK X.prog X.w Dp (fun _ => false) 0, by rw [List.mem_singleton.mp ha]; exact upd_same, rfl⟩)
    have Gs2 := Gs.wipe vs
    rw [ew0, wipA_sub fun i m => m] at Gs2
    exact ⟨Nat.zero_le _, [], wipeE r1 vs, _, _, Gs2, Stp.same' (Same.upd hD) (fun a z => z.elim (fun z => .inr (by rw [List.mem_singleton.mp z]; exact hD)) .inl) (fun a z => .inr z), ⟨fun _ => false, [], upd_same, rfl, by simp, by simp⟩, .inl List.mem_cons_self, fun j m2 => notD j (wipA_in m2).2, by rw [List.drop_zero]; exact hw⟩
  refine ⟨fun i m H' => m = items.length - i ∧ In i H', ⟨items.length, by simp, start⟩, ?_⟩
  rintro i m H' ⟨rfl, hi', acc, rb, Bb, Asb, Gb, Sb, Vb, bD, nD, hw'⟩
  have Pb := P1w.step Gw Sb hv hd (σ' := wipe σ vs)
  obtain ⟨t1, t2, t3⟩ := it_turn IO (Pb.rt hr) Gb.noin (fun _ _ _ => rfl) (Gw.kp Sb)
  by_cases hlt : i < items.length
  · refine .inr ⟨t1 i hlt, In (i + 1), fun H2 q => ⟨items.length - (i + 1), by omega, rfl, q⟩, fun x H3 y => ?_⟩
    have ed : items[i]? = some items[i] := List.getElem?_eq_getElem hlt
    obtain ⟨sm, rp⟩ := t3 i _ x H3 ed y
    rw [List.drop_eq_getElem_cons hlt] at hw'
    simp only [foldO_cons] at hw'
    rw [wp_bind] at hw'
    unfold s2Out at hw'
    rw [wp_bind] at hw'
    obtain ⟨ra, ea, hw2⟩ := hw'.get (asgT_nx _ _ _)
    refine blk_turn h0 hto Gb sm rp ea fun σ3 As3 G3 S3 ew => ⟨ew, ?_⟩
    rw [wp_bind] at hw2
    refine ⟨ra, Bb, As3, G3, hw2.imp fun bq hbq H4 B4 As4 G4 S4 => ?_⟩
    have Sx : Stp (ofL Wb) H' Bb Asb H4 B4 As4 := (S3.trans Gb S4).wide fun j w => w.elim (List.mem_append_left _) (wI j)
    obtain ⟨_, _, hes0, _⟩ := id Vb
    have V4 := Vb.step Sx nD
    have b4 : B4 Dp := Sx.hold Dp bD fun i _ => nD i
    obtain ⟨bz, rz⟩ := bq
    have n4 := keep_not (K := X.K) (σ := σ3) (r := rz) hes0 nD Sx
    have S04 := (Sb.trans Gw Sx).wide (W' := ofL Wb) fun j w => w.elim id id
    cases bz with
    | false =>
      simp only [Bool.false_eq_true, if_false] at hbq ⊢
      have Gf := G4.wipe vs
      rw [ew] at Gf
      have Sf := (S04.wipe (vs := vs)).wide (W' := ofL Wb) fun j w => w.elim id (List.mem_append_left _)
      exact ⟨hlt, acc, rz, B4, wipA As4 vs, Gf, Sf, V4, b4, fun j m2 => n4 j (wipA_in m2).2, hbq⟩
    | true =>
      simp only [if_true] at hbq ⊢
      rw [wp_bind] at hbq
      refine ⟨rz, B4, As4, G4, hbq.imp fun p5 h5 H5 B5 As5 J1 ds5 vs5 ass5 G5 S5 P5 IO5 => ?_⟩
      obtain ⟨items2, r5⟩ := p5
      obtain ⟨_, _, hes4, _⟩ := id V4
      have V5 := V4.step S5 n4
      have b5 : B5 Dp := S5.hold Dp b4 fun i _ => n4 i
      have n5 := keep_not (K := X.K) (σ := σ3) (r := r5) hes4 n4 S5
      have S05 := (S04.trans Gw S5).wide (W' := ofL Wb) fun j w => w.elim id (wL j)
      have dAss : ∀ bs ∈ ass5, Dp ∉ bs := fun bs hb m => by
        rcases P5.mem bs hb Dp m with ⟨z, _⟩ | ⟨j, z⟩
        · rcases z with z | ⟨j, _, z⟩
          · rw [hes4] at z
            cases z
          · exact n4 j z
        · exact n5 j z
      have hd2v : ∀ i ∈ alsW (il2.map (wyE lv)), i ∉ vs1 := fun i m m2 => hd2 i m (List.mem_append_left _ m2)
      let W2 := vs1 ++ (wrL ifs2 ++ wrE kx)
      have w2b : ∀ i, i ∈ W2 → i ∈ Wb := fun i m => (List.mem_append.mp m).elim (fun m => List.mem_append_left _ (hsub i m)) (wJ i)
      let I2 : Nat → Hp → Prop := fun j H' => j ≤ items2.length ∧ ∃ acc rb Bb Asb, Good X.K lv (wipe σ3 vs1) H' (wipeE rb vs1) Bb Asb ∧ Stp (ofL Wb) H1 B1 (wipA As1 vs) H' Bb Asb ∧ SkAt X.prog X.w H' Dp acc ∧ Bb Dp ∧ (∀ j, Dp ∉ Asb j) ∧
        PdL X.K (wipe σ3 vs1) H' Bb Asb (Src (ofL (wrL il2)) H4 As4) (il2.map (wyE lv)) ds5 vs5 ass5 ∧ Kp H5 H' B5 Bb ∧ wp (foldO (s2In F kx tg2 ifs2 vs1) (items2.drop j) (acc, rb)) (fun b => wp (foldO (s2Out F kx tg ifs tg2 ik2 il2 ifs2 vs vs1) (items.drop (i + 1)) b) Post ZF) ZF
      have start2 : I2 0 H5 := ⟨Nat.zero_le _, acc, r5, B5, wipA As5 vs1, G5.wipe vs1, (S05.wipe (vs := vs1)).wide fun j w => w.elim id fun m => List.mem_append_left _ (hsub j m), V5, b5, fun j m2 => n5 j (wipA_in m2).2, P5.wipe hv2 hd2v _, ⟨fun _ _ e _ => e, fun _ z => .inl z⟩, by rw [List.drop_zero]; exact h5⟩
      refine ⟨fun j k H' => k = items2.length - j ∧ I2 j H', ⟨items2.length, by simp, start2⟩, ?_⟩
      rintro j k H6 ⟨rfl, hj', acc6, rb6, B6, As6, G6, S6, V6, b6, n6, P6, K6, hw6⟩
      obtain ⟨u1, u2, u3⟩ := it_turn IO5 (P6.rt hr2) G6.noin (fun _ _ _ => rfl) K6
      by_cases hlt2 : j < items2.length
      · refine .inr ⟨u1 j hlt2, I2 (j + 1), fun H2 q => ⟨items2.length - (j + 1), by omega, rfl, q⟩, fun x2 H7 y2 => ?_⟩
        have ed2 : items2[j]? = some items2[j] := List.getElem?_eq_getElem hlt2
        obtain ⟨sm2, rp2⟩ := u3 j _ x2 H7 ed2 y2
        rw [List.drop_eq_getElem_cons hlt2] at hw6
        simp only [foldO_cons] at hw6
        rw [wp_bind] at hw6
        unfold s2In at hw6
        rw [wp_bind] at hw6
        obtain ⟨ra2, ea2, hw7⟩ := hw6.get (asgT_nx _ _ _)
        refine blk_turn h02 hto2 G6 sm2 rp2 ea2 fun σ8 As8 G8 S8 ew8 => ⟨ew8, ?_⟩
        rw [wp_bind] at hw7
        refine ⟨ra2, B6, As8, G8, hw7.imp fun bq hbq H9 B9 As9 G9 S9 => ?_⟩
        have Sz : Stp (ofL W2) H6 B6 As6 H9 B9 As9 := (S8.trans G6 S9).wide fun j w => w.elim (List.mem_append_left _) fun w => List.mem_append_right _ (List.mem_append_left _ w)
        obtain ⟨_, _, hes6, _⟩ := id V6
        obtain ⟨bz2, rz2⟩ := bq
        cases bz2 with
        | false =>
          simp only [Bool.false_eq_true, if_false] at hbq ⊢
          have Gf := G9.wipe vs1
          rw [ew8] at Gf
          have n9 := keep_not (K := X.K) (σ := σ8) (r := rz2) hes6 n6 Sz
          refine ⟨hlt2, acc6, rz2, B9, wipA As9 vs1, Gf, (((S6.trans Gw Sz).wipe (vs := vs1)).wide fun j w => ?_), V6.step Sz n6, Sz.hold Dp b6 fun i _ => n6 i, fun j m2 => n9 j (wipA_in m2).2, (P6.step G6 Sz hv2 hd2 (σ' := wipe σ3 vs1)).wipe hv2 hd2v _, K6.trans (G6.kp Sz), hbq⟩
          rcases w with (w | w) | w
          · exact w
          · exact w2b j w
          · exact List.mem_append_left _ (hsub j w)
        | true =>
          simp only [if_true] at hbq ⊢
          rw [wp_bind] at hbq
          refine tEv.mk G9 hbq fun dk ra3 Ha Ba Asa kv ask ha Ga Sa Xa => ?_
          obtain ⟨g, q⟩ := wp_when.mp ha
          simp only [Bool.and_eq_true, decide_eq_true_eq] at g
          have hk := Xa.ow.rp0
          obtain ⟨kk, ek, ekv⟩ := keyS_of g.1 hk
          have ek : dk = kD kk := ek
          have Sy : Stp (ofL W2) H6 B6 As6 Ha Ba Asa := (Sz.trans G6 Sa).wide fun j w => by
            rcases w with w | w
            · exact w
            · exact List.mem_append_right _ (List.mem_append_right _ w)
          obtain ⟨S7, ks7, e1, e2, e3, e4⟩ := V6.step Sy n6
          have nb := keep_not (K := X.K) (σ := σ8) (r := ra3) hes6 n6 Sy
          have bb : Ba Dp := Sy.hold Dp b6 fun i _ => n6 i
          have g3 : acc6.length < 4000 := g.2
          have hlen : (onceK ks7).length ≤ ks7.length := by have := onceK_len ks7 []; simpa [onceK] using this
          rw [e2, List.length_map] at g3
          refine ⟨kk, S7, _, ekv, e1, by show (onceK ks7).length + 1 < 4096; omega, ?_⟩
          generalize hob : SetK X.prog X.w Dp (fun j => S7 j || decide (j = kk)) (if S7 kk = true then (onceK ks7).length else (onceK ks7).length + 1) = ob
          have hld : isLD ob = true := by rw [← hob]; rfl
          have Gf := (Ga.updP (o := ob) bb nb hld).wipe vs1
          rw [ew8] at Gf
          have Sf : Stp (ofL Wb) H1 B1 (wipA As1 vs) (upd Ha Dp ob) Ba (wipA Asa vs1) := (((S6.trans Gw Sy).updP (o := ob) hD).wipe (vs := vs1)).wide fun j w => by
            rcases w with (w | w) | w
            · exact w
            · exact w2b j w
            · exact List.mem_append_left _ (hsub j w)
          have kpD : Kp Ha (upd Ha Dp ob) Ba Ba := ⟨fun a o e n => (upd_ne fun z => by subst z; exact n bb).trans e, fun a z => .inl z⟩
          refine ⟨hlt2, acc6 ++ [dk], ra3, Ba, wipA Asa vs1, Gf, Sf, ?_, bb, fun j m2 => nb j (wipA_in m2).2, ((P6.step G6 Sy hv2 hd2 (σ' := wipe σ3 vs1)).updP bb hv2 dAss).wipe hv2 hd2v _, (K6.trans (G6.kp Sy)).trans kpD, q⟩
          rw [← hob, e2, ek]
          exact SkAt.add kk e3 g3
      · have ej : j = items2.length := by omega
        subst ej
        rw [List.drop_length] at hw6
        refine .inl ⟨u2 _ (Nat.le_refl _), ?_⟩
        have Gf := G6.wipe vs
        rw [wipe_sub hsub, wipeE_sub hsub, ew] at Gf
        exact ⟨hlt, acc6, rb6, B6, wipA As6 vs, Gf, (S6.wipe (vs := vs)).wide fun j w => w.elim id (List.mem_append_left _), V6, b6, fun j m2 => n6 j (wipA_in m2).2, hw6⟩
  · have ei : i = items.length := by omega
    subst ei
    rw [List.drop_length] at hw'
    refine .inl ⟨t2 _ (Nat.le_refl _), ?_⟩
    have Gf := G1.back Gb Sb
    rw [backE_wipe] at Gf
    obtain ⟨S9, ks9, e1, e2, e3, e4⟩ := Vb
    have hlen : (onceK ks9).length ≤ ks9.length := by have := onceK_len ks9 []; simpa [onceK] using this
    have en : (onceL acc).length = (onceK ks9).length := by rw [e2, onceK_eq, List.length_map]
    refine ⟨Dp, S9, _, rfl, e1, by omega, ?_⟩
    have hq : ∀ H' v, Pst X.K lv (ofL We) [] 0 σ H B As (.int ((onceL acc).length : Nat)) (backE r1 rb vs) v H' → Q v H' := hw'
    rw [en] at hq
    exact hq H' _ ⟨Bb, _, [], Gf, (S1.trans G Sb.back).wide fun j w => w.elim (List.mem_append_left _) (wb j), by simp [Ow, Rp], List.nodup_nil, by simp, fun _ => by simp, fun c => absurd rfl c⟩
end
section
variable {X : Cx} {F : Fns} {lv : List Nat} {Z : Str → D → Prop} {pos nm : Pos} {kx : E} {kex tge iter tge2 iter2 : Expr} {ifs il ifs2 il2 : List E} {ifes ifes2 : List Expr} {scope : Scope} {own : List (Str × Nat)} {vs1 : List Nat} {tg tg2 : Tg} {ik ik2 : IK}
theorem cr_lenK : CallR X (.builtin "len") (fun xs H Q => ∃ (a : Addr) (S : Key → Bool) (n : Nat), xs = [V.ref a] ∧ H a = some (SetK X.prog X.w a S n) ∧ n < 4096 ∧ Q (.int (n : Nat)) H) := by
  intro pins s σ H xs us Q I r h
  obtain ⟨a, S, n, rfl, ha, hn, q⟩ := h
  rw [Vals.ref1 r]
  obtain ⟨o, es, ep, t, ho, hex, hd, _, _, hb, hf, he⟩ := setK_get I ha
  subst he
  exact call_len_set ho hex hd hf (by omega) ⟨.int _, H, I.tok _, ⟨_, rfl⟩, q⟩
theorem s_ls2 {pos2 : Pos} (hgl : Gl X "len") (hml : X.mg "len" = none) (hc : X.calm = true) (hN : X.N.Nodup) (hi : SI X F lv Z tge ik il iter) (ok : BlkOk X.N X.env.scope scope own)
    (hg : ∀ (s : Shared) (H : Hp) (C : Addr) (cl : List (Str × Addr)) (fp : List Addr), PG (X.blk s H scope (compEnvC scope cl C X.env) fp) tge (gT X.K tg))
    (ht : ∀ (s : Shared) (H : Hp) (C : Addr) (cl : List (Str × Addr)) (fp : List Addr), SIfs (X.blk s H scope (compEnvC scope cl C X.env) fp) F lv ifs ifes)
    (hi2 : ∀ (s : Shared) (H : Hp) (C : Addr) (cl : List (Str × Addr)) (fp : List Addr), SI (X.blk s H scope (compEnvC scope cl C X.env) fp) F lv ZF tge2 ik2 il2 iter2)
    (hg2 : ∀ (s : Shared) (H : Hp) (C : Addr) (cl : List (Str × Addr)) (fp : List Addr), PG (X.blk s H scope (compEnvC scope cl C X.env) fp) tge2 (gT X.K tg2))
    (ht2 : ∀ (s : Shared) (H : Hp) (C : Addr) (cl : List (Str × Addr)) (fp : List Addr), SIfs (X.blk s H scope (compEnvC scope cl C X.env) fp) F lv ifs2 ifes2)
    (hk : ∀ (s : Shared) (H : Hp) (C : Addr) (cl : List (Str × Addr)) (fp : List Addr), SE (X.blk s H scope (compEnvC scope cl C X.env) fp) F lv ZF kx kex)
    (hs : ∀ x, foldedSetIterable iter X.env x = pure x) (hs1 : ∀ env x, foldedSetIterable iter2 env x = pure x)
    (hr : (il.map (wyE lv)).all rdWy = true) (hv : (il.map (wyE lv)).all valWy = true) (h0 : ∀ i ∈ tgL tg, lv.getD i 0 = 0) (hto : ∀ i ∈ tgL tg, i ∈ own.map (·.2)) (hd : ∀ i ∈ alsW (il.map (wyE lv)), i ∉ own.map (·.2) ++ (wrL ifs ++ (wrL il2 ++ (wrL ifs2 ++ wrE kx))))
    (hr2 : (il2.map (wyE lv)).all rdWy = true) (hv2 : (il2.map (wyE lv)).all valWy = true) (h02 : ∀ i ∈ tgL tg2, lv.getD i 0 = 0) (hto2 : ∀ i ∈ tgL tg2, i ∈ vs1) (hsub : ∀ i ∈ vs1, i ∈ own.map (·.2)) (hd2 : ∀ i ∈ alsW (il2.map (wyE lv)), i ∉ vs1 ++ (wrL ifs2 ++ wrE kx)) :
    SE X F lv Z (.ls2 kx tg ik il ifs tg2 ik2 il2 ifs2 (own.map (·.2)) vs1) (.Call (.Name "len" nm) [snode kex tge iter tge2 iter2 ifes ifes2 scope pos] [] pos2) := by
  have h1 := pe_sc2 (pos := pos) (wi := tEvI X.K F lv Z ik il) (g := gT X.K tg) (tt := tIfs X.K F lv ifs) (wi1 := tEvI X.K F lv ZF ik2 il2) (g1 := gT X.K tg2) (tt1 := tIfs X.K F lv ifs2) (tk := tEv X.K F lv ZF kx) hc hN hi ok hsub (fun s H C cl fp => ⟨hg s H C cl fp, ht s H C cl fp, hi2 s H C cl fp, hg2 s H C cl fp, ht2 s H C cl fp, hk s H C cl fp⟩) hs hs1
  exact pe_of (pe_callB cr_lenK hgl hml (by rfl) (pa_cons h1 pa_nil (by rfl)) (by decide) (by decide) (by rfl) (by rfl)) fun σ H Q h => sc2_imp hr hv h0 hto hd hr2 hv2 h02 hto2 hsub hd2 h
end
end Pv
end
section
/-! P39: chains as tests, sorted(set(..)), dict displays, f(g(..)), for over own lists. -/
namespace Pv
open PySem PySem.Spec PyProof.Rows L2
section
variable {X : Cx} {F : Fns} {lv : List Nat} {Z : Str → D → Prop} {pos : Pos} {a b c : E} {ea eb ec : Expr}
theorem t_cmp2 (hu : X.A.units + 64 < cLine) {o p : COp} (ha : SE X F lv Z a ea) (hb : SE X F lv Z b eb) (hc : SE X F lv Z c ec) (dj : ∀ i ∈ alE lv a, i ∉ wrE b) (dj2 : ∀ i ∈ alE lv b, i ∉ wrE c) (hm : notSet ec = true) :
    ST X F lv Z (.cmp2 o p a b c) (.Compare ea [cop o, cop p] [eb, ec] pos) := by
  refine pt_of (pt_chain (op_cmpD hu o) (op_cmpD hu p) ha hb hc (show behindInMarks (cop p) ec = false from mark_ok hm)) fun σ H Q ⟨r, B, As, G, w⟩ => ?_
  unfold tru2 at w
  simp only [evE] at w
  rw [wp_bind, wp_bind] at w
  refine tEv.mk G w fun dx r1 H1 B1 As1 x asx h1 G1 S1 X1 => ?_
  rw [wp_bind] at h1
  refine tEv.mk G1 h1 fun dy r2 H2 B2 As2 y asy h2 G2 S2 X2 => ?_
  rw [wp_bind] at h2
  obtain ⟨z, e, q⟩ := h2.get (cmp_nx o dx dy)
  have S12 := (S1.trans G S2).wide (W' := ofL (wrE a ++ wrE b)) fun i w => w.elim (List.mem_append_left _) (List.mem_append_right _)
  have ww : ∀ i, i ∈ wrE a ++ wrE b → i ∈ wrE a ++ (wrE b ++ wrE c) := fun i w => by
    rcases List.mem_append.mp w with w | w
    · exact List.mem_append_left _ w
    · exact List.mem_append_right _ (List.mem_append_left _ w)
  refine ⟨_, dx, dy, z, (X1.step G1 S2 dj).ow.rp0, X2.ow.rp0, e, z, rfl, ?_⟩
  cases z with
  | true =>
    simp only [if_true] at q ⊢
    rw [wp_bind] at q
    refine tEv.mk G2 q fun du r3 H3 B3 As3 u asu h3 G3 S3 X3 => ?_
    rw [wp_bind] at h3
    obtain ⟨z, e, q⟩ := h3.get (cmp_nx p dy du)
    refine ⟨_, dy, du, z, (X2.step G2 S3 dj2).ow.rp0, X3.ow.rp0, e, z, rfl, q H3 B3 As3 G3 ((S12.trans G S3).wide fun i w => ?_)⟩
    rcases w with w | w
    · exact ww i w
    · exact List.mem_append_right _ (List.mem_append_right _ w)
  | false =>
    simp only [Bool.false_eq_true, if_false] at q ⊢
    exact ⟨false, rfl, q H2 B2 As2 G2 (S12.wide fun i w => ww i w)⟩
/-! ### sorted(set(..)) -/
theorem Fin.more {K : Fg} {H : Hp} {no : No} {n : Nat} {d : D} {Q : VK} {b : Addr} {o : HO} (hb : H b = Option.none) (f : Fin K H no n d Q) : Fin K (upd H b o) no n d Q := fun H' v as sm nd fr ow =>
  f H' v as (fun x u e => sm x u (Same.upd hb x u e)) nd (fun x hx => by
    have := fr x hx
    by_cases c : x = b
    · rw [c, upd_same] at this
      cases this
    · rwa [upd_ne c] at this) ow
theorem keysL_of {K : Fg} {H : Hp} {no : No} : ∀ {ds : List D} {vs : List V}, ds.all keyS = true → RpL K H no ds vs → ∃ ks : List Key, ds = ks.map kD ∧ vs = ks.map kV
  | [], vs, _, h => by
    simp only [RpL] at h
    exact ⟨[], rfl, h⟩
  | d :: ds, vs, g, h => by
    simp only [RpL] at h
    obtain ⟨v, r, rfl, h1, h2⟩ := h
    simp only [List.all_cons, Bool.and_eq_true] at g
    obtain ⟨q, rfl, rfl⟩ := keyS_of g.1 h1
    obtain ⟨ks, rfl, rfl⟩ := keysL_of g.2 h2
    exact ⟨q :: ks, rfl, rfl⟩
theorem keys_rp' {K : Fg} {H : Hp} {no : No} : ∀ (ks : List Key), RpL K H no (ks.map kD) (ks.map kV)
  | [] => by simp [RpL]
  | k :: ks => by
    simp only [List.map_cons, RpL]
    exact ⟨_, _, rfl, by cases k <;> simp [kD, kV, Rp], keys_rp' ks⟩
theorem sset_fin {K : Fg} {P : Program} {w : World} {H : Hp} {no : No} {ks : List Key} {l : Addr} {Q : VK} (hl : SqL K H l (ks.map kV) ∨ SqT K H l (ks.map kV)) (hb : NoIn H no) (g : sortOk (ks.map kD) = true) (hlen : ks.length < 4000) (f : Fin K H no 1 (.list (sortL (onceL (ks.map kD)))) Q) :
    rSetM K P w [.ref l] H fun v H2 => rSortedM P w [v] H2 Q := by
  refine ⟨l, ks, rfl, hl, (by show ks.length + 1 < 4096; omega), fun b n hn hp => ⟨b, ks, n, rfl, upd_same, g, fun out p eo hq => ?_⟩⟩
  have r2 := keys_rp' (K := K) (H := upd H b (SetMO P w b (fun j => decide (j ∈ ks)) n)) (no := no) out
  rw [eo] at r2
  exact (f.more hp).lst (fun x hx => by
    obtain ⟨o, e⟩ := hb x hx
    exact ⟨o, Same.upd hp x o e⟩) (Nat.le_refl 1) r2 p hq
theorem s_ss {n1 n2 p2 : Pos} (hc : X.calm = true) (hu : X.A.units + 64 < cLine) (hg : Gl X "sorted") (hm : X.mg "sorted" = none) (hg2 : Gl X "set") (hm2 : X.mg "set" = none) (ha : SE X F lv Z a ea) (hs : notStar ea = true) (la : lvE lv a ≤ 1) :
    SE X F lv Z (.ss a) (.Call (.Name "sorted" n1) [.Call (.Name "set" n2) [ea] [] p2] [] pos) := by
  have h1 : PE X (.Call (.Name "set" n2) [ea] [] p2) _ := pe_callTy (cr_setM hc) hg2 hm2 (by rfl) (pa_cons ha pa_nil (star_ok hs [] X.env)) (by decide) (by decide) (star_ok hs [] X.env) (by rfl)
  refine pe_of (pe_callB (cr_sortedM hc hu) hg hm (by rfl) (pa_cons h1 pa_nil (by rfl)) (by decide) (by decide) (by rfl) (by rfl)) fun σ H Q ⟨r, B, As, G, w⟩ => ?_
  simp only [evE] at w
  rw [wp_bind] at w
  refine tEv.mk G w fun dx r1 H1 B1 As1 x asx h1 G1 S1 X1 => ?_
  rw [wp_bind] at h1
  obtain ⟨d, e, q⟩ := h1.get (bi_nx _ _)
  have f := fin_of (n := 1) G S1 G1 q
  have rt := X1.rt la
  cases dx <;> simp only [biD] at e <;> first | (cases e; done) | skip
  · obtain ⟨p, xs, rfl, k1, k2⟩ := rt_list rt
    obtain ⟨g, e⟩ := when_ok e
    subst e
    simp only [Bool.and_eq_true, decide_eq_true_eq] at g
    obtain ⟨ks, rfl, rfl⟩ := keysL_of g.1.2 k2
    exact sset_fin (.inl k1) G1.noin g.1.1 (by simpa using g.2) f
  · obtain ⟨p, xs, rfl, k1, k2⟩ := rp_tup (show Rp X.K H1 B1 (.tuple _) x from rt)
    obtain ⟨g, e⟩ := when_ok e
    subst e
    simp only [Bool.and_eq_true, decide_eq_true_eq] at g
    obtain ⟨ks, rfl, rfl⟩ := keysL_of g.1.2 k2
    exact sset_fin (.inr k1.sq) G1.noin g.1.1 (by simpa using g.2) f
/-! ### {}, {"a": 0} -/
theorem s_dct0 : SE X F lv Z (.dct []) (.Dict [] [] pos) := by
  refine pe_of pe_dnewK fun σ H Q ⟨r, B, As, G, w⟩ p hp => ?_
  simp only [evE, evL, dctD, Out.bind_ok, wp_ok] at w
  have f := fin_of (n := 1) (W := ofL []) G Stp.refl G w
  refine f _ _ [p] (Same.upd hp) (by simp) (by simpa using hp) ?_
  simp only [Ow]
  exact ⟨p, [], rfl, rfl, .inl ⟨[], upd_same, by simp [OwK]⟩⟩
theorem s_dct1 {y : Str} {i : Int} {k1 k2 : Nat} {q1 q2 : Pos} : SE X F lv Z (.dct [.k (.str y), .k (.int i)]) (.Dict [some (.Constant (.str y) k1 q1)] [.Constant (.int i) k2 q2] pos) := by
  refine pe_of (pe_disp (pps_cons pe_str pe_int pps_nil) (by rfl) (by rfl) (by simp) (by simp)) fun σ H Q ⟨r, B, As, G, w⟩ p hp => ?_
  simp only [evE, evL, dctD, keyS, Out.bind_ok, Out.when_true, wp_ok] at w
  have f := fin_of (n := 1) (W := ofL []) G Stp.refl G w
  refine ⟨upd_same, [(.inr y, .int i)], rfl, by simp, ?_⟩
  have e : upd (upd H p (.dK [])) p (.dK (mergeK [] [(.inr y, .int i)])) = upd H p (.dK [(.inr y, .int i)]) := by
    funext z
    by_cases c : z = p
    · rw [c, upd_same, upd_same]
      rfl
    · rw [upd_ne c, upd_ne c, upd_ne c]
  rw [e]
  refine f _ _ [p] (Same.upd hp) (by simp) (by simpa using hp) ?_
  simp only [Ow]
  exact ⟨p, [], rfl, rfl, .inl ⟨_, upd_same, .inr y, .int i, [], [], [], rfl, rfl, rfl, Ow.zero.mpr ⟨rfl, rfl⟩, rfl, rfl⟩⟩
theorem s_dct2 {y z : Str} {i j : Int} {k1 k2 k3 k4 : Nat} {q1 q2 q3 q4 : Pos} (hne : y ≠ z) : SE X F lv Z (.dct [.k (.str y), .k (.int i), .k (.str z), .k (.int j)]) (.Dict [some (.Constant (.str y) k1 q1), some (.Constant (.str z) k3 q3)] [.Constant (.int i) k2 q2, .Constant (.int j) k4 q4] pos) := by
  refine pe_of (pe_disp (pps_cons pe_str pe_int (pps_cons pe_str pe_int pps_nil)) (by rfl) (by rfl) (by simp) (by simp)) fun σ H Q ⟨r, B, As, G, w⟩ p hp => ?_
  have hk : (keyS (.str y) && keyS (.str z) && !((PyData.str y).eqv (.str z))) = true := by
    simp [keyS, PyData.eqv, hne]
  simp only [evE, evL, dctD, Out.bind_ok, hk, Out.when_true, wp_ok] at w
  have f := fin_of (n := 1) (W := ofL []) G Stp.refl G w
  refine ⟨upd_same, [(.inr y, .int i), (.inr z, .int j)], rfl, by simp, ?_⟩
  have em : mergeK [] [((.inr y : Key), V.int i), (.inr z, .int j)] = [(.inr y, .int i), (.inr z, .int j)] := by
    simp [mergeK, putK, hne]
  have e : upd (upd H p (.dK [])) p (.dK (mergeK [] [(.inr y, .int i), (.inr z, .int j)])) = upd H p (.dK [(.inr y, .int i), (.inr z, .int j)]) := by
    rw [upd_upd, em]
  rw [e]
  refine f _ _ [p] (Same.upd hp) (by simp) (by simpa using hp) ?_
  simp only [Ow]
  refine ⟨p, [], rfl, rfl, .inl ⟨_, upd_same, OwK.zero.mpr ⟨rfl, ?_⟩⟩⟩
  simp only [RpK]
  exact ⟨.inr y, .int i, _, rfl, rfl, rfl, .inr z, .int j, [], rfl, rfl, rfl, rfl⟩
end
end Pv
end
section
/-! P40: f(g(..)), for over a list of own things. -/
namespace Pv
open PySem PySem.Spec PyProof.Rows L2
section
variable {X : Cx} {F : Fns} {lv : List Nat} {pos nm : Pos} {l : List E} {es : List Expr} {f g : Str} {sg sf : Sig}
/-- f(..), by position, whatever its arguments' judgement -/
theorem pe_callG {ta : TA} (I : FnI X F f sg) (hgd : X.A.guards = some []) (hg : Gl X f) (hdb : (f == ("__debug__" : Str)) = false) {ee : Expr} (hl : PA X (ee :: es) ta) (hs : (ee :: es).all notStar = true) :
    PE X (.Call (.Name f nm) (ee :: es) [] pos) (fun σ H Q => ta σ H fun vs H1 => spG X.K sg (F.call f) vs H1 Q) := by
  obtain ⟨fa, fd, k, hm, hk, Fg, hr, hb, _⟩ := I.ex
  refine ⟨fun pins s σ H Q J h => ?_⟩
  have go : ∀ (us : List Value) (s1 : Shared) (vs : List V) (H1 : Hp), Inv X pins σ H1 s1 → Vals vs us → spG X.K sg (F.call f) vs H1 Q → wpAny (model X.prog X.w) X.A (call (.ref fa) us) (EP X pins σ Q) X.xe s1 := fun us s1 vs H1 J1 rv q => by
    have e : us.length = sg.ps.length := by rw [← rv.length, spG_len q, I.len]
    exact run_fnG (us := us) Fg hr hgd J1 (hb s1 us e) rv q
  refine wpAny_Call_Name_kw (ld_glob J hg hm ?_ hdb)
  obtain ⟨h1, h2⟩ := star_one hs X.env pos
  exact PySem.W.callWith_K (h₀ := X.base) J.ok.mod.kin hk (thn (hl.run pos pins s σ H _ J h) fun us s1 ⟨vs, H1, J1, rv, q⟩ => ⟨J1.kIn, go us s1 vs H1 J1 rv q⟩) h1 h2
end
section
variable {K : Fg} {H H' H'' : Hp} {B B' B'' : No} {sg sf : Sig}
theorem ParL.kp (k : Kp H H' B B') (hk : ∀ a o, B a → H a = some o → H' a = some o) (hh : ∀ a, B a → B' a) : ∀ {ns : List Nat} {ds : List D} {vs : List V} {ass : List (List Addr)}, ParL K H B ns ds vs ass → ParL K H' B' ns ds vs ass
  | [], ds, vs, ass, h => h
  | n :: ns, ds, vs, ass, h => by
    obtain ⟨d, ds', v, vs', as, ass', rfl, rfl, rfl, ow, nd, hb, dj, P⟩ := h
    exact ⟨d, ds', v, vs', as, ass', rfl, rfl, rfl, Ow.kp k n d v as (fun a o ha e => hk a o (hb a ha) e) ow, nd, fun a ha => hh a (hb a ha), dj, P.kp k hk hh⟩
/-- one call behind the other: the second one reads the first one's value -/
theorem Ret.comp {vs : List V} {ass ass' ass2 : List (List Addr)} {d d2 : D} {ds outs outs2 : List D} {v v2 : V} {as2 : List Addr} (P : ParL K H B sg.lvs ds vs ass) (R : Ret K sg H B vs ass d outs H' B' v [] ass') (R2 : Ret K sf H' B' [v] [[]] d2 outs2 H'' B'' v2 as2 ass2) :
    Ret K { sg with rl := sf.rl } H B vs ass d2 outs H'' B'' v2 as2 ass' := by
  have no : ∀ a, a ∉ ([[]] : List (List Addr)).flatten := fun a => by simp
  have lost : ∀ a, H' a = none → H a = none ∨ a ∈ ass.flatten := fun a e => by
    by_cases c : a ∈ ass.flatten
    · exact .inr c
    · cases e2 : H a with
      | none => exact .inl rfl
      | some o =>
        have := R.keep a o e2 c
        rw [e] at this
        cases this
  have kp : Kp H' H'' B' B'' := ⟨fun a o e _ => R2.keep a o e (no a), R2.ban⟩
  refine ⟨fun a o e n => R2.keep a o (R.keep a o e n) (no a), fun a z => ?_, fun a z n => R2.hold a (R.hold a z n) (no a), R2.ld, R2.res, R2.nd, R2.inb, fun a z => ?_, R.out.kp kp (fun a o _ e => R2.keep a o e (no a)) (fun a z => R2.hold a z (no a)), R.osrc, fun a z m => ?_⟩
  · rcases R2.ban a z with z | z
    · exact R.ban a z
    · exact (lost a z).elim .inr fun m => .inl (P.inb a m)
  · rcases R2.src a z with z | z
    · exact lost a z
    · exact absurd z (no a)
  · rcases R2.src a z with z | z
    · obtain ⟨o, e, _⟩ := R.ld a (R.out.inb a m)
      rw [z] at e
      cases e
    · exact absurd z (no a)
theorem spG.comp {evg evf : List D → Out (D × List D)} {vs : List V} {Q : VK} (hrl : sg.rl = 0) (hlv : sf.lvs = [0])
    (h : spG K { sg with rl := sf.rl } (fun ds => (evg ds).bind fun z => (evf [z.1]).bind fun y => .ok (y.1, z.2)) vs H Q) : spG K sg evg vs H fun v H' => spG K sf evf [v] H' Q := by
  obtain ⟨ds, B, ass, P, ld, w⟩ := h
  refine ⟨ds, B, ass, P, ld, ?_⟩
  rw [wp_bind] at w
  refine w.imp fun z hz H' v B' as ass' R => ?_
  have e0 : as = [] ∧ Rp K H' B' z.1 v := Ow.zero.mp (by have := R.res; rwa [hrl] at this)
  obtain ⟨rfl, rp⟩ := e0
  refine ⟨[z.1], B', [[]], by rw [hlv]; exact ⟨z.1, [], v, [], [], [], rfl, rfl, rfl, Ow.zero.mpr ⟨rfl, rp⟩, List.nodup_nil, by simp, by simp, rfl, rfl, rfl⟩, R.ld, ?_⟩
  rw [wp_bind] at hz
  exact hz.imp fun y hy H'' v2 B2 as2 ass2 R2 => hy H'' v2 B2 as2 ass' (R.comp P R2)
end
section
variable {X : Cx} {F : Fns} {lv : List Nat} {pos nm nm2 pos2 : Pos} {l : List E} {es : List Expr} {f g : Str} {sg sf : Sig}
def ccOk (lv : List Nat) (sg sf : Sig) (n : Nat) (l : List E) (io : List (Nat × Nat)) : Bool :=
  let ws := l.map (wyE lv)
  decide (n = sf.rl) && decide (sg.rl = 0) && decide (sf.lvs = [0]) && fitW lv ws sg.lvs && decide (io = ioOf ws 0) && decide (iosW ws).Nodup && decide (sg.muts = io.map (·.1)) && (alsW ws).all fun i => decide (i ∉ iosW ws)
theorem s_cc (If : FnI X F f sf) (Ig : FnI X F g sg) (hgd : X.A.guards = some []) (hf : Gl X f) (hdf : (f == ("__debug__" : Str)) = false) (hg : Gl X g) (hdg : (g == ("__debug__" : Str)) = false) {n : Nat} {io : List (Nat × Nat)} (hok : ccOk lv sg sf n l io = true) {ee : Expr} (hl : SA X F lv ZF l (ee :: es)) (hs : (ee :: es).all notStar = true) :
    SE X F lv ZF (.cc f n g l io) (.Call (.Name f nm) [.Call (.Name g nm2) (ee :: es) [] pos2] [] pos) := by
  refine pe_of (pe_callG If hgd hf hdf (pa_cons (pe_callG Ig hgd hg hdg hl hs) pa_nil (by rfl)) (by rfl)) fun σ H Q ⟨r, B, As, G, w⟩ => ?_
  unfold ccOk at hok
  simp only [Bool.and_eq_true, decide_eq_true_eq, List.all_eq_true] at hok
  obtain ⟨⟨⟨⟨⟨⟨⟨h1, h2⟩, h3⟩, h4⟩, h5⟩, h6⟩, h7⟩, h8⟩ := hok
  simp only [evE] at w
  rw [wp_bind] at w
  show tEvL X.K F lv ZF l σ H fun vs H1 => spG X.K sg (F.call g) vs H1 fun v H2 => spG X.K sf (F.call f) [v] H2 Q
  refine tEvL.mk G w fun ds r2 H2 B2 As2 vs ass hw G2 S2 P2 => ?_
  split at hw
  · rename_i hh
    have ww : ∀ i, ofL (wrL l) i → ofL (wrE (.cc f n g l io)) i := fun i w => List.mem_append_left _ w
    subst h1
    refine spG.comp h2 h3 ?_
    refine call_core (sg := { sg with rl := sf.rl }) (W := ofL (wrE (.cc f sf.rl g l io))) G (S2.wide ww) G2 (P2.src fun u z => z.wide ww) h4 h5 h6 h7 (fun i hi => ?_) (bo := true) (.inr rfl) h8 hh ?_
    · refine List.mem_append_right _ ?_
      rw [h5, ioOf_snd]
      exact hi
    · rw [wp_bind] at hw
      rw [wp_bind, wp_bind]
      refine hw.imp fun z hz => ?_
      rw [wp_bind] at hz ⊢
      refine hz.imp fun y hy => ?_
      rw [Ig.lv] at hy
      exact hy
  · exact hw.elim
end
end Pv
end
section
/-! P41: for x in a new list of own lists. -/
namespace Pv
open PySem PySem.Spec PyProof.Rows L2
/-- rows that nobody else holds -/
structure Rest (K : Fg) (H : Hp) (B : No) (As : AsT) (src : No) (n : Nat) (a : Addr) (xs : List V) (ds : List D) (vs : List V) (bs : List Addr) : Prop where
  at_ : H a = some (.lst xs)
  ban : B a
  out : ∀ j, a ∉ As j
  ow : OwL K H B n ds vs bs
  nd : bs.Nodup
  na : a ∉ bs
  each : ∀ b ∈ bs, B b ∧ src b ∧ ∀ j, b ∉ As j
theorem Rest.step {K : Fg} {lv : List Nat} {σ : Sg} {H H' : Hp} {r : Env} {B B' src : No} {As As' : AsT} {W : Nat → Prop} {n : Nat} {a : Addr} {xs vs : List V} {ds : List D} {bs : List Addr} (R : Rest K H B As src n a xs ds vs bs) (G : Good K lv σ H r B As) (S : Stp W H B As H' B' As') : Rest K H' B' As' src n a xs ds vs bs where
  at_ := S.keep a _ R.at_ fun j _ m => R.out j m
  ban := S.hold a R.ban fun j _ m => R.out j m
  out := fun j m => by
    by_cases w : W j
    · rcases S.frm j w a m with ⟨i, _, m⟩ | e
      · exact R.out i m
      · rw [R.at_] at e
        cases e
    · rw [S.same j w] at m
      exact R.out j m
  ow := OwL.kp (G.kp S) n ds vs bs (fun b o hb e => S.keep b o e fun j _ m => (R.each b hb).2.2 j m) R.ow
  nd := R.nd
  na := R.na
  each := fun b hb => ⟨S.hold b (R.each b hb).1 fun j _ m => (R.each b hb).2.2 j m, (R.each b hb).2.1, fun j m => by
    by_cases w : W j
    · rcases S.frm j w b m with ⟨i, _, m⟩ | e
      · exact (R.each b hb).2.2 i m
      · obtain ⟨o, e2, _⟩ := G.bin b (R.each b hb).1
        rw [e] at e2
        cases e2
    · rw [S.same j w] at m
      exact (R.each b hb).2.2 j m⟩
section
variable {X : Cx} {F : Fns} {lv : List Nat} {Z : Str → D → Prop} {rl fuel : Nat} {pos : Pos} {e : E} {ee : Expr} {body : List S} {sb : List Stmt} {tge : Expr}
theorem ss_each {n t : Nat} (hp : PassesOwn (model X.prog X.w) X.A X.env X.xe) (hc : X.calm = true) (he : SE X F lv Z e ee) (hg : PG X tge (gT X.K (.n t))) (hb : SSs X F lv Z rl fuel body sb) (hs : ∀ x, foldedSetIterable ee X.env x = pure x)
    (hl : lvE lv e = n + 1) (ha : alE lv e = []) (ht : lv.getD t 0 = n) : SS X F lv Z rl fuel (.each t e body) (.For tge ee sb [] pos) := by
  refine ps_of (ps_for hp hc (pi_list he) hg hb hs) fun D σ H ⟨r, B, As, G, w⟩ => ?_
  simp only [evS] at w
  rw [wp_bind] at w
  refine tEv.mk G w fun d r1 H1 B1 As1 v as hw G1 S1 X1 => ?_
  cases d with
  | list ds =>
    have w1 : ∀ i, ofL (wrE e) i → i ∈ wrS (.each t e body) := fun i w => List.mem_append_left _ w
    have w2 : t ∈ wrS (.each t e body) := List.mem_append_right _ List.mem_cons_self
    have w3 : ∀ i, i ∈ wrSs body → i ∈ wrS (.each t e body) := fun i w => List.mem_append_right _ (List.mem_cons_of_mem _ w)
    have a2 : t ∈ asS (.each t e body) := List.mem_cons_self
    have a3 : ∀ i, i ∈ asSs body → i ∈ asS (.each t e body) := fun i w => List.mem_cons_of_mem _ w
    have ow := X1.ow
    rw [hl] at ow
    simp only [Ow] at ow
    obtain ⟨a, xs, bs, rfl, h1, rfl, h2⟩ := ow
    have own := X1.own ha
    have nd := List.nodup_cons.mp X1.nd
    have R0 : Rest X.K H1 B1 As1 (Src (ofL (wrS (.each t e body))) H As) n a xs ds xs bs := ⟨h1, X1.ban a List.mem_cons_self, (own a List.mem_cons_self).2, h2, nd.2, nd.1, fun b hb => ⟨X1.ban b (List.mem_cons_of_mem _ hb), (own b (List.mem_cons_of_mem _ hb)).1.wide w1, (own b (List.mem_cons_of_mem _ hb)).2⟩⟩
    have hlen : ds.length = xs.length := h2.len
    refine ⟨a, rfl, ⟨xs, .inl (.inl h1)⟩, ?_⟩
    let In : Nat → Sg → Hp → Prop := fun i σ' H' => i ≤ ds.length ∧ ∃ r' B' As' bs', Good X.K lv σ' H' r' B' As' ∧ Stp (ofL (wrS (.each t e body))) H B As H' B' As' ∧ (∀ j, j ∉ asS (.each t e body) → σ'[j]? = σ[j]?) ∧
      Rest X.K H' B' As' (Src (ofL (wrS (.each t e body))) H As) n a xs (ds.drop i) (xs.drop i) bs' ∧ wp (forO (.n t) (evSs F fuel body) (ds.drop i) r') (PC X.K lv rl (wrS (.each t e body)) (asS (.each t e body)) D σ H B As) Z
    refine ⟨fun i m σ' H' => m = ds.length - i ∧ In i σ' H', ⟨ds.length, by simp, Nat.zero_le _, r1, B1, As1, bs, G1, S1.wide w1, fun _ _ => rfl, by simpa using R0, by rw [List.drop_zero]; exact hw⟩, ?_⟩
    rintro i m σ' H' ⟨rfl, hi', r', B', As', bs', G', S', fx, R', hw'⟩
    by_cases hlt : i < ds.length
    · have hx : i < xs.length := by rw [← hlen]; exact hlt
      have hq : SqL X.K H' a xs := .inl (.inl R'.at_)
      refine .inr ⟨⟨xs, xs[i], hq, List.getElem?_eq_getElem hx⟩, In (i + 1), fun σ2 H2 q => ⟨ds.length - (i + 1), by omega, rfl, q⟩, fun x H2 ⟨e2, y⟩ => ?_⟩
      subst e2
      have ex := y xs hq
      rw [List.getElem?_eq_getElem hx] at ex
      cases ex
      rw [List.drop_eq_getElem_cons hlt] at hw'
      have R1 := R'
      rw [List.drop_eq_getElem_cons hlt, List.drop_eq_getElem_cons hx] at R1
      have ow1 := R1.ow
      simp only [OwL] at ow1
      obtain ⟨v1, rs, b1, cs, e3, rfl, o1, o2⟩ := ow1
      cases e3
      have nd1 := List.nodup_append.mp R1.nd
      simp only [forO] at hw'
      rw [wp_bind] at hw'
      cases ea : asgT (.n t) ds[i] r' with
      | bad => rw [ea] at hw'; exact hw'.elim
      | exc c d =>
        exfalso
        simp only [asgT] at ea
        exact NoX.when _ _ ea
      | ok r2 =>
        rw [ea] at hw'
        simp only [asgT] at ea
        obtain ⟨g, ea⟩ := when_ok ea
        subst ea
        have each := R1.each
        have G3 := G'.asg (i := t) (d := ds[i]) (v := xs[i]) (as := b1) (of_decide_eq_true g) (by rw [ht]; exact o1) nd1.1 (fun z hz => ⟨(each z (List.mem_append_left _ hz)).1, fun j _ => (each z (List.mem_append_left _ hz)).2.2 j⟩)
        have S3 : Stp (ofL (wrS (.each t e body))) H B As _ B' _ := S'.asg (i := t) (as := b1) w2 fun z hz => (each z (List.mem_append_left _ hz)).2.1
        have R3 : Rest X.K _ B' (fun j => if j = t then b1 else As' j) (Src (ofL (wrS (.each t e body))) H As) n a xs (ds.drop (i + 1)) (xs.drop (i + 1)) cs := ⟨R1.at_, R1.ban, fun j m => by
            have m : a ∈ (if j = t then b1 else As' j) := m
            split at m
            · exact R1.na (List.mem_append_left _ m)
            · exact R1.out j m, o2, nd1.2.1, fun m => R1.na (List.mem_append_right _ m), fun b hb => ⟨(each b (List.mem_append_right _ hb)).1, (each b (List.mem_append_right _ hb)).2.1, fun j m => by
            have m : b ∈ (if j = t then b1 else As' j) := m
            split at m
            · exact nd1.2.2 b m b hb rfl
            · exact (each b (List.mem_append_right _ hb)).2.2 j m⟩⟩
        show tSt X.K lv Z rl (evSs F fuel body) (wrSs body) (asSs body) _ (σ'.set t (some xs[i])) _
        have hw2 : wp ((evSs F fuel body (r'.set t (some ds[i]))).bind fun y => match y.1 with
            | .nx => forO (.n t) (evSs F fuel body) (ds.drop (i + 1)) y.2
            | .cnt => forO (.n t) (evSs F fuel body) (ds.drop (i + 1)) y.2
            | .brk => .ok (.nx, y.2)
            | .ret d => .ok (.ret d, y.2)) _ Z := hw'
        rw [wp_bind] at hw2
        refine ⟨r'.set t (some ds[i]), B', _, G3, hw2.imp fun q hq => ?_⟩
        obtain ⟨ct, r4⟩ := q
        intro σ4 H4 B4 As4 G4 S4 fx4
        have Sf : Stp (ofL (wrS (.each t e body))) H B As H4 B4 As4 := (S3.trans G S4).wide fun j w => w.elim id (w3 j)
        have fxf : ∀ j, j ∉ asS (.each t e body) → σ4[j]? = σ[j]? := fun j n => (fx4 j fun m => n (a3 j m)).trans ((List.getElem?_set_ne (fun z : t = j => n (z ▸ a2))).trans (fx j n))
        have Rf := R3.step G3 S4
        cases ct with
        | nx => exact ⟨hlt, r4, B4, As4, cs, G4, Sf, fxf, Rf, hq⟩
        | cnt => exact ⟨hlt, r4, B4, As4, cs, G4, Sf, fxf, Rf, hq⟩
        | brk => exact (show PC X.K lv rl _ _ D σ H B As (.nx, r4) from hq) σ4 H4 B4 As4 G4 Sf fxf
        | ret d =>
          intro v as xv
          refine (show PC X.K lv rl _ _ D σ H B As (.ret d, r4) from hq) σ4 H4 B4 As4 G4 Sf fxf v as (xv.src fun u z => ?_)
          exact (S3.src z).wide fun j w => w.elim id (w3 j)
    · have e : i = ds.length := by omega
      subst e
      rw [List.drop_length] at hw'
      exact .inl ⟨⟨xs, .inl (.inl R'.at_), by rw [hlen]; exact Nat.le_refl _⟩, hw' σ' H' B' As' G' S' fx⟩
  | _ => exact hw.elim
end
end Pv
end
section
/-! P45: loose values: what is made of borrowed things, to be read by a call. -/
namespace Pv
open PySem PySem.Spec PyProof.Rows L2
section
variable {K : Fg} {lv : List Nat} {σ : Sg} {H H' H0 : Hp} {r r0 : Env} {B B0 src : No} {As As0 : AsT} {W : Nat → Prop}
theorem call_coreL {sg : Sig} {ev : List D → Out (D × List D)} {ws : List Wy} {ds : List D} {vs : List V} {ass : List (List Addr)} {io : List (Nat × Nat)} {Q : VK}
    (G0 : Good K lv σ H0 r0 B0 As0) (S : Stp W H0 B0 As0 H B As) (G : Good K lv σ H r B As) (P : PdL K σ H B As (Src W H0 As0) ws ds vs ass)
    (hfit : fitW lv ws sg.lvs = true) (hio : io = ioOf ws 0) (nd : (iosW ws).Nodup) (hmut : sg.muts = io.map (·.1)) (hW : ∀ i ∈ iosW ws, W i) (hdj : ∀ i ∈ alsW ws, i ∉ iosW ws) (hh : hasIo r io = true) (hrl : sg.rl = 0)
    (w : wp ((ev (fillIo r io ds)).bind fun z => .when (immIo (sg.muts.map fun j => sg.lvs.getD j 0) z.2) (z.1, backIo io z.2 r)) (fun p => ∀ H' v B' As', Good K lv σ H' p.2 B' As' → Stp W H0 B0 As0 H' B' As' → Rp K H' (lsB B' As' (alsW ws)) p.1 v → Q v H') ZF) : spG K sg ev vs H Q := by
  have hlen := P.len
  have hfill : fillIo r io ds = fillW r ws ds := by
    rw [hio]
    exact fill_eq (r := r) (ws := ws) (pre := []) (ds := ds) hlen.1
  have hsnd : io.map (·.2) = iosW ws := by rw [hio]; exact ioOf_snd ws 0
  have hpres : ∀ i ∈ iosW ws, ∃ d, r[i]? = some (some d) := fun i hi => by
    rw [← hsnd] at hi
    obtain ⟨⟨p, j⟩, h1, h2⟩ := List.mem_map.mp hi
    cases h2
    exact hasIo_of hh h1
  let bor : Addr → Prop := fun a => ∃ i ∈ alsW ws, a ∈ As i
  let Bc : No := fun a => B a ∧ ¬ bor a
  have borB : ∀ a, bor a → B a := fun a ⟨i, _, m⟩ => G.ban i a m
  have par := par_of (Bc := Bc) G (fun a z => z.1) P hfit nd hpres (fun i hi a m z => z.2 ⟨i, hi, m⟩) (fun i hi a m => ⟨G.ban i a m, fun ⟨j, hj, m2⟩ => by
    by_cases c : j = i
    · subst c
      exact hdj j hj hi
    · exact G.dj j i a c m2 m⟩) (fun a ⟨bs, h1, h2⟩ hn => ⟨by
      have : ∀ {ws : List Wy} {ds : List D} {vs : List V} {ass : List (List Addr)}, PdL K σ H B As (Src W H0 As0) ws ds vs ass → ∀ bs ∈ ass, ∀ a ∈ bs, B a := by
        intro ws
        induction ws with
        | nil => intro ds vs ass h bs hb a ha; rw [h.2.2] at hb; cases hb
        | cons y ws ih =>
          intro ds vs ass h bs hb a ha
          cases y with
          | val al n =>
            obtain ⟨d, ds', v, vs', as, ass', rfl, rfl, rfl, x, dj, t⟩ := h
            rcases List.mem_cons.mp hb with rfl | hb
            · exact x.ban a ha
            · exact ih t bs hb a ha
          | io i =>
            obtain ⟨ds', v, vs', ass', rfl, rfl, rfl, x, t⟩ := h
            rcases List.mem_cons.mp hb with rfl | hb
            · cases ha
            · exact ih t bs hb a ha
          | lo al =>
            obtain ⟨d, ds', v, vs', ass', rfl, rfl, rfl, x, t⟩ := h
            rcases List.mem_cons.mp hb with rfl | hb
            · cases ha
            · exact ih t bs hb a ha
      exact this P bs h1 a h2, fun ⟨j, hj, m2⟩ => hn j m2⟩)
  have assB := par.inb
  refine ⟨fillW r ws ds, Bc, AsW As ws ass, par, fun a z => G.bin a z.1, ?_⟩
  rw [hfill, wp_bind] at w
  refine w.imp fun z hz H' v B' as ass' R => ?_
  obtain ⟨g, hq⟩ := wp_when.mp hz
  let Bf : No := fun a => B' a ∨ bor a
  have mem := asW_mem P
  have notAss : ∀ a, bor a → a ∉ (AsW As ws ass).flatten := fun a hb m => (assB a m).2 hb
  have ldf : ∀ a, Bf a → ∃ o, H' a = some o ∧ isLD o = true := fun a h => h.elim (R.ld a) fun hb => by
    obtain ⟨o, e, l⟩ := G.bin a (borB a hb)
    exact ⟨o, R.keep a o e (notAss a hb), l⟩
  have out : ParL K H' Bf (sg.muts.map fun j => sg.lvs.getD j 0) z.2 (sg.muts.map fun j => vs.getD j .non) ass' := R.out.imm ldf (fun a => .inl) g
  have kp : Kp H H' B Bf := ⟨fun a o e n => R.keep a o e fun m => n (assB a m).1, fun a h => h.elim (fun h => (R.ban a h).imp (fun z => z.1) id) fun hb => .inl (borB a hb)⟩
  have As_ass : ∀ j a, j ∉ iosW ws → a ∈ As j → a ∉ (AsW As ws ass).flatten := fun j a hj m m2 => by
    rcases mem a m2 with ⟨_, q⟩ | ⟨i, hi, q⟩
    · exact q j m
    · exact G.dj j i a (fun e => hj (e ▸ hi)) m q
  let Aw : AsT := fun j => if j ∈ iosW ws then [] else As j
  have GX : GoodX (fun j => j ∈ iosW ws) K lv σ H' r Bf Aw := by
    refine ⟨fun j d nj e => ?_, fun j q => ?_, fun j => ?_, fun j k a n m m2 => ?_, fun j a m => ?_, ldf, G.len⟩
    · obtain ⟨u, e2, ow⟩ := G.slot j d e
      refine ⟨u, e2, ?_⟩
      show Ow K H' Bf _ d u (if j ∈ iosW ws then [] else As j)
      rw [if_neg nj]
      exact Ow.kp kp _ d u _ (fun a o m e => R.keep a o e (As_ass j a nj m)) ow
    · show (if j ∈ iosW ws then [] else As j) = []
      split
      · rfl
      · rename_i c
        exact G.off j (q.resolve_left c)
    · show (if j ∈ iosW ws then [] else As j).Nodup
      split
      · exact List.nodup_nil
      · exact G.nd j
    · have m : a ∈ (if j ∈ iosW ws then [] else As j) := m
      have m2 : a ∈ (if k ∈ iosW ws then [] else As k) := m2
      split at m
      · cases m
      · split at m2
        · cases m2
        · exact G.dj j k a n m m2
    · have m : a ∈ (if j ∈ iosW ws then [] else As j) := m
      split at m
      · cases m
      · rename_i c
        by_cases hb : bor a
        · exact .inr hb
        · exact .inl (R.hold a ⟨G.ban j a m, hb⟩ (As_ass j a c m))
  have AwA : ∀ j a, a ∈ Aw j → j ∉ iosW ws ∧ a ∈ As j := fun j a m => by
    have m : a ∈ (if j ∈ iosW ws then [] else As j) := m
    split at m
    · cases m
    · rename_i c
      exact ⟨c, m⟩
  have notAw : ∀ a, (H a = none ∨ a ∈ (AsW As ws ass).flatten) → ∀ j, a ∉ Aw j := fun a h j m => by
    obtain ⟨c, m⟩ := AwA j a m
    rcases h with h | h
    · obtain ⟨o, e⟩ := G.here m
      rw [h] at e
      cases e
    · exact As_ass j a c m h
  have lo := out.length
  have lio : io.length = ass'.length := by rw [lo.2.2, hmut, List.length_map, List.length_map]
  have GG := GX.giveL (io := io) out (by rw [hmut, List.length_map, List.length_map]) (fun k p i e => by
    have m : (p, i) ∈ io := List.mem_of_getElem? e
    obtain ⟨d, ed⟩ := hasIo_of hh m
    have m' := m
    rw [hio] at m'
    obtain ⟨_, f1⟩ := io_fit hfit m'
    obtain ⟨_, u, f2, f3⟩ := io_val P m'
    refine ⟨rest_len ed, ?_, u, ?_, f3⟩
    · rw [hmut, List.getElem?_map, List.getElem?_map, e]
      simp only [Nat.sub_zero] at f1
      simp [f1]
    · rw [hmut, List.getElem?_map, List.getElem?_map, e]
      simp only [Nat.sub_zero] at f2
      simp [f2]) (fun a ha j => notAw a (R.osrc a ha) j) (by rw [hsnd]; exact nd)
  have Gf := GG.good (fun i z => z.2 (by rw [hsnd]; exact z.1))
  have upd_io : ∀ j, j ∉ iosW ws → updAs io ass' Aw j = As j := fun j hj => by
    rw [updAs_out (by rw [hsnd]; exact hj)]
    exact if_neg hj
  have srcAss : ∀ a, a ∈ (AsW As ws ass).flatten → Src W H0 As0 a := fun a m => by
    rcases mem a m with ⟨q, _⟩ | ⟨i, hi, q⟩
    · exact q
    · exact S.srcOf (hW i hi) q
  have srcAny : ∀ a, (H a = none ∨ a ∈ (AsW As ws ass).flatten) → Src W H0 As0 a := fun a h => h.elim (fun h => (S.src (W' := fun _ => False) (.inl h)).wide fun i w => w.elim id False.elim) (srcAss a)
  have rp : Rp K H' (lsB Bf (updAs io ass' Aw) (alsW ws)) z.1 v := (Ow.zero.mp (by have := R.res; rwa [hrl] at this)).2.kpE fun a h => h.1.elim id fun ⟨i, hi, m⟩ => absurd (by rw [upd_io i (hdj i hi)]; exact m) (h.2 i hi)
  refine hq H' v Bf _ Gf ⟨fun a o e n => ?_, fun a h => ?_, fun a hb n => ?_, fun i wi a m => ?_, fun i wi => ?_⟩ rp
  · refine R.keep a o (S.keep a o e n) fun m => ?_
    rcases srcAss a m with z | ⟨i, wi, m2⟩
    · rw [e] at z
      cases z
    · exact n i wi m2
  · have : B a ∨ H a = none := h.elim (fun h => (R.ban a h).imp (fun z => z.1) id) fun hb => .inl (borB a hb)
    rcases this with z | z
    · exact S.ban a z
    · cases e : H0 a with
      | none => exact .inr rfl
      | some o =>
        by_cases c : B0 a
        · exact .inl c
        · exfalso
          have := S.keep a o e fun i wi m => c (G0.ban i a m)
          rw [z] at this
          cases this
  · have hB := S.hold a hb n
    by_cases hbb : bor a
    · exact .inr hbb
    · refine .inl (R.hold a ⟨hB, hbb⟩ fun m => ?_)
      rcases srcAss a m with z | ⟨i, wi, m2⟩
      · obtain ⟨o, e, _⟩ := G0.bin a hb
        rw [e] at z
        cases z
      · exact n i wi m2
  · have sr : Src W H0 As0 a := by
      by_cases c : i ∈ iosW ws
      · exact srcAny a (R.osrc a (updAs_in lio (by rw [hsnd]; exact c) a m))
      · rw [upd_io i c] at m
        exact S.srcOf wi m
    exact sr.elim .inr .inl
  · have c : i ∉ iosW ws := fun c => wi (hW i c)
    rw [upd_io i c]
    exact S.same i wi
end
theorem als_bL (lv : List Nat) : ∀ (l : List E), alsW (l.map (wyE lv)) = bL lv l
  | [] => by simp [alsW, bL]
  | e :: l => by cases e <;> simp [wyE, alsW, bL, alE, als_bL lv l]
def tLo (K : Fg) (F : Fns) (lv : List Nat) (Z : Str → D → Prop) (a : E) : TE := fun σ H Q =>
  ∃ r B As, Good K lv σ H r B As ∧ wp (evE F a r) (fun p => ∀ H' v B' As', Good K lv σ H' p.2 B' As' → Stp (ofL (wrE a)) H B As H' B' As' → Rp K H' (lsB B' As' (bE lv a)) p.1 v → Q v H') Z
abbrev SLo (X : Cx) (F : Fns) (lv : List Nat) (Z : Str → D → Prop) (a : E) (ea : Expr) : Prop := PE X ea (tLo X.K F lv Z a)
section
variable {K : Fg} {F : Fns} {lv : List Nat} {Z : Str → D → Prop} {σ : Sg} {H H' H2 : Hp} {r r' : Env} {B B' B2 : No} {As As' As2 : AsT} {W W' : Nat → Prop}
theorem tLo.mk {e : E} {Q : VK} {R : D × Env → Prop} (G : Good K lv σ H r B As) (h : wp (evE F e r) R Z)
    (k : ∀ d r' H' B' As' v, R (d, r') → Good K lv σ H' r' B' As' → Stp (ofL (wrE e)) H B As H' B' As' → Rp K H' (lsB B' As' (bE lv e)) d v → Q v H') : tLo K F lv Z e σ H Q :=
  ⟨r, B, As, G, h.imp fun p hp H' v B' As' G' S x => k p.1 p.2 H' B' As' v hp G' S x⟩
theorem lo_fin {d : D} {al : List Nat} {Q : VK} (G0 : Good K lv σ H r B As) (S : Stp W H B As H2 B2 As2) (G : Good K lv σ H2 r' B2 As2)
    (q : ∀ H' v B' As', Good K lv σ H' r' B' As' → Stp W H B As H' B' As' → Rp K H' (lsB B' As' al) d v → Q v H') : Fin K H2 (lsB B2 As2 al) 0 d Q := by
  intro H' v as same nd fr ow
  obtain ⟨rfl, rp⟩ := Ow.zero.mp ow
  refine q H' v _ As2 (G.grow (as := []) same (by simp) (by simp)) ?_ (rp.kpE fun a z => .inr ⟨z.1.elim (fun z => absurd z (by simp)) id, z.2⟩)
  exact (S.trans (W' := fun _ => False) G0 (Stp.same' same (fun a z => z.elim (fun z => absurd z (by simp)) .inl) fun a z => .inr z)).wide fun i w => w.elim id False.elim
/-- a loose value waits while other slots are written -/
theorem loose_step {al : List Nat} {d : D} {v : V} (G : Good K lv σ H r B As) (x : Rp K H (lsB B As al) d v) (S : Stp W H B As H' B' As') (k : ∀ i ∈ al, ¬ W i) : Rp K H' (lsB B' As' al) d v := by
  refine Rp.kp ⟨fun a o e n => S.keep a o e fun i w m => ?_, fun a z => ?_⟩ d v x
  · by_cases c : ∃ j ∈ al, a ∈ As j
    · obtain ⟨j, hj, m2⟩ := c
      exact G.dj j i a (fun e => k j hj (e ▸ w)) m2 m
    · exact n ⟨G.ban i a m, fun j hj m2 => c ⟨j, hj, m2⟩⟩
  · rcases S.ban a z.1 with b | b
    · exact .inl ⟨b, fun j hj m => z.2 j hj (by rw [S.same j (k j hj)]; exact m)⟩
    · exact .inr b
end
section
variable {X : Cx} {F : Fns} {lv : List Nat} {Z : Str → D → Prop} {pos nm : Pos} {a b c : E} {ea eb ec : Expr} {l : List E} {es : List Expr} {f : Str} {sg : Sig}
theorem a_lo (ha : SLo X F lv Z a ea) (hl : SA X F lv Z l es) (dj : ∀ i ∈ bE lv a, i ∉ wrL l) (hs : notStar ea = true) : SA X F lv Z (.lo a :: l) (ea :: es) := by
  refine pa_of (pa_cons ha hl (star_ok hs es X.env)) fun σ H Q ⟨r, B, As, G, w⟩ => ?_
  simp only [evL, evE] at w
  rw [wp_bind] at w
  refine tLo.mk G w fun dx r1 H1 B1 As1 x h1 G1 S1 X1 => ?_
  rw [wp_bind] at h1
  refine tEvL.mk G1 h1 fun ds r2 H2 B2 As2 vs ass h2 G2 S2 P2 => ?_
  have ww : ∀ i, ofL (wrE a) i ∨ ofL (wrL l) i → i ∈ wrL (.lo a :: l) := fun i w => w.elim (List.mem_append_left _) (List.mem_append_right _)
  refine h2 H2 (x :: vs) ⟨B2, As2, [] :: ass, G2, (S1.trans G S2).wide ww, ?_⟩
  exact ⟨dx, ds, x, vs, ass, rfl, rfl, rfl, loose_step G1 X1 S2 dj, P2.src fun u z => (S1.src z).wide ww⟩
theorem lo_lst (hl : SA X F lv Z l es) (hz : decide (l.length ≤ 1000) = true) (h : zeroW (l.map (wyE lv)) = true) : SLo X F lv Z (.lst l) (.List es pos) := by
  refine pe_of (pe_lst hl) fun σ H Q ⟨r, B, As, G, w⟩ => ?_
  simp only [evE] at w
  rw [wp_bind] at w
  refine tEvL.mk G w fun ds r2 H2 B2 As2 vs ass h2 G2 S2 P2 => ?_
  have hz := of_decide_eq_true hz
  refine ⟨by rw [P2.len.2, List.length_map]; exact Nat.le_trans hz (by decide), ?_⟩
  have rp := rp_of (Bc := lsB B2 As2 (bL lv l)) (fun a z => z.1) P2 h fun i hi a m z => z.2 i (by rw [← als_bL]; exact hi) m
  exact (lo_fin (al := bL lv l) G S2 G2 h2).lst (fun a z => G2.noin a z.1) (Nat.zero_le _) rp
theorem lo_tup {k : Nat} (hl : SA X F lv Z l es) (hz : decide (l.length ≤ 1000) = true) (h : zeroW (l.map (wyE lv)) = true) : SLo X F lv Z (.tup l) (.Tuple es k pos) := by
  refine pe_of (pe_tup hl) fun σ H Q ⟨r, B, As, G, w⟩ => ?_
  simp only [evE] at w
  rw [wp_bind] at w
  refine tEvL.mk G w fun ds r2 H2 B2 As2 vs ass h2 G2 S2 P2 => ?_
  have hz := of_decide_eq_true hz
  refine ⟨by rw [P2.len.2, List.length_map]; exact Nat.le_trans hz (by decide), ?_⟩
  have rp := rp_of (Bc := lsB B2 As2 (bL lv l)) (fun a z => z.1) P2 h fun i hi a m z => z.2 i (by rw [← als_bL]; exact hi) m
  exact (lo_fin (al := bL lv l) G S2 G2 h2).tup (fun a z => G2.noin a z.1) rp
def bcOk (lv : List Nat) (sg : Sig) (l : List E) (io : List (Nat × Nat)) : Bool :=
  let ws := l.map (wyE lv)
  decide (sg.rl = 0) && fitW lv ws sg.lvs && decide (io = ioOf ws 0) && decide (iosW ws).Nodup && decide (sg.muts = io.map (·.1)) && (alsW ws).all fun i => decide (i ∉ iosW ws)
/-- g(..) whose value holds what was borrowed -/
theorem lo_call (I : FnI X F f sg) (hgd : X.A.guards = some []) (hg : Gl X f) (hdb : (f == ("__debug__" : Str)) = false) {io : List (Nat × Nat)} (hok : bcOk lv sg l io = true) {ee : Expr} (hl : SA X F lv ZF l (ee :: es)) (hs : (ee :: es).all notStar = true) :
    SLo X F lv ZF (.bcall f l io) (.Call (.Name f nm) (ee :: es) [] pos) := by
  refine pe_of (pe_callG I hgd hg hdb hl hs) fun σ H Q ⟨r, B, As, G, w⟩ => ?_
  unfold bcOk at hok
  simp only [Bool.and_eq_true, decide_eq_true_eq, List.all_eq_true] at hok
  obtain ⟨⟨⟨⟨⟨h1, h2⟩, h3⟩, h4⟩, h5⟩, h6⟩ := hok
  simp only [evE] at w
  rw [wp_bind] at w
  refine tEvL.mk G w fun ds r2 H2 B2 As2 vs ass hw G2 S2 P2 => ?_
  split at hw
  · rename_i hh
    have ww : ∀ i, ofL (wrL l) i → ofL (wrE (.bcall f l io)) i := fun i w => List.mem_append_left _ w
    rw [I.lv] at hw
    refine call_coreL (W := ofL (wrE (.bcall f l io))) G (S2.wide ww) G2 (P2.src fun u z => z.wide ww) h2 h3 h4 h5 (fun i hi => ?_) h6 hh h1 (hw.imp fun p hp H' v B' As' G' S' rp => hp H' v B' As' G' S' (by rw [als_bL] at rp; exact rp))
    refine List.mem_append_right _ ?_
    rw [h3, ioOf_snd]
    exact hi
  · exact hw.elim
end
end Pv
end
section
/-! P46: pop(), reverse(), clear(), insert(..). -/
namespace Pv
open PySem PySem.Spec PyProof.Rows L2
section
variable {X : Cx} {F : Fns} {lv : List Nat} {Z : Str → D → Prop} {pos : Pos} {a b c : E} {ea eb ec : Expr} {l : List E} {es : List Expr}
theorem erase_last {A : Type} (xs : List A) : xs.eraseIdx (xs.length - 1) = xs.dropLast := by
  rw [List.dropLast_eq_take, List.eraseIdx_eq_take_drop_succ]
  cases xs with
  | nil => rfl
  | cons x xs => simp
/-- x.pop() -/
theorem s_pop0 {i n : Nat} {x : Str} {p1 apos : Pos} (hN : X.N[i]? = some x) (hv : Vis X.env.scope x) (hd : (x == ("__debug__" : Str)) = false) (hcd : (x == ("__classdict__" : Str)) = false) (hn : lv.getD i 0 = n + 1)
    (hline : (apos.endLine == pos.line) = true) : SE X F lv Z (.mu .pop0 i []) (.Call (.Attribute (.Name x p1) "pop" apos) [] [] pos) := by
  refine pe_of (pe_bm0 PySem.F.plainAttrs_list PySem.F.slot_list_pop PySem.F.type_list_pop mt_pop (pe_var hN hv hd hcd) rfl hline) fun σ H Q h => ?_
  obtain ⟨p, ev, ⟨xs0, hx0⟩, t⟩ := mu_split hn h
  refine ⟨.ref p, ev, .inl ⟨rfl, xs0, hx0⟩, ?_⟩
  obtain ⟨r0, B0, As0, G0, w0⟩ := t
  obtain ⟨r, B, As, ds, r2, B2, As2, ass, d, z, q2, xs, bs, G, G2, S2, P2, hi, e, h4, h5, h6, q⟩ := w0 H [] ⟨B0, As0, [], G0, Stp.refl, rfl, rfl, rfl⟩
  have lz : (lvE lv (.mu .pop0 i [])) = n := by
    show lv.getD i 0 - 1 = n
    rw [hn]
    rfl
  have eds : ds = [] := List.eq_nil_of_length_eq_zero (by rw [P2.len.1]; rfl)
  subst eds
  simp only [muD] at e
  split at e <;> first | (cases e; done) | skip
  rename_i dx ex
  cases e
  rw [List.getLast?_eq_getElem?] at ex
  have ha : p ∈ As2 i := by rw [h5]; exact List.mem_cons_self
  have nd2 := G2.nd i
  rw [h5] at nd2
  have pb : B2 p := G2.ban i p ha
  have pbs : p ∉ bs := (List.nodup_cons.mp nd2).1
  obtain ⟨v, vs', cs, ev1, sb1, sb2, dj, ov, ol⟩ := h6.ers (List.nodup_cons.mp nd2).2 ex
  have hlen := h6.len
  have ol' : OwL X.K H B2 n d.dropLast xs.dropLast cs := by
    have := ol
    rw [erase_last, hlen, erase_last] at this
    exact this
  refine ⟨p, xs, v, rfl, rfl, h4, by rw [← hlen]; exact ev1, ?_⟩
  have mA : ∀ u ∈ bs, u ∈ As2 i := fun u m => by rw [h5]; exact List.mem_cons_of_mem _ m
  refine mu_fin (cs := cs) (as := vs') hn G G2 S2 hi ev ha (ol'.updA pb fun m => pbs (sb2.subset m)) (List.nodup_cons.mpr ⟨fun m => pbs (sb2.subset m), sb2.nodup (List.nodup_cons.mp nd2).2⟩) (fun u hu => ?_) q ?_ (sb1.nodup (List.nodup_cons.mp nd2).2) fun u hu => ?_
  · have m' := mA u (sb2.subset hu)
    exact ⟨G2.ban i u m', fun j hj m2 => G2.dj j i u hj m2 m', S2.srcOf List.mem_cons_self m'⟩
  · rw [lz]
    exact ov.updA pb fun m => pbs (sb1.subset m)
  · have m' := mA u (sb1.subset hu)
    exact ⟨G2.ban i u m', S2.srcOf List.mem_cons_self m', fun j hj m2 => G2.dj j i u hj m2 m', fun m2 => (List.mem_cons.mp m2).elim (fun e => pbs (e ▸ sb1.subset hu)) (dj u hu)⟩
/-- x.reverse() -/
theorem s_reverse {i : Nat} {x : Str} {p1 apos : Pos} (hN : X.N[i]? = some x) (hv : Vis X.env.scope x) (hd : (x == ("__debug__" : Str)) = false) (hcd : (x == ("__classdict__" : Str)) = false) (hn : lv.getD i 0 = 1)
    (hline : (apos.endLine == pos.line) = true) : SE X F lv Z (.mu .reverse i []) (.Call (.Attribute (.Name x p1) "reverse" apos) [] [] pos) := by
  refine pe_of (pe_bm0 PySem.F.plainAttrs_list PySem.F.slot_list_reverse PySem.F.type_list_reverse mt_reverse (pe_var hN hv hd hcd) rfl hline) fun σ H Q h => ?_
  obtain ⟨p, ev, ⟨xs0, hx0⟩, t⟩ := mu_split (n := 0) hn h
  refine ⟨.ref p, ev, .inl ⟨rfl, xs0, hx0⟩, ?_⟩
  obtain ⟨r0, B0, As0, G0, w0⟩ := t
  obtain ⟨r, B, As, ds, r2, B2, As2, ass, d, z, q2, xs, bs, G, G2, S2, P2, hi, e, h4, h5, h6, q⟩ := w0 H [] ⟨B0, As0, [], G0, Stp.refl, rfl, rfl, rfl⟩
  have eds : ds = [] := List.eq_nil_of_length_eq_zero (by rw [P2.len.1]; rfl)
  subst eds
  simp only [muD] at e
  cases e
  have h6' := OwL.zero.mp h6
  have ha : p ∈ As2 i := by rw [h5]; exact List.mem_cons_self
  have pb : B2 p := G2.ban i p ha
  refine ⟨p, xs, rfl, rfl, h4, ?_⟩
  exact mu_fin (n := 0) (cs := []) (as := []) hn G G2 S2 hi ev ha ((OwL.zero.mpr ⟨rfl, h6'.2.rev⟩ : OwL X.K H B2 0 _ _ []).updA pb (by simp)) (by simp) (by simp) q (by cases lvE lv (.mu .reverse i []) <;> simp [Ow, Rp]) List.nodup_nil (by simp)
/-- x.clear(), a list -/
theorem s_clear {i n : Nat} {x : Str} {p1 apos : Pos} (hN : X.N[i]? = some x) (hv : Vis X.env.scope x) (hd : (x == ("__debug__" : Str)) = false) (hcd : (x == ("__classdict__" : Str)) = false) (hn : lv.getD i 0 = n + 1)
    (hline : (apos.endLine == pos.line) = true) : SE X F lv Z (.mu .clear i []) (.Call (.Attribute (.Name x p1) "clear" apos) [] [] pos) := by
  refine pe_of (pe_bm0 PySem.F.plainAttrs_list PySem.F.slot_list_clear PySem.F.type_list_clear mt_clear (pe_var hN hv hd hcd) rfl hline) fun σ H Q h => ?_
  obtain ⟨p, ev, ⟨xs0, hx0⟩, t⟩ := mu_split hn h
  refine ⟨.ref p, ev, .inl ⟨rfl, xs0, hx0⟩, ?_⟩
  obtain ⟨r0, B0, As0, G0, w0⟩ := t
  obtain ⟨r, B, As, ds, r2, B2, As2, ass, d, z, q2, xs, bs, G, G2, S2, P2, hi, e, h4, h5, h6, q⟩ := w0 H [] ⟨B0, As0, [], G0, Stp.refl, rfl, rfl, rfl⟩
  have eds : ds = [] := List.eq_nil_of_length_eq_zero (by rw [P2.len.1]; rfl)
  subst eds
  simp only [muD] at e
  cases e
  have ha : p ∈ As2 i := by rw [h5]; exact List.mem_cons_self
  refine ⟨p, xs, rfl, rfl, h4, ?_⟩
  exact mu_fin (n := n) (cs := []) (as := []) hn G G2 S2 hi ev ha (by simp [OwL]) (by simp) (by simp) q (by cases lvE lv (.mu .clear i []) <;> simp [Ow, Rp]) List.nodup_nil (by simp)
/-- x.insert(i, e) -/
theorem s_insert {i : Nat} {x : Str} {p1 apos : Pos} (hN : X.N[i]? = some x) (hv : Vis X.env.scope x) (hd : (x == ("__debug__" : Str)) = false) (hcd : (x == ("__classdict__" : Str)) = false) (hl : SA X F lv Z [a, b] [ea, eb]) (hs : notStar ea = true) (hs2 : notStar eb = true) (hn : lv.getD i 0 = 1)
    (hw : evWy 0 (wyE lv a) = true) (hw2 : evWy 0 (wyE lv b) = true) (hline : (apos.endLine == pos.line) = true) : SE X F lv Z (.mu .insert i [a, b]) (.Call (.Attribute (.Name x p1) "insert" apos) [ea, eb] [] pos) := by
  have h1 := star_ok hs [eb] X.env
  have h2 := star_ok hs2 [] X.env
  refine pe_of (pe_bm PySem.F.plainAttrs_list PySem.F.slot_list_insert PySem.F.type_list_insert mt_insert (pe_var hN hv hd hcd) hl rfl (by rw [h1, h2]; rfl) hline h1 (by rw [h2]; rfl)) fun σ H Q h => ?_
  obtain ⟨p, ev, ⟨xs0, hx0⟩, t⟩ := mu_split (n := 0) hn h
  refine ⟨.ref p, ev, .inl ⟨rfl, xs0, hx0⟩, ?_⟩
  obtain ⟨r0, B0, As0, G0, w0⟩ := t
  refine ⟨r0, B0, As0, G0, w0.imp fun u hu H2 vs P => ?_⟩
  obtain ⟨r, B, As, ds, r2, B2, As2, ass, d, z, q2, xs, bs, G, G2, S2, P2, hi, e, h4, h5, h6, q⟩ := hu H2 vs P
  have o1 := (OwL.zero.mp (P2.owl (n := 0) (by simp [hw, hw2])).1).2
  match ds, e, o1 with
  | [], e, _ => simp [muD] at e
  | [_], e, _ => simp [muD] at e
  | _ :: _ :: _ :: _, e, _ => simp [muD] at e
  | [dy, dz], e, o1 =>
    cases dy <;> simp only [muD] at e <;> first | (cases e; done) | skip
    rename_i k
    obtain ⟨g, e⟩ := when_ok e
    simp only [Bool.and_eq_true, decide_eq_true_eq] at g
    cases e
    simp only [RpL] at o1
    obtain ⟨y, ys, rfl, hy, z2, zs, rfl, hz, rfl⟩ := o1
    simp only [Rp] at hy
    subst hy
    have h6' := OwL.zero.mp h6
    have hlen := h6.len
    have ha : p ∈ As2 i := by rw [h5]; exact List.mem_cons_self
    have pb : B2 p := G2.ban i p ha
    have gg := g.2
    rw [sizeLine_eq] at gg
    refine ⟨p, xs, k, z2, rfl, rfl, h4, by rw [sizeLine_eq, ← hlen]; exact gg, g.1.1, by have := g.1.2; omega, ?_⟩
    have rp : RpL X.K H2 B2 (d.take k.toNat ++ dz :: d.drop k.toNat) (xs.take k.toNat ++ [z2] ++ xs.drop k.toNat) := by
      rw [show d.take k.toNat ++ dz :: d.drop k.toNat = d.take k.toNat ++ [dz] ++ d.drop k.toNat by simp]
      exact ((h6'.2.take _).app (by simp only [RpL]; exact ⟨z2, [], rfl, hz, rfl⟩)).app (h6'.2.drop _)
    exact mu_fin (n := 0) (cs := []) (as := []) hn G G2 S2 hi ev ha ((OwL.zero.mpr ⟨rfl, rp⟩ : OwL X.K H2 B2 0 _ _ []).updA pb (by simp)) (by simp) (by simp) q (by cases lvE lv (.mu .insert i [a, b]) <;> simp [Ow, Rp]) List.nodup_nil (by simp)
end
end Pv
end
section
/-! P47: a, b = a list of own things. -/
namespace Pv
open PySem PySem.Spec PyProof.Rows L2
def gLst (K : Fg) (n : Nat) (t : TGs) : TG := fun v σ H Q => ∃ a xs, v = .ref a ∧ SqL K H a xs ∧ xs.length = n ∧ t xs σ H Q
section
variable {X : Cx} {pos : Pos}
theorem pg_lst {es : List Expr} {k : Nat} {t : TGs} {n : Nat} (hc : X.calm = true) (h : PGs X es t) (hn : (assignEach es X.env).length = n) (hst : (assignEach es X.env).findIdx? (·.1) = none) : PG X (.Tuple es k pos) (gLst X.K n t) := by
  refine ⟨fun pins s σ H v u Q I r ⟨a, xs, e1, hq, hl, hw⟩ => ?_⟩
  subst e1
  cases r
  obtain ⟨its, rv, ht, hz⟩ := I.list hq
  have hL : s.heap.IsList a its.toArray := by
    obtain ⟨o, c, e, h1, h2, h3⟩ := ht
    exact ⟨o, e, h1, c, h3⟩
  rw [assign_Tuple]
  refine wpAny_bind (wpAny_standAt ?_)
  unfold unpack
  have hsz : (assignEach es X.env).length = its.toArray.size := by rw [hn, ← hl, List.size_toArray, rv.length]
  rw [hsz, hst]
  refine wpAny_bind (wpAny_holding (PySem.W.kun_itemsOf (I.ok.hd hc) hL fun h' hx => ?_))
  have I1 : Inv X pins σ H { s with heap := h' } := I.kept (t' := s.toks) fun b o e => hx b o (Nat.ne_of_lt (Heap.lt_size e)) e
  exact h.run pins _ σ H xs _ Q I1 (by simpa using rv) hw
end
section
variable {lv : List Nat}
/-- own things go to slots -/
theorem gU_ok {K : Fg} {σ0 : Sg} {H H0 : Hp} {B B0 : No} {As0 : AsT} {W : Nat → Prop} {n : Nat} {Q : Sg → Hp → Prop} (L : List Nat) : ∀ (l : List Nat) {σ : Sg} {r : Env} {As : AsT} {ds : List D} {vs : List V} {bs : List Addr}, (∀ i ∈ l, lv.getD i 0 = n) → (∀ i ∈ l, i ∈ L ∧ W i) → l.length = ds.length → (∀ i ∈ l, i < r.length) → OwL K H B n ds vs bs → bs.Nodup →
    (∀ b ∈ bs, B b ∧ Src W H0 As0 b ∧ ∀ j, b ∉ As j) → Good K lv σ H r B As → Stp W H0 B0 As0 H B As → (∀ j, j ∉ L → σ[j]? = σ0[j]?) →
    (∀ σ' As', Good K lv σ' H (setAll l ds r) B As' → Stp W H0 B0 As0 H B As' → (∀ j, j ∉ L → σ'[j]? = σ0[j]?) → Q σ' H) → gN l vs σ H Q
  | [], σ, r, As, ds, vs, bs, h0, hL, hl, hr, ow, nd, own, G, S, fx, q => by
    have : ds = [] := (List.eq_nil_of_length_eq_zero hl.symm)
    subst this
    simp only [OwL] at ow
    obtain ⟨rfl, _⟩ := ow
    exact ⟨rfl, q σ As (by simpa [setAll] using G) S fx⟩
  | i :: l, σ, r, As, [], vs, bs, h0, hL, hl, hr, ow, nd, own, G, S, fx, q => by cases hl
  | i :: l, σ, r, As, d :: ds, vs, bs, h0, hL, hl, hr, ow, nd, own, G, S, fx, q => by
    simp only [OwL] at ow
    obtain ⟨v, vs', b1, cs, rfl, rfl, h1, h2⟩ := ow
    have nd1 := List.nodup_append.mp nd
    refine ⟨v, vs', rfl, ?_⟩
    have z := h0 i List.mem_cons_self
    have mi := hL i List.mem_cons_self
    have G' := G.asg (i := i) (d := d) (v := v) (as := b1) (hr i List.mem_cons_self) (by rw [z]; exact h1) nd1.1 (fun u hu => ⟨(own u (List.mem_append_left _ hu)).1, fun j _ => (own u (List.mem_append_left _ hu)).2.2 j⟩)
    have S' : Stp W H0 B0 As0 H B _ := S.asg (i := i) (as := b1) mi.2 fun u hu => (own u (List.mem_append_left _ hu)).2.1
    show gN l vs' (σ.set i (some v)) H Q
    refine gU_ok L l (fun j hj => h0 j (List.mem_cons_of_mem _ hj)) (fun j hj => hL j (List.mem_cons_of_mem _ hj)) (by simpa using hl) (fun j hj => by rw [List.length_set]; exact hr j (List.mem_cons_of_mem _ hj)) h2 nd1.2.1 (fun b hb => ⟨(own b (List.mem_append_right _ hb)).1, (own b (List.mem_append_right _ hb)).2.1, fun j m => ?_⟩) G' S' (fun j hj => ?_) (by simpa only [setAll] using q)
    · have m : b ∈ (if j = i then b1 else As j) := m
      split at m
      · exact nd1.2.2 b m b hb rfl
      · exact (own b (List.mem_append_right _ hb)).2.2 j m
    · exact (List.getElem?_set_ne (fun e => by subst e; exact hj mi.1)).trans (fx j hj)
end
end Pv
end
section
/-! P24: the check that a program text is the small language's text; what it gives. -/
namespace Pv
open PySem PySem.Spec PyProof.Rows L2
structure Cs where
  N : List Str
  sc : Scope
  lv : List Nat
  fs : Str → Option Sig
def bltNames : List Str := ["len", "all", "any", "sum", "min", "max", "sorted", "abs", "int", "str", "repr", "list", "tuple", "dict", "bool", "range", "enumerate", "zip", "isinstance", "set", "reversed"]
def visB (sc : Scope) (x : Str) : Bool := match sc.names.lookup x with | some .local => true | some .cell => true | some .free => true | _ => false
def glB (sc : Scope) (x : Str) : Bool := (match sc.names.lookup x with | some .globalImplicit => true | _ => false) && !(x == ("__debug__" : Str))
def locB (sc : Scope) (x : Str) : Bool := match sc.names.lookup x with | some .local => true | some .cell => true | _ => false
def nmB (C : Cs) (i : Nat) (x : Str) : Bool := decide (C.N[i]? = some x) && visB C.sc x && !(x == ("__debug__" : Str)) && !(x == ("__classdict__" : Str))
structure XOk (C : Cs) (F : Fns) (X : Cx) : Prop where
  n : X.N = C.N
  sc : X.env.scope = C.sc
  nd : X.N.Nodup
  calm : X.calm = true
  un : X.A.units + 64 < cLine
  gd : X.A.guards = some []
  blt : ∀ x ∈ bltNames, X.mg x = none
  gl : ∀ x d, F.gl x = some d → GlOk X x d
  fns : ∀ f sg, C.fs f = some sg → FnI X F f sg
theorem nm_of {C : Cs} {F : Fns} {X : Cx} (O : XOk C F X) {i : Nat} {x : Str} (h : nmB C i x = true) : X.N[i]? = some x ∧ Vis X.env.scope x ∧ (x == ("__debug__" : Str)) = false ∧ (x == ("__classdict__" : Str)) = false := by
  unfold nmB at h
  simp only [Bool.and_eq_true, decide_eq_true_eq, Bool.not_eq_true'] at h
  obtain ⟨⟨⟨h1, h2⟩, h3⟩, h4⟩ := h
  refine ⟨by rw [O.n]; exact h1, ?_, h3, h4⟩
  rw [O.sc]
  unfold visB at h2
  split at h2
  · exact .inl (by assumption)
  · exact .inr (.inl (by assumption))
  · exact .inr (.inr (by assumption))
  · cases h2
theorem gl_of {C : Cs} {F : Fns} {X : Cx} (O : XOk C F X) {x : Str} (h : glB C.sc x = true) : Gl X x ∧ (x == ("__debug__" : Str)) = false := by
  unfold glB at h
  simp only [Bool.and_eq_true, Bool.not_eq_true'] at h
  refine ⟨?_, h.2⟩
  have h1 := h.1
  split at h1
  · unfold Gl Env.kindOf
    rw [O.sc]
    assumption
  · cases h1
def djB (a b : List Nat) : Bool := a.all fun i => decide (i ∉ b)
theorem dj_of {a b : List Nat} (h : djB a b = true) : ∀ i ∈ a, i ∉ b := fun i m => of_decide_eq_true (List.all_eq_true.mp h i m)
def oneN (n : Nat) : Bool := decide (n ≤ 1)
def bltB (sc : Scope) (x : Str) : Bool := glB sc x && decide (x ∈ bltNames)
theorem blt_of {C : Cs} {F : Fns} {X : Cx} (O : XOk C F X) {x : Str} (h : bltB C.sc x = true) : Gl X x ∧ X.mg x = none := by
  unfold bltB at h
  simp only [Bool.and_eq_true, decide_eq_true_eq] at h
  exact ⟨(gl_of O h.1).1, O.blt x h.2⟩
def kB (d : D) (e : Expr) : Bool := match d, e with
  | .int i, .Constant (.int j) _ _ => decide (i = j)
  | .bool i, .Constant (.bool j) _ _ => decide (i = j)
  | .none, .Constant .none _ _ => true
  | .str i, .Constant (.str j) _ _ => decide (i = j)
  | _, _ => false
theorem k_ok {X : Cx} {F : Fns} {lv : List Nat} {Z : Str → D → Prop} {d : D} {e : Expr} (h : kB d e = true) : SE X F lv Z (.k d) e := by
  unfold kB at h
  split at h
  · rw [of_decide_eq_true h]
    exact s_int
  · rw [of_decide_eq_true h]
    exact s_bool
  · exact s_none
  · rw [of_decide_eq_true h]
    exact s_str
  · cases h
def joinA : E → Bool
  | .k (.str _) => true
  | _ => false
/-- the text of a name, a method -/
def isNm (e : Expr) (x : Str) : Bool := match e with | .Name y _ => decide (y = x) | _ => false
theorem nm_eq {e : Expr} {x : Str} (h : isNm e x = true) : ∃ p, e = .Name x p := by
  unfold isNm at h
  split at h
  · rw [of_decide_eq_true h]
    exact ⟨_, rfl⟩
  · cases h
def iterArgs (ik : IK) (e : Expr) : Option (List Expr) := match ik with
  | .seq => some [e]
  | .dk => some [e]
  | .rng => match e with | .Call f es [] _ => if isNm f "range" then some es else none | _ => none
  | .enum => match e with | .Call f es [] _ => if isNm f "enumerate" then some es else none | _ => none
  | .zip => match e with | .Call f es [] _ => if isNm f "zip" then some es else none | _ => none
  | _ => none
def isTupE : Expr → Bool
  | .Tuple _ _ _ => true
  | _ => false
/-- what else is asked of an iterable -/
def itB (C : Cs) (tge : Expr) (ik : IK) (il : List E) (iter : Expr) : Bool := notSet iter && (il.map (wyE C.lv)).all rdWy && (il.map (wyE C.lv)).all valWy && (match ik with
  | .seq => decide (il.length = 1)
  | .dk => decide (il.length = 1) && (il.map (wyE C.lv)).all (evWy 1)
  | .rng => bltB C.sc "range" && (decide (il.length = 1) || decide (il.length = 2) || decide (il.length = 3))
  | .enum => bltB C.sc "enumerate" && decide (il.length = 1) && isTupE tge
  | .zip => bltB C.sc "zip" && decide (il.length = 2) && isTupE tge
  | _ => false)
def loc1 (sc : Scope) (x : Str) : Bool := match sc.names.lookup x with | some .local => true | _ => false
/-- a comprehension's own name, or its cell -/
def locS (scope sc : Scope) (x : Str) : Bool := match sc.names.lookup x with | some .local => true | some .cell => scope.names.lookup x == some .cell | _ => false
def tgN (N : List Str) (ok : Str → Bool) : List Nat → List Expr → Bool
  | [], [] => true
  | i :: l, .Name x _ :: es => decide (N[i]? = some x) && ok x && tgN N ok l es
  | _, _ => false
/-- a target of names -/
def tgB (N : List Str) (ok : Str → Bool) (tg : Tg) (e : Expr) : Bool := match tg, e with
  | .n i, .Name x _ => decide (N[i]? = some x) && ok x
  | .t l, .Tuple es _ _ => tgN N ok l es
  | _, _ => false
def cS (C : Cs) (scope : Scope) : Cs := { C with sc := relS scope C.sc }
structure Cl where
  tg : Expr
  it : Expr
  ifs : List Expr
/-- the parts of a comprehension's clauses -/
def cls : List Comprehension → Option (List Cl)
  | [] => some []
  | ⟨t, i, f, as⟩ :: l => if as = 0 then (cls l).map fun r => ⟨t, i, f⟩ :: r else none
def lcP : Expr → Option (Expr × Cl × Scope)
  | .ListComp e gs scope _ => match cls gs with | some [c] => some (e, c, scope) | _ => none
  | _ => none
def dcP : Expr → Option (Expr × Expr × Cl × Scope)
  | .DictComp k v gs scope _ => match cls gs with | some [c] => some (k, v, c, scope) | _ => none
  | _ => none
def dc2P : Expr → Option (Expr × Expr × Cl × Cl × Scope)
  | .DictComp k v gs scope _ => match cls gs with | some [c, d] => some (k, v, c, d, scope) | _ => none
  | _ => none
/-- len({x for .. for ..}) -/
def ls2P : Expr → Option (Expr × Expr × Cl × Cl × Scope)
  | .Call f [.SetComp k gs scope _] [] _ => match cls gs with | some [c, d] => some (f, k, c, d, scope) | _ => none
  | _ => none
def itA (ik : IK) (e : Expr) : List Expr := (iterArgs ik e).getD []
/-- a clause: its target, its iterable -/
def clB (C C2 : Cs) (scope : Scope) (own : List Nat) (tg : Tg) (ik : IK) (il : List E) (c : Cl) : Bool :=
  tgB C.N (locS scope C2.sc) tg c.tg && itB C c.tg ik il c.it && (iterArgs ik c.it).isSome && (tgL tg).all fun i => decide (C.lv.getD i 0 = 0) && decide (i ∈ own)
/-- the clause walks a dict that a name holds -/
def dvB (C C2 : Cs) (scope : Scope) (own : List Nat) (tg : Tg) (ik : IK) (il : List E) (c : Cl) : Bool := match ik, il, c.it with
  | .dk, [.v i], .Name x _ => tgB C.N (locS scope C2.sc) tg c.tg && nmB C i x && decide (C.lv.getD i 0 = 0) && (tgL tg).all fun i => decide (C.lv.getD i 0 = 0) && decide (i ∈ own)
  | _, _, _ => false
def blB (C : Cs) (scope : Scope) (own : List Nat) : Bool := blkC C.N C.sc scope (own.map fun i => ((C.N[i]?).getD "", i))
def dcE (C : Cs) (kx vx : E) : Bool := decide (alE C.lv vx = []) && decide (lvE C.lv vx = 0) && djB (alE C.lv kx) (wrE vx)
def djI (C : Cs) (il : List E) (w : List Nat) : Bool := djB (alsW (il.map (wyE C.lv))) w
def ssP : Expr → Option Expr
  | .Call f [.Call g [ea] [] _] [] _ => if isNm f "sorted" && isNm g "set" then some ea else none
  | _ => none
def nmP : Expr → Option Str
  | .Name x _ => some x
  | _ => none
def ccP : Expr → Option (Str × Str × List Expr)
  | .Call f [.Call g (ea :: es) [] _] [] _ => match nmP f, nmP g with | some x, some y => some (x, y, ea :: es) | _, _ => none
  | _ => none
def dctB : List E → Expr → Bool
  | [], .Dict [] [] _ => true
  | [.k (.str x), .k (.int i)], .Dict [some (.Constant (.str y) _ _)] [.Constant (.int j) _ _] _ => decide (x = y) && decide (i = j)
  | [.k (.str x), .k (.int i), .k (.str x2), .k (.int i2)], .Dict [some (.Constant (.str y) _ _), some (.Constant (.str y2) _ _)] [.Constant (.int j) _ _, .Constant (.int j2) _ _] _ => decide (x = y) && decide (i = j) && decide (x2 = y2) && decide (i2 = j2) && decide (y ≠ y2)
  | _, _ => false
def ccB (C : Cs) (f g x y : Str) (n : Nat) (l : List E) (io : List (Nat × Nat)) : Bool := decide (x = f) && decide (y = g) && glB C.sc f && glB C.sc g && (match C.fs f, C.fs g with | some sf, some sg => ccOk C.lv sg sf n l io | _, _ => false)
def ssB (C : Cs) (a : E) (ea : Expr) : Bool := bltB C.sc "sorted" && bltB C.sc "set" && notStar ea && oneN (lvE C.lv a)
/-- x.name(..) -/
def muP : Expr → Option (Str × Str × List Expr × Bool)
  | .Call (.Attribute (.Name x _) nm apos) es [] pos => some (x, nm, es, apos.endLine == pos.line)
  | _ => none
/-- d.clear() -/
def dclP (C : Cs) (i : Nat) (e : Expr) : Bool := match muP e with
  | some (x, nm, [], b) => nmB C i x && decide (nm = "clear") && b && decide (C.lv.getD i 0 = 1)
  | _ => false
def muB (C : Cs) (m : Mu) (i : Nat) (nm : Str) (l : List E) : Bool :=
  match m, l with
  | .append, [a] => decide (nm = "append") && decide (1 ≤ C.lv.getD i 0) && evWy (C.lv.getD i 0 - 1) (wyE C.lv a)
  | .pop, [a] => decide (nm = "pop") && decide (1 ≤ C.lv.getD i 0) && valWy (wyE C.lv a)
  | .extend, [a] => decide (nm = "extend") && decide (C.lv.getD i 0 = 1) && (match wyE C.lv a with | .val _ n => decide (n = 1) | _ => false)
  | .pop0, [] => decide (nm = "pop") && decide (1 ≤ C.lv.getD i 0)
  | .reverse, [] => decide (nm = "reverse") && decide (C.lv.getD i 0 = 1)
  | .clear, [] => decide (nm = "clear") && decide (1 ≤ C.lv.getD i 0)
  | .insert, [a, b] => decide (nm = "insert") && decide (C.lv.getD i 0 = 1) && evWy 0 (wyE C.lv a) && evWy 0 (wyE C.lv b)
  | _, _ => false
def bcB (C : Cs) (f : Str) (fe : Expr) (l : List E) (es : List Expr) (io : List (Nat × Nat)) : Bool :=
  match C.fs f with
  | some sg => isNm fe f && glB C.sc f && bcOk C.lv sg l io && es.all notStar && !es.isEmpty
  | none => false
def loB (C : Cs) (l : List E) : Bool := decide (l.length ≤ 1000) && zeroW (l.map (wyE C.lv))
def meB (lv : List Nat) (m : Me) (nm : Str) (a b : E) : Bool := match m, b with
  | .join, _ => decide (nm = "join") && joinA a
  | .count, .k (.int _) => decide (nm = "count") && oneN (lvE lv a)
  | _, _ => false
/-- isinstance(x, T), isinstance(x, (T, U)) -/
def isaP (C : Cs) (ts : List Ty) (e : Expr) : Option Expr := match e, ts with
  | .Call f [ea, .Tuple [ty, tz] _ _] [] _, [T, U] => if isNm f "isinstance" && isNm ty (tyN T) && isNm tz (tyN U) && notStar ea && bltB C.sc "isinstance" && bltB C.sc (tyN T) && bltB C.sc (tyN U) then some ea else none
  | .Call f [ea, ty] [] _, [T] => if isNm f "isinstance" && isNm ty (tyN T) && notStar ea && bltB C.sc "isinstance" && bltB C.sc (tyN T) then some ea else none
  | _, _ => none
mutual
/-- t: as a test -/
def mE (t : Bool) (C : Cs) : E → Expr → Bool
  | .k d, e => (!t || plainTest e) && kB d e
  | .v i, e => match e with | .Name x _ => nmB C i x | _ => false
  | .mv i, e => match e with | .Name x _ => nmB C i x | _ => false
  | .gl x, e => match e with | .Name y _ => decide (x = y) && glB C.sc x | _ => false
  | .bin o a b, e => match e with
    | .BinOp ea op eb _ => decide (op = bop o) && mE false C a ea && mE false C b eb && djB (alE C.lv a) (wrE b) && oneN (lvE C.lv a) && oneN (lvE C.lv b)
    | _ => false
  | .neg a, e => match e with | .UnaryOp .USub ea _ => mE false C a ea | _ => false
  | .not a, e => match e with | .UnaryOp .Not ea _ => mE t C a ea | _ => false
  | .cmp o a b, e => match e with
    | .Compare ea [op] [eb] _ => decide (op = cop o) && mE false C a ea && mE false C b eb && djB (alE C.lv a) (wrE b) && notSet eb
    | _ => false
  | .cmp2 o p a b c, e => match e with
    | .Compare ea [op, op2] [eb, ec] _ => decide (op = cop o) && decide (op2 = cop p) && mE false C a ea && mE false C b eb && mE false C c ec && djB (alE C.lv a) (wrE b) && djB (alE C.lv b) (wrE c) && notSet ec
    | _ => false
  | .and a b, e => match e with
    | .BoolOp .And (x :: y :: rest) pos => mE t C a x && (match rest with | [] => mE t C b y | _ :: _ => mE t C b (.BoolOp .And (y :: rest) pos)) && (t || (decide (lvE C.lv a = 0) && decide (alE C.lv a = []) && decide (lvE C.lv b = 0) && decide (alE C.lv b = [])))
    | _ => false
  | .or a b, e => match e with
    | .BoolOp .Or (x :: y :: rest) pos => mE t C a x && (match rest with | [] => mE t C b y | _ :: _ => mE t C b (.BoolOp .Or (y :: rest) pos)) && (t || (decide (lvE C.lv a = 0) && decide (alE C.lv a = []) && decide (lvE C.lv b = 0) && decide (alE C.lv b = [])))
    | _ => false
  | .ite c a b, e => match e with
    | .IfExp ec ea eb _ => !t && mE true C c ec && mE false C a ea && mE false C b eb && decide (lvE C.lv b = lvE C.lv a) && decide ((alE C.lv a = [] → alE C.lv b = []) ∧ (alE C.lv b = [] → alE C.lv a = []))
    | _ => false
  | .lst l, e => match e with | .List es _ => mL C l es && decide (l.length ≤ 1000) && (l.map (wyE C.lv)).all (evWy (lvL C.lv l)) | _ => false
  | .tup l, e => match e with | .Tuple es _ _ => mL C l es && decide (l.length ≤ 1000) && (l.map (wyE C.lv)).all (evWy 0) | _ => false
  | .ix a b, e => match e with
    | .Subscript ea eb _ => mE false C a ea && mE false C b eb && djB (alE C.lv a) (wrE b) && oneN (lvE C.lv a) && oneN (lvE C.lv b) && plainIx eb
    | _ => false
  | .ix2 a b, e => match e with
    | .Subscript ea eb _ => mE false C a ea && mE false C b eb && djB (alE C.lv a) (wrE b) && decide (1 ≤ lvE C.lv a) && plainIx eb
    | _ => false
  | .sl _ a lo hi, e => match e with
    | .Subscript ea (.Slice el eh none _) _ => mE false C a ea && (match el with | none => isAbs lo | some x => !isAbs lo && mE false C lo x) && (match eh with | none => isAbs hi | some x => !isAbs hi && mE false C hi x) &&
        djB (alE C.lv a) (wrE lo) && djB (alE C.lv a) (wrE hi) && oneN (lvE C.lv a)
    | _ => false
  | .rev a, e => match e with
    | .Subscript ea (.Slice none none (some (.UnaryOp .USub (.Constant (.int 1) _ _) _)) _) _ => mE false C a ea && oneN (lvE C.lv a)
    | _ => false
  | .isa a ts, e => match isaP C ts e with
    | some ea => mE false C a ea
    | none => false
  | .bi b l, e => match e, l with
    | .Call f (ea :: es) [] _, a :: l' => isNm f (biName b) && biHere b && bltB C.sc (biName b) && mE false C a ea && !isIo a && djB (alE C.lv a) (wrL l') && mL C l' es && (ea :: es).all notStar &&
        (((a :: l').map (wyE C.lv)).all rdWy || (((a :: l').map (wyE C.lv)).all valWy && biImm b))
    | _, _ => false
  | .me m a l, e => match e, l with
    | .Call (.Attribute ea nm apos) [eb] [] pos, [b] => meB C.lv m nm a b && mE false C a ea && mE false C b eb && notCall0 ea && notStar eb && djB (alE C.lv a) (wrE b) && (apos.endLine == pos.line)
    | _, _ => false
  | .mu m i l, e => match muP e with
    | some (x, nm, es, b) => nmB C i x && mL C l es && es.all notStar && b && muB C m i nm l
    | none => false
  | .call f n l pm io bo, e => match e, C.fs f with
    | .Call fe es kws _, some sg => isNm fe f && glB C.sc f && (match kws with
      | [] => decide (pm = []) && callOk C.lv sg n l io bo && mL C l es && es.all notStar
      | _ :: _ => decide (es = []) && decide (io = []) && kwOk C.lv sg n l pm bo && decide ((kws.filterMap (·.arg), pm) ∈ sg.kws) && (kws.all (·.arg.isSome)) && mK C l kws)
    | _, _ => false
  | .cc f n g l io, e => match ccP e with
    | some (x, y, es) => ccB C f g x y n l io && mL C l es && es.all notStar
    | none => false
  | .ss a, e => match ssP e with
    | some ea => mE false C a ea && ssB C a ea
    | none => false
  | .dct l, e => dctB l e
  | .dclr i, e => dclP C i e
  | .lc e tg ik il ifs own, ex => match lcP ex with
    | some (elt, c, scope) => blB C scope own && (dvB C (cS C scope) scope own tg ik il c || (clB C (cS C scope) scope own tg ik il c && mL C il (itA ik c.it) && djI C il (own ++ (wrL ifs ++ wrE e)))) && mT (cS C scope) ifs c.ifs && mE false (cS C scope) e elt && decide (alE C.lv e = [])
    | none => false
  | .dc kx vx tg ik il ifs own, ex => match dcP ex with
    | some (kex, vex, c, scope) => blB C scope own && clB C (cS C scope) scope own tg ik il c && mL C il (itA ik c.it) && mT (cS C scope) ifs c.ifs && mE false (cS C scope) kx kex && mE false (cS C scope) vx vex && djI C il (own ++ (wrL ifs ++ (wrE kx ++ wrE vx))) && dcE C kx vx
    | none => false
  | .dc2 kx vx tg ik il ifs tg2 ik2 il2 ifs2 own own2, ex => match dc2P ex with
    | some (kex, vex, c, d, scope) => blB C scope own && clB C (cS C scope) scope own tg ik il c && mL C il (itA ik c.it) && mT (cS C scope) ifs c.ifs && clB (cS C scope) (cS C scope) scope own2 tg2 ik2 il2 d && mL (cS C scope) il2 (itA ik2 d.it) && mT (cS C scope) ifs2 d.ifs &&
        mE false (cS C scope) kx kex && mE false (cS C scope) vx vex && djI C il (own ++ (wrL ifs ++ (wrL il2 ++ (wrL ifs2 ++ (wrE kx ++ wrE vx))))) && (own2.all fun i => decide (i ∈ own)) && djI C il2 (own2 ++ (wrL ifs2 ++ (wrE kx ++ wrE vx))) && decide (lvE C.lv vx = 0)
    | none => false
  | .ls2 kx tg ik il ifs tg2 ik2 il2 ifs2 own own2, ex => match ls2P ex with
    | some (f, kex, c, d, scope) => blB C scope own && clB C (cS C scope) scope own tg ik il c && mL C il (itA ik c.it) && mT (cS C scope) ifs c.ifs && clB (cS C scope) (cS C scope) scope own2 tg2 ik2 il2 d && mL (cS C scope) il2 (itA ik2 d.it) && mT (cS C scope) ifs2 d.ifs &&
        mE false (cS C scope) kx kex && djI C il (own ++ (wrL ifs ++ (wrL il2 ++ (wrL ifs2 ++ wrE kx)))) && (own2.all fun i => decide (i ∈ own)) && djI C il2 (own2 ++ (wrL ifs2 ++ wrE kx)) && isNm f "len" && bltB C.sc "len"
    | none => false
  | .chk _ a, e => (!t || plainTest e) && mE false C a e && decide (lvE C.lv a = 0)
  | .dn n a, e => (!t || plainTest e) && mE false C a e && decide (n ≤ lvE C.lv a) && decide (alE C.lv a = [])
  | _, _ => false
def mL (C : Cs) : List E → List Expr → Bool
  | [], es => match es with | [] => true | _ => false
  | a :: l, es => match es with
    | ea :: es' => (match a with
      | .io i => (match ea with | .Name x _ => nmB C i x | _ => false)
      | .lo _ => mLo C a ea
      | _ => mE false C a ea) && djB (alE C.lv a) (wrL l) && notStar ea && mL C l es'
    | _ => false
def mLo (C : Cs) : E → Expr → Bool
  | .lo b, e => mLb C b e
  | _, _ => false
def mLb (C : Cs) : E → Expr → Bool
  | .lst l, e => match e with | .List es _ => mL C l es && loB C l | _ => false
  | .tup l, e => match e with | .Tuple es _ _ => mL C l es && loB C l | _ => false
  | .bcall f l io, e => match e with | .Call fe es [] _ => mL C l es && bcB C f fe l es io | _ => false
  | _, _ => false
def mT (C : Cs) : List E → List Expr → Bool
  | [], es => match es with | [] => true | _ => false
  | a :: l, es => match es with
    | ea :: es' => mE true C a ea && l.isEmpty && es'.isEmpty
    | _ => false
def mK (C : Cs) : List E → List Keyword → Bool
  | [], kws => match kws with | [] => true | _ => false
  | a :: l, kws => match kws with
    | ⟨_, ea, _⟩ :: kws' => mE false C a ea && !isIo a && djB (alE C.lv a) (wrL l) && mK C l kws'
    | _ => false
end
end Pv
end
section
/-! P25: the check is sound: expressions. -/
namespace Pv
open PySem PySem.Spec PyProof.Rows L2
/-- as a test; and, or: whatever stands around -/
def GoalT (X : Cx) (F : Fns) (lv : List Nat) (x : E) (e : Expr) : Prop := match e with
  | .BoolOp _ _ _ => SW X F lv ZF x e
  | _ => ST X F lv ZF x e
theorem GoalT.st {X : Cx} {F : Fns} {lv : List Nat} {x : E} {e : Expr} (h : GoalT X F lv x e) : ST X F lv ZF x e := by
  cases e <;> first | exact h | exact PW.pt h
def Got (X : Cx) (F : Fns) (lv : List Nat) (t : Bool) (x : E) (e : Expr) : Prop := (t = false → SE X F lv ZF x e) ∧ (t = true → GoalT X F lv x e)
theorem Got.val {X : Cx} {F : Fns} {lv : List Nat} {t : Bool} {x : E} {e : Expr} (h : SE X F lv ZF x e) (p : t = false ∨ plainTest e = true) : Got X F lv t x e := by
  refine ⟨fun _ => h, fun ht => ?_⟩
  have p := p.resolve_left (by rw [ht]; decide)
  have := t_val h p
  cases e <;> first | exact this | cases p
theorem Got.fst {X : Cx} {F : Fns} {lv : List Nat} {x : E} {e : Expr} (h : Got X F lv false x e) : SE X F lv ZF x e := h.1 rfl
theorem Got.snd {X : Cx} {F : Fns} {lv : List Nat} {x : E} {e : Expr} (h : Got X F lv true x e) : ST X F lv ZF x e := (h.2 rfl).st
theorem tOr {t : Bool} {e : Expr} (h : (!t || plainTest e) = true) : t = false ∨ plainTest e = true := by
  cases t
  · exact .inl rfl
  · exact .inr h
theorem mL_len {C : Cs} : ∀ (l : List E) (es : List Expr), mL C l es = true → l.length = es.length
  | [], es, h => by
    cases es with
    | nil => rfl
    | cons _ _ => simp [mL] at h
  | a :: l, es, h => by
    cases es with
    | nil => simp [mL] at h
    | cons ea es =>
      simp only [mL, Bool.and_eq_true] at h
      simp [mL_len l es h.2]
theorem kw_names (pos : Pos) (env : PySem.Env) : ∀ (kws : List Keyword), (backToKw pos (keywordEach kws env)).map (·.1) = kws.map (·.arg)
  | [] => rfl
  | ⟨n, v, p⟩ :: kws => by
    have := kw_names pos env kws
    show n :: _ = n :: _
    rw [← this]
    rfl
theorem kw_ok (pos : Pos) (env : PySem.Env) (kws : List Keyword) (h : kws.all (·.arg.isSome) = true) : (backToKw pos (keywordEach kws env)).all (·.1.isSome) = true ∧ (backToKw pos (keywordEach kws env)).filterMap (·.1) = kws.filterMap (·.arg) ∧
    ((backTo pos (starEach [] env)).any (·.1) || (backToKw pos (keywordEach kws env)).any (·.1.isNone)) = false := by
  have e := kw_names pos env kws
  have a1 : (backToKw pos (keywordEach kws env)).all (·.1.isSome) = true := by
    have : ((backToKw pos (keywordEach kws env)).map (·.1)).all (·.isSome) = true := by rw [e, List.all_map]; exact h
    rw [List.all_map] at this
    exact this
  refine ⟨a1, ?_, ?_⟩
  · have : ((backToKw pos (keywordEach kws env)).map (·.1)).filterMap id = (kws.map (·.arg)).filterMap id := by rw [e]
    rw [List.filterMap_map, List.filterMap_map] at this
    exact this
  · show (false || _) = false
    rw [Bool.false_or, List.any_eq_false]
    intro x hx
    have := List.all_eq_true.mp a1 x hx
    cases q : x.1 with
    | none => rw [q] at this; cases this
    | some _ => simp
theorem XOk.blk {C : Cs} {F : Fns} {X : Cx} (O : XOk C F X) (s : Shared) (H : Hp) (scope : Scope) (cl : List (Str × Addr)) (c : Addr) (fp : List Addr) : XOk { C with sc := relS scope C.sc } F (X.blk s H scope (compEnvC scope cl c X.env) fp) :=
  ⟨O.n, by rw [← O.sc]; rfl, O.nd, O.calm, O.un, O.gd, O.blt, O.gl, fun f sg h => let I := O.fns f sg h; ⟨I.ex, I.lv, I.len⟩⟩
theorem tgN_ok {X : Cx} {ok : Str → Bool} (hok : ∀ x, ok x = true → Loc X.env.scope x ∧ (X.fn x = true ∨ X.env.scope.names.lookup x = some .local)) (nd : X.N.Nodup) : ∀ (l : List Nat) (es : List Expr), tgN X.N ok l es = true →
    PGs X es (gN l) ∧ (assignEach es X.env).length = l.length ∧ (assignEach es X.env).findIdx? (·.1) = none
  | [], es, h => by
    cases es with
    | nil => exact ⟨pgs_nil, rfl, rfl⟩
    | cons e es => cases e <;> simp [tgN] at h
  | i :: l, es, h => by
    cases es with
    | nil => simp [tgN] at h
    | cons e es =>
      cases e <;> first | (simp [tgN] at h; done) | skip
      rename_i x p
      simp only [tgN, Bool.and_eq_true, decide_eq_true_eq] at h
      obtain ⟨⟨h1, h2⟩, h3⟩ := h
      obtain ⟨k1, k2⟩ := hok x h2
      obtain ⟨g1, g2, g3⟩ := tgN_ok hok nd l es h3
      refine ⟨pgs_cons (pg_name nd h1 k1 k2) g1 rfl, ?_, ?_⟩
      · show (_ :: assignEach es X.env).length = _
        simp [g2]
      · show ((false, _) :: assignEach es X.env).findIdx? (·.1) = none
        rw [List.findIdx?_cons]
        simp [g3]
theorem tgB_ok {X : Cx} {ok : Str → Bool} (hc : X.calm = true) (hok : ∀ x, ok x = true → Loc X.env.scope x ∧ (X.fn x = true ∨ X.env.scope.names.lookup x = some .local)) (nd : X.N.Nodup) {tg : Tg} {e : Expr} (h : tgB X.N ok tg e = true) : PG X e (gT X.K tg) := by
  unfold tgB at h
  split at h
  · simp only [Bool.and_eq_true, decide_eq_true_eq] at h
    obtain ⟨k1, k2⟩ := hok _ h.2
    exact pg_name nd h.1 k1 k2
  · obtain ⟨g1, g2, g3⟩ := tgN_ok hok nd _ _ h
    exact pg_tup hc g1 g2 g3
  · cases h
theorem set_ok {e : Expr} (h : notSet e = true) (env : PySem.Env) (x : Value) : foldedSetIterable e env x = pure x := by cases e <;> first | rfl | cases h
/-- an iterable, from its arguments -/
theorem it_ok {C : Cs} {F : Fns} {X : Cx} (O : XOk C F X) {tge iter : Expr} {ik : IK} {il : List E} {es : List Expr} (h : itB C tge ik il iter = true) (ha : iterArgs ik iter = some es) (hl : SA X F C.lv ZF il es) (hlen : il.length = es.length) (hst : es.all notStar = true)
    (h1 : ∀ a, il = [a] → ik = .seq ∨ ik = .dk → SE X F C.lv ZF a iter ∧ isIo a = false) : SI X F C.lv ZF tge ik il iter := by
  unfold itB at h
  simp only [Bool.and_eq_true] at h
  obtain ⟨⟨⟨k1, k2⟩, k3⟩, k4⟩ := h
  cases ik with
  | seq =>
    simp only [decide_eq_true_eq] at k4
    match il, k4 with
    | [a], _ =>
      obtain ⟨g1, g2⟩ := h1 a rfl (.inl rfl)
      refine i_seq g1 g2 ?_
      simp only [List.map_cons, List.map_nil, List.all_cons, List.all_nil, Bool.and_true] at k2
      rw [wy_val g2] at k2
      exact of_decide_eq_true k2
  | dk =>
    simp only [Bool.and_eq_true, decide_eq_true_eq] at k4
    match il, k4 with
    | [a], k4 =>
      obtain ⟨g1, g2⟩ := h1 a rfl (.inr rfl)
      have k5 := k4.2
      simp only [List.map_cons, List.map_nil, List.all_cons, List.all_nil, Bool.and_true] at k5
      rw [wy_val g2] at k5
      simp only [evWy, Bool.and_eq_true, decide_eq_true_eq, List.isEmpty_iff] at k5
      exact i_dict g1 g2 k5.2 k5.1
  | rng =>
    simp only [Bool.and_eq_true, Bool.or_eq_true, decide_eq_true_eq] at k4
    obtain ⟨b1, b2⟩ := blt_of O k4.1
    simp only [iterArgs] at ha
    split at ha
    · split at ha
      · rename_i hn
        cases ha
        obtain ⟨p, rfl⟩ := nm_eq hn
        match il, es, hlen, k4.2, hst, hl, k3 with
        | [a], [ea], _, _, hst, hl, k3 => exact i_rng1 b1 b2 hl (by simpa using hst) k3
        | [a, b], [ea, eb], _, _, hst, hl, k3 =>
          simp only [List.all_cons, List.all_nil, Bool.and_true, Bool.and_eq_true] at hst
          exact i_rng2 b1 b2 hl hst.1 hst.2 k3
        | [a, b, c], [ea, eb, ec], _, _, hst, hl, k3 =>
          simp only [List.all_cons, List.all_nil, Bool.and_true, Bool.and_eq_true] at hst
          exact i_rng3 b1 b2 hl hst.1 hst.2.1 hst.2.2 k3
        | [], _, _, k, _, _, _ => simp at k
        | _ :: _ :: _ :: _ :: _, _, _, k, _, _, _ => simp at k
      · cases ha
    · cases ha
  | enum =>
    simp only [Bool.and_eq_true, decide_eq_true_eq] at k4
    obtain ⟨b1, b2⟩ := blt_of O k4.1.1
    simp only [iterArgs] at ha
    split at ha
    · split at ha
      · rename_i hn
        cases ha
        obtain ⟨p, rfl⟩ := nm_eq hn
        have ht := k4.2
        cases tge <;> first | (cases ht; done) | skip
        match il, es, hlen, k4.1.2, hst, hl, k2 with
        | [a], [ea], _, _, hst, hl, k2 => exact i_enum b1 b2 hl (by simpa using hst) k2
      · cases ha
    · cases ha
  | zip =>
    simp only [Bool.and_eq_true, decide_eq_true_eq] at k4
    obtain ⟨b1, b2⟩ := blt_of O k4.1.1
    simp only [iterArgs] at ha
    split at ha
    · split at ha
      · rename_i hn
        cases ha
        obtain ⟨p, rfl⟩ := nm_eq hn
        have ht := k4.2
        cases tge <;> first | (cases ht; done) | skip
        match il, es, hlen, k4.1.2, hst, hl, k2 with
        | [a, b], [ea, eb], _, _, hst, hl, k2 =>
          simp only [List.all_cons, List.all_nil, Bool.and_true, Bool.and_eq_true] at hst
          exact i_zip b1 b2 hl hst.1 hst.2 k2
      · cases ha
    · cases ha
  | items => cases k4
  | values => cases k4
theorem mL_star {C : Cs} : ∀ (l : List E) (es : List Expr), mL C l es = true → es.all notStar = true
  | [], es, h => by
    cases es with
    | nil => rfl
    | cons _ _ => simp [mL] at h
  | a :: l, es, h => by
    cases es with
    | nil => simp [mL] at h
    | cons ea es =>
      simp only [mL, Bool.and_eq_true] at h
      simp only [List.all_cons, Bool.and_eq_true]
      exact ⟨h.1.2, mL_star l es h.2⟩
theorem own_map {N : List Str} (own : List Nat) : (own.map fun i => ((N[i]?).getD (Str.ofString ""), i)).map (·.2) = own := by
  induction own with
  | nil => rfl
  | cons i l ih => simpa using ih
def SA1 (X : Cx) (F : Fns) (lv : List Nat) (l : List E) (es : List Expr) : Prop := SA X F lv ZF l es ∧ ∀ a ea, l = [a] → es = [ea] → isIo a = false → SE X F lv ZF a ea
theorem si_ok {C : Cs} {F : Fns} {X : Cx} (O : XOk C F X) {tge iter : Expr} {ik : IK} {il : List E} (h4 : itB C tge ik il iter = true) (hs : (iterArgs ik iter).isSome = true) (hm : mL C il (itA ik iter) = true)
    (hA : SA1 X F C.lv il (itA ik iter)) : SI X F C.lv ZF tge ik il iter := by
  have hv : (il.map (wyE C.lv)).all valWy = true := by
    unfold itB at h4
    simp only [Bool.and_eq_true] at h4
    exact h4.1.2
  cases hes : iterArgs ik iter with
  | none => rw [hes] at hs; cases hs
  | some es =>
    have e : itA ik iter = es := by unfold itA; rw [hes]; rfl
    rw [e] at hm hA
    refine it_ok O h4 hes hA.1 (mL_len il es hm) (mL_star il es hm) fun a ea ek => ?_
    have hes : es = [iter] := by rcases ek with ek | ek <;> (subst ek; cases hes; rfl)
    subst ea hes
    have hio : isIo a = false := by
      simp only [List.map_cons, List.map_nil, List.all_cons, List.all_nil, Bool.and_true] at hv
      cases a <;> first | rfl | cases hv
    exact ⟨hA.2 a iter rfl rfl hio, hio⟩
theorem it_facts {C : Cs} {tge iter : Expr} {ik : IK} {il : List E} (h4 : itB C tge ik il iter = true) : (il.map (wyE C.lv)).all valWy = true ∧ (il.map (wyE C.lv)).all rdWy = true ∧ notSet iter = true := by
  unfold itB at h4
  simp only [Bool.and_eq_true] at h4
  exact ⟨h4.1.2, h4.1.1.2, h4.1.1.1⟩
theorem locS_of {scope sc : Scope} {x : Str} (hx : locS scope sc x = true) : sc.names.lookup x = some .local ∨ (sc.names.lookup x = some .cell ∧ (scope.names.lookup x == some .cell) = true) := by
  unfold locS at hx
  split at hx
  · exact .inl (by assumption)
  · exact .inr ⟨by assumption, hx⟩
  · cases hx
theorem me_of {F : Fns} {X : Cx} {lv : List Nat} {Z : Str → D → Prop} {m : Me} {nm : Str} {a b : E} {ea eb : Expr} {apos pos : Pos} (h : meB lv m nm a b = true) (ha : SE X F lv Z a ea) (hb : SE X F lv Z b eb) (hc : notCall0 ea = true) (hs : notStar eb = true) (dj : ∀ i ∈ alE lv a, i ∉ wrE b) (hline : (apos.endLine == pos.line) = true) :
    SE X F lv Z (.me m a [b]) (.Call (.Attribute ea nm apos) [eb] [] pos) := by
  unfold meB at h
  split at h
  · simp only [Bool.and_eq_true, decide_eq_true_eq] at h
    obtain ⟨rfl, h3⟩ := h
    have hj : ∃ z, a = .k (.str z) := by
      cases a <;> simp only [joinA] at h3 <;> first | (cases h3; done) | skip
      rename_i d
      cases d <;> first | exact ⟨_, rfl⟩ | cases h3
    exact s_join ha hb hc hs dj hline hj
  · simp only [Bool.and_eq_true, decide_eq_true_eq, oneN] at h
    obtain ⟨rfl, h3⟩ := h
    exact s_count ha (a_cons hb a_nil rfl (fun i m => by cases m) hs) hc hs h3 hline
  · cases h
theorem isa_of {C : Cs} {F : Fns} {X : Cx} (O : XOk C F X) {a : E} {ts : List Ty} {e ea : Expr} (h : isaP C ts e = some ea) (ha : SE X F C.lv ZF a ea) : SE X F C.lv ZF (.isa a ts) e ∧ plainTest e = true := by
  unfold isaP at h
  split at h
  · split at h
    · rename_i hp
      cases h
      simp only [Bool.and_eq_true] at hp
      obtain ⟨⟨⟨⟨⟨⟨h1, h2⟩, h3⟩, h4⟩, h5⟩, h6⟩, h7⟩ := hp
      obtain ⟨p1, rfl⟩ := nm_eq h1
      obtain ⟨p2, rfl⟩ := nm_eq h2
      obtain ⟨p3, rfl⟩ := nm_eq h3
      obtain ⟨g1, g2⟩ := blt_of O h5
      obtain ⟨g3, g4⟩ := blt_of O h6
      obtain ⟨g5, g6⟩ := blt_of O h7
      exact ⟨s_isa2 ha h4 g1 g2 g3 g4 g5 g6, rfl⟩
    · cases h
  · split at h
    · rename_i hp
      cases h
      simp only [Bool.and_eq_true] at hp
      obtain ⟨⟨⟨⟨h1, h2⟩, h4⟩, h5⟩, h6⟩ := hp
      obtain ⟨p1, rfl⟩ := nm_eq h1
      obtain ⟨p2, rfl⟩ := nm_eq h2
      obtain ⟨g1, g2⟩ := blt_of O h5
      obtain ⟨g3, g4⟩ := blt_of O h6
      exact ⟨s_isa ha h4 g1 g2 g3 g4, rfl⟩
    · cases h
  · cases h
theorem pg_blk {C : Cs} {F : Fns} {X : Cx} (O : XOk C F X) {scope : Scope} {tg : Tg} {tge : Expr} (h3 : tgB C.N (locS scope (relS scope C.sc)) tg tge = true) (s : Shared) (H : Hp) (c : Addr) (cl : List (Str × Addr)) (fp : List Addr) : PG (X.blk s H scope (compEnvC scope cl c X.env) fp) tge (gT X.K tg) := by
  have O' := O.blk s H scope cl c fp
  refine tgB_ok (ok := locS scope (relS scope C.sc)) O'.calm (fun x hx => ?_) O'.nd (by rw [O'.n]; exact h3)
  have e : (X.blk s H scope (compEnvC scope cl c X.env) fp).env.scope = relS scope C.sc := O'.sc
  rcases locS_of hx with h | ⟨h, k⟩
  · rw [← e] at h
    exact ⟨.inl h, .inr h⟩
  · rw [← e] at h
    exact ⟨.inr h, .inl k⟩
theorem tg_own {lv own : List Nat} {tg : Tg} (h8 : ((tgL tg).all fun i => decide (lv.getD i 0 = 0) && decide (i ∈ own)) = true) : ∀ i ∈ tgL tg, lv.getD i 0 = 0 ∧ i ∈ own := fun i m => by
  have := List.all_eq_true.mp h8 i m
  simp only [Bool.and_eq_true, decide_eq_true_eq] at this
  exact this
theorem cls_one {gs : List Comprehension} {c : Cl} (h : cls gs = some [c]) : gs = [⟨c.tg, c.it, c.ifs, 0⟩] := by
  match gs, h with
  | ⟨t, i, f, as⟩ :: l, h =>
    simp only [cls] at h
    split at h
    · rename_i h0
      cases hl : cls l with
      | none => rw [hl] at h; cases h
      | some r =>
        rw [hl] at h
        cases h
        match l, hl with
        | [], _ => rw [h0]
        | ⟨t', i', f', as'⟩ :: l', hl =>
          simp only [cls] at hl
          split at hl
          · cases hz : cls l' with
            | none => rw [hz] at hl; cases hl
            | some r => rw [hz] at hl; cases hl
          · cases hl
    · cases h
theorem cls_two {gs : List Comprehension} {c d : Cl} (h : cls gs = some [c, d]) : gs = [⟨c.tg, c.it, c.ifs, 0⟩, ⟨d.tg, d.it, d.ifs, 0⟩] := by
  match gs, h with
  | ⟨t, i, f, as⟩ :: l, h =>
    simp only [cls] at h
    split at h
    · rename_i h0
      cases hl : cls l with
      | none => rw [hl] at h; cases h
      | some r =>
        rw [hl] at h
        cases h
        rw [cls_one hl, h0]
    · cases h
theorem dvB_ok {C C2 : Cs} {scope : Scope} {own : List Nat} {tg : Tg} {ik : IK} {il : List E} {c : Cl} (h : dvB C C2 scope own tg ik il c = true) : ∃ i x p1, ik = .dk ∧ il = [.v i] ∧ c.it = .Name x p1 ∧ tgB C.N (locS scope C2.sc) tg c.tg = true ∧ nmB C i x = true ∧ C.lv.getD i 0 = 0 ∧ ((tgL tg).all fun i => decide (C.lv.getD i 0 = 0) && decide (i ∈ own)) = true := by
  unfold dvB at h
  split at h
  · rename_i i x p1 e
    simp only [Bool.and_eq_true, decide_eq_true_eq] at h
    obtain ⟨⟨⟨h1, h2⟩, h3⟩, h4⟩ := h
    exact ⟨i, x, p1, rfl, rfl, e, h1, h2, h3, h4⟩
  · cases h
theorem lcP_eq {ex elt : Expr} {c : Cl} {scope : Scope} (h : lcP ex = some (elt, c, scope)) : ∃ pos, ex = .ListComp elt [⟨c.tg, c.it, c.ifs, 0⟩] scope pos := by
  unfold lcP at h
  split at h
  · split at h
    · rename_i hc
      cases h
      exact ⟨_, by rw [cls_one hc]⟩
    · cases h
  · cases h
theorem dcP_eq {ex k v : Expr} {c : Cl} {scope : Scope} (h : dcP ex = some (k, v, c, scope)) : ∃ pos, ex = .DictComp k v [⟨c.tg, c.it, c.ifs, 0⟩] scope pos := by
  unfold dcP at h
  split at h
  · split at h
    · rename_i hc
      cases h
      exact ⟨_, by rw [cls_one hc]⟩
    · cases h
  · cases h
theorem dc2P_eq {ex k v : Expr} {c d : Cl} {scope : Scope} (h : dc2P ex = some (k, v, c, d, scope)) : ∃ pos, ex = .DictComp k v [⟨c.tg, c.it, c.ifs, 0⟩, ⟨d.tg, d.it, d.ifs, 0⟩] scope pos := by
  unfold dc2P at h
  split at h
  · split at h
    · rename_i hc
      cases h
      exact ⟨_, by rw [cls_two hc]⟩
    · cases h
  · cases h
theorem ls2P_eq {ex f k : Expr} {c d : Cl} {scope : Scope} (h : ls2P ex = some (f, k, c, d, scope)) : ∃ pos pos2, ex = .Call f [.SetComp k [⟨c.tg, c.it, c.ifs, 0⟩, ⟨d.tg, d.it, d.ifs, 0⟩] scope pos] [] pos2 := by
  unfold ls2P at h
  split at h
  · split at h
    · rename_i hc
      cases h
      exact ⟨_, _, by rw [cls_two hc]⟩
    · cases h
  · cases h
theorem clB_ok {C C2 : Cs} {scope : Scope} {own : List Nat} {tg : Tg} {ik : IK} {il : List E} {c : Cl} (h : clB C C2 scope own tg ik il c = true) : tgB C.N (locS scope C2.sc) tg c.tg = true ∧ itB C c.tg ik il c.it = true ∧ (iterArgs ik c.it).isSome = true ∧ ((tgL tg).all fun i => decide (C.lv.getD i 0 = 0) && decide (i ∈ own)) = true := by
  unfold clB at h
  simp only [Bool.and_eq_true] at h
  exact ⟨h.1.1.1, h.1.1.2, h.1.2, h.2⟩
theorem blB_ok {C : Cs} {F : Fns} {X : Cx} (O : XOk C F X) {scope : Scope} {own : List Nat} (h : blB C scope own = true) : BlkOk X.N X.env.scope scope (own.map fun i => ((C.N[i]?).getD (Str.ofString ""), i)) := blkOk_by (N := X.N) (sc := X.env.scope) (by rw [O.n, O.sc]; exact h)
theorem ssP_eq {e ea : Expr} (h : ssP e = some ea) : ∃ n1 n2 p2 pos, e = .Call (.Name "sorted" n1) [.Call (.Name "set" n2) [ea] [] p2] [] pos := by
  unfold ssP at h
  split at h
  · split at h
    · rename_i hc
      cases h
      simp only [Bool.and_eq_true] at hc
      obtain ⟨a, rfl⟩ := nm_eq hc.1
      obtain ⟨b, rfl⟩ := nm_eq hc.2
      exact ⟨_, _, _, _, rfl⟩
    · cases h
  · cases h
theorem nmP_eq {e : Expr} {x : Str} (h : nmP e = some x) : ∃ p, e = .Name x p := by
  unfold nmP at h
  split at h
  · cases h
    exact ⟨_, rfl⟩
  · cases h
theorem ccP_eq {e : Expr} {x y : Str} {es : List Expr} (h : ccP e = some (x, y, es)) : ∃ n1 n2 p2 pos ee el, e = .Call (.Name x n1) [.Call (.Name y n2) (ee :: el) [] p2] [] pos ∧ es = ee :: el := by
  unfold ccP at h
  split at h
  · split at h
    · rename_i h1 h2
      cases h
      obtain ⟨a, rfl⟩ := nmP_eq h1
      obtain ⟨b, rfl⟩ := nmP_eq h2
      exact ⟨_, _, _, _, _, _, rfl, rfl⟩
    · cases h
  · cases h
theorem ss_of {C : Cs} {F : Fns} {X : Cx} (O : XOk C F X) {e ea : Expr} {a : E} (hp : ssP e = some ea) (h : ssB C a ea = true) (ha : SE X F C.lv ZF a ea) : SE X F C.lv ZF (.ss a) e := by
  obtain ⟨_, _, _, _, rfl⟩ := ssP_eq hp
  simp only [ssB, Bool.and_eq_true, oneN, decide_eq_true_eq] at h
  obtain ⟨g1, g2⟩ := blt_of O h.1.1.1
  obtain ⟨g3, g4⟩ := blt_of O h.1.1.2
  exact s_ss O.calm O.un g1 g2 g3 g4 ha h.1.2 h.2
theorem cc_of {C : Cs} {F : Fns} {X : Cx} (O : XOk C F X) {e : Expr} {x y f g : Str} {es : List Expr} {n : Nat} {l : List E} {io : List (Nat × Nat)} (hp : ccP e = some (x, y, es)) (h : ccB C f g x y n l io = true) (hl : SA X F C.lv ZF l es) (hs : es.all notStar = true) : SE X F C.lv ZF (.cc f n g l io) e := by
  obtain ⟨_, _, _, _, _, _, rfl, rfl⟩ := ccP_eq hp
  simp only [ccB, Bool.and_eq_true, decide_eq_true_eq] at h
  obtain ⟨⟨⟨⟨h1, h2⟩, h3⟩, h4⟩, h5⟩ := h
  subst h1 h2
  split at h5
  · rename_i sf sg hf hg
    obtain ⟨g1, g2⟩ := gl_of O h3
    obtain ⟨g3, g4⟩ := gl_of O h4
    exact s_cc (O.fns _ _ hf) (O.fns _ _ hg) O.gd g1 g2 g3 g4 h5 hl hs
  · cases h5
theorem dct_of {X : Cx} {F : Fns} {lv : List Nat} {e : Expr} {l : List E} (h : dctB l e = true) : SE X F lv ZF (.dct l) e ∧ plainTest e = true := by
  unfold dctB at h
  split at h
  · exact ⟨s_dct0, rfl⟩
  · simp only [Bool.and_eq_true, decide_eq_true_eq] at h
    rw [h.1, h.2]
    exact ⟨s_dct1, rfl⟩
  · simp only [Bool.and_eq_true, decide_eq_true_eq] at h
    obtain ⟨⟨⟨⟨rfl, rfl⟩, rfl⟩, rfl⟩, h5⟩ := h
    exact ⟨s_dct2 h5, rfl⟩
  · cases h
theorem muP_eq {e : Expr} {x nm : Str} {es : List Expr} {b : Bool} (h : muP e = some (x, nm, es, b)) : ∃ p1 apos pos, e = .Call (.Attribute (.Name x p1) nm apos) es [] pos ∧ (apos.endLine == pos.line) = b := by
  unfold muP at h
  split at h
  · cases h
    exact ⟨_, _, _, rfl, rfl⟩
  · cases h
theorem dcl_of {C : Cs} {F : Fns} {X : Cx} (O : XOk C F X) {e : Expr} {i : Nat} (h : dclP C i e = true) : SE X F C.lv ZF (.dclr i) e ∧ plainTest e = true := by
  unfold dclP at h
  split at h
  · rename_i x nm b hp
    obtain ⟨p1, apos, pos, rfl, hline⟩ := muP_eq hp
    simp only [Bool.and_eq_true, decide_eq_true_eq] at h
    obtain ⟨⟨⟨h1, h2⟩, h3⟩, h4⟩ := h
    subst h2
    rw [h3] at hline
    obtain ⟨n1, n2, n3, n4⟩ := nm_of O h1
    exact ⟨s_dclr n1 n2 n3 n4 h4 hline, rfl⟩
  · cases h
theorem mu_of {C : Cs} {F : Fns} {X : Cx} (O : XOk C F X) {e : Expr} {m : Mu} {i : Nat} {l : List E} {x nm : Str} {es : List Expr} {b : Bool} (hp : muP e = some (x, nm, es, b)) (h1 : nmB C i x = true) (hl : SA X F C.lv ZF l es) (hlen : l.length = es.length) (hs : es.all notStar = true) (h4 : b = true)
    (h : muB C m i nm l = true) : SE X F C.lv ZF (.mu m i l) e := by
  obtain ⟨p1, apos, pos, rfl, hline⟩ := muP_eq hp
  rw [h4] at hline
  obtain ⟨n1, n2, n3, n4⟩ := nm_of O h1
  have sc : 1 ≤ C.lv.getD i 0 → ∃ n, C.lv.getD i 0 = n + 1 := fun z => ⟨C.lv.getD i 0 - 1, by omega⟩
  unfold muB at h
  split at h
  · simp only [Bool.and_eq_true, decide_eq_true_eq] at h
    obtain ⟨⟨k1, k2⟩, k3⟩ := h
    subst k1
    obtain ⟨n, hn⟩ := sc k2
    rw [hn] at k3
    match es, hlen with
    | [ea], _ => exact s_append n1 n2 n3 n4 hl (by simpa using hs) hn k3 hline
  · simp only [Bool.and_eq_true, decide_eq_true_eq] at h
    obtain ⟨⟨k1, k2⟩, k3⟩ := h
    subst k1
    obtain ⟨n, hn⟩ := sc k2
    match es, hlen with
    | [ea], _ => exact s_pop n1 n2 n3 n4 hl (by simpa using hs) hn k3 hline
  · rename_i a
    simp only [Bool.and_eq_true, decide_eq_true_eq] at h
    obtain ⟨⟨k1, k2⟩, k3⟩ := h
    subst k1
    have : ∃ al, wyE C.lv a = .val al 1 := by
      split at k3
      · rename_i al n e1
        rw [of_decide_eq_true k3] at e1
        exact ⟨al, e1⟩
      · cases k3
    match es, hlen with
    | [ea], _ => exact s_extend n1 n2 n3 n4 hl (by simpa using hs) k2 this hline
  · simp only [Bool.and_eq_true, decide_eq_true_eq] at h
    obtain ⟨k1, k2⟩ := h
    subst k1
    obtain ⟨n, hn⟩ := sc k2
    match es, hlen with
    | [], _ => exact s_pop0 n1 n2 n3 n4 hn hline
  · simp only [Bool.and_eq_true, decide_eq_true_eq] at h
    obtain ⟨k1, k2⟩ := h
    subst k1
    match es, hlen with
    | [], _ => exact s_reverse n1 n2 n3 n4 k2 hline
  · simp only [Bool.and_eq_true, decide_eq_true_eq] at h
    obtain ⟨k1, k2⟩ := h
    subst k1
    obtain ⟨n, hn⟩ := sc k2
    match es, hlen with
    | [], _ => exact s_clear n1 n2 n3 n4 hn hline
  · simp only [Bool.and_eq_true, decide_eq_true_eq] at h
    obtain ⟨⟨⟨k1, k2⟩, k3⟩, k4⟩ := h
    subst k1
    match es, hlen with
    | [ea, eb], _ =>
      simp only [List.all_cons, List.all_nil, Bool.and_true, Bool.and_eq_true] at hs
      exact s_insert n1 n2 n3 n4 hl hs.1 hs.2 k2 k3 k4 hline
  · cases h
theorem bc_of {C : Cs} {F : Fns} {X : Cx} (O : XOk C F X) {fe : Expr} {f : Str} {l : List E} {es : List Expr} {io : List (Nat × Nat)} {pos : Pos} (hl : SA X F C.lv ZF l es) (h : bcB C f fe l es io = true) : SLo X F C.lv ZF (.bcall f l io) (.Call fe es [] pos) := by
  unfold bcB at h
  split at h
  · rename_i sg hsg
    simp only [Bool.and_eq_true] at h
    obtain ⟨⟨⟨⟨h1, h2⟩, h3⟩, h4⟩, h5⟩ := h
    obtain ⟨p1, rfl⟩ := nm_eq h1
    obtain ⟨g1, g2⟩ := gl_of O h2
    cases es with
    | nil => cases h5
    | cons ee es => exact lo_call (O.fns f sg hsg) O.gd g1 g2 h3 hl h4
  · cases h
set_option maxHeartbeats 4000000 in
mutual
theorem mE_ok (F : Fns) : ∀ (x : E) (t : Bool) (C : Cs) (X : Cx) (e : Expr), XOk C F X → mE t C x e = true → Got X F C.lv t x e
  | .k d, t, C, X, e, O, h => by
    simp only [mE, Bool.and_eq_true] at h
    exact .val (k_ok h.2) (tOr h.1)
  | .v i, t, C, X, e, O, h => by
    simp only [mE] at h
    split at h
    · obtain ⟨h1, h2, h3, h4⟩ := nm_of O h
      exact .val (s_v h1 h2 h3 h4) (.inr rfl)
    · cases h
  | .mv i, t, C, X, e, O, h => by
    simp only [mE] at h
    split at h
    · obtain ⟨h1, h2, h3, h4⟩ := nm_of O h
      exact .val (s_mv h1 h2 h3 h4) (.inr rfl)
    · cases h
  | .gl x, t, C, X, e, O, h => by
    simp only [mE] at h
    split at h
    · simp only [Bool.and_eq_true, decide_eq_true_eq] at h
      obtain ⟨h1, h2⟩ := h
      subst h1
      obtain ⟨h3, h4⟩ := gl_of O h2
      exact .val (s_gl h3 h4 (O.gl x)) (.inr rfl)
    · cases h
  | .bin o a b, t, C, X, e, O, h => by
    simp only [mE] at h
    split at h
    · simp only [Bool.and_eq_true, decide_eq_true_eq, oneN] at h
      obtain ⟨⟨⟨⟨⟨h1, h2⟩, h3⟩, h4⟩, h5⟩, h6⟩ := h
      subst h1
      exact .val (s_bin (mE_ok F a _ C X _ O h2).fst (mE_ok F b _ C X _ O h3).fst (dj_of h4) h5 h6) (.inr rfl)
    · cases h
  | .neg a, t, C, X, e, O, h => by
    simp only [mE] at h
    split at h
    · exact .val (s_neg (mE_ok F a _ C X _ O h).fst) (.inr rfl)
    · cases h
  | .not a, t, C, X, e, O, h => by
    simp only [mE] at h
    split at h
    · have g := mE_ok F a _ C X _ O h
      exact ⟨fun ht => by subst ht; exact s_not g.fst, fun ht => by subst ht; exact t_not g.snd⟩
    · cases h
  | .cmp o a b, t, C, X, e, O, h => by
    simp only [mE] at h
    split at h
    · simp only [Bool.and_eq_true, decide_eq_true_eq] at h
      obtain ⟨⟨⟨⟨h1, h2⟩, h3⟩, h4⟩, h5⟩ := h
      subst h1
      exact ⟨fun _ => s_cmp O.un (mE_ok F a _ C X _ O h2).fst (mE_ok F b _ C X _ O h3).fst (dj_of h4) h5, fun _ => t_cmp O.un (mE_ok F a _ C X _ O h2).fst (mE_ok F b _ C X _ O h3).fst (dj_of h4) h5⟩
    · cases h
  | .cmp2 o p a b c, t, C, X, e, O, h => by
    simp only [mE] at h
    split at h
    · simp only [Bool.and_eq_true, decide_eq_true_eq, Bool.not_eq_true'] at h
      obtain ⟨⟨⟨⟨⟨⟨⟨h1, h2⟩, h3⟩, h4⟩, h5⟩, h6⟩, h7⟩, h8⟩ := h
      subst h1 h2
      exact ⟨fun ht => s_cmp2 O.un (mE_ok F a _ C X _ O h3).fst (mE_ok F b _ C X _ O h4).fst (mE_ok F c _ C X _ O h5).fst (dj_of h6) (dj_of h7) h8, fun ht => t_cmp2 O.un (mE_ok F a _ C X _ O h3).fst (mE_ok F b _ C X _ O h4).fst (mE_ok F c _ C X _ O h5).fst (dj_of h6) (dj_of h7) h8⟩
    · cases h
  | .and a b, t, C, X, e, O, h => by
    simp only [mE] at h
    split at h
    · rename_i x y rest pos
      simp only [Bool.and_eq_true, decide_eq_true_eq, Bool.or_eq_true] at h
      obtain ⟨⟨h1, h2⟩, h3⟩ := h
      have ga := mE_ok F a _ C X _ O h1
      have gb : (t = false → SE X F C.lv ZF b (.BoolOp .And (y :: rest) pos)) ∧ (t = true → SW X F C.lv ZF b (.BoolOp .And (y :: rest) pos)) := by
        cases rest with
        | nil =>
          have g := mE_ok F b _ C X _ O h2
          exact ⟨fun ht => s_one (g.1 ht), fun ht => w_and1 (by subst ht; exact g.snd)⟩
        | cons z zs => exact mE_ok F b _ C X _ O h2
      refine ⟨fun ht => ?_, fun ht => ?_⟩
      · have h3 := h3.resolve_left (by rw [ht]; decide)
        exact s_and (ga.1 ht) (gb.1 ht) h3.1.1.1 h3.1.1.2 h3.1.2 h3.2
      · subst ht
        exact w_and ga.snd (gb.2 rfl)
    · cases h
  | .or a b, t, C, X, e, O, h => by
    simp only [mE] at h
    split at h
    · rename_i x y rest pos
      simp only [Bool.and_eq_true, decide_eq_true_eq, Bool.or_eq_true] at h
      obtain ⟨⟨h1, h2⟩, h3⟩ := h
      have ga := mE_ok F a _ C X _ O h1
      have gb : (t = false → SE X F C.lv ZF b (.BoolOp .Or (y :: rest) pos)) ∧ (t = true → SW X F C.lv ZF b (.BoolOp .Or (y :: rest) pos)) := by
        cases rest with
        | nil =>
          have g := mE_ok F b _ C X _ O h2
          exact ⟨fun ht => s_one (g.1 ht), fun ht => w_or1 (by subst ht; exact g.snd)⟩
        | cons z zs => exact mE_ok F b _ C X _ O h2
      refine ⟨fun ht => ?_, fun ht => ?_⟩
      · have h3 := h3.resolve_left (by rw [ht]; decide)
        exact s_or (ga.1 ht) (gb.1 ht) h3.1.1.1 h3.1.1.2 h3.1.2 h3.2
      · subst ht
        exact w_or ga.snd (gb.2 rfl)
    · cases h
  | .ite c a b, t, C, X, e, O, h => by
    simp only [mE] at h
    split at h
    · simp only [Bool.and_eq_true, decide_eq_true_eq, Bool.not_eq_true'] at h
      obtain ⟨⟨⟨⟨⟨h0, h1⟩, h2⟩, h3⟩, h4⟩, h5⟩ := h
      exact .val (s_ite (mE_ok F c _ C X _ O h1).snd (mE_ok F a _ C X _ O h2).fst (mE_ok F b _ C X _ O h3).fst h4 (.inr trivial) h5.1 h5.2) (.inl h0)
    · cases h
  | .lst l, t, C, X, e, O, h => by
    simp only [mE] at h
    split at h
    · simp only [Bool.and_eq_true] at h
      obtain ⟨⟨h1, h2⟩, h3⟩ := h
      exact .val (s_lst (mL_ok F l C X _ O h1).1 h2 h3) (.inr rfl)
    · cases h
  | .tup l, t, C, X, e, O, h => by
    simp only [mE] at h
    split at h
    · simp only [Bool.and_eq_true] at h
      obtain ⟨⟨h1, h2⟩, h3⟩ := h
      exact .val (s_tup (mL_ok F l C X _ O h1).1 h2 h3) (.inr rfl)
    · cases h
  | .ix a b, t, C, X, e, O, h => by
    simp only [mE] at h
    split at h
    · simp only [Bool.and_eq_true, decide_eq_true_eq, oneN] at h
      obtain ⟨⟨⟨⟨⟨h2, h3⟩, h4⟩, h5⟩, h6⟩, h7⟩ := h
      exact .val (s_ix O.un (mE_ok F a _ C X _ O h2).fst (mE_ok F b _ C X _ O h3).fst (dj_of h4) h5 h6 h7) (.inr rfl)
    · cases h
  | .ix2 a b, t, C, X, e, O, h => by
    simp only [mE] at h
    split at h
    · simp only [Bool.and_eq_true, decide_eq_true_eq] at h
      obtain ⟨⟨⟨⟨h2, h3⟩, h4⟩, h5⟩, h6⟩ := h
      exact .val (s_ix2 (mE_ok F a _ C X _ O h2).fst (mE_ok F b _ C X _ O h3).fst (dj_of h4) h5 h6) (.inr rfl)
    · cases h
  | .sl n a lo hi, t, C, X, e, O, h => by
    simp only [mE] at h
    split at h
    · rename_i ea el eh p1 p2
      simp only [Bool.and_eq_true, decide_eq_true_eq, oneN] at h
      obtain ⟨⟨⟨⟨⟨h1, h2⟩, h3⟩, h4⟩, h5⟩, h6⟩ := h
      have part : ∀ (x : E) (o : Option Expr), (∀ e', (mE false C x e' = true → SE X F C.lv ZF x e')) → (match o with | none => isAbs x | some y => !isAbs x && mE false C x y) = true → SO X F C.lv ZF x o := fun x o ih g => by
        cases o with
        | none =>
          have : x = .k .none := by
            cases x <;> simp only [isAbs] at g <;> first | (cases g; done) | skip
            rename_i d
            cases d <;> first | rfl | cases g
          subst this
          exact o_none
        | some y =>
          simp only [Bool.and_eq_true, Bool.not_eq_true'] at g
          exact o_some (ih y g.2) g.1
      exact .val (s_sl (mE_ok F a _ C X _ O h1).fst (part lo el (fun e' g => (mE_ok F lo _ C X _ O g).fst) h2) (part hi eh (fun e' g => (mE_ok F hi _ C X _ O g).fst) h3) (dj_of h4) (dj_of h5) h6) (.inr rfl)
    · cases h
  | .rev a, t, C, X, e, O, h => by
    simp only [mE] at h
    split at h
    · simp only [Bool.and_eq_true, decide_eq_true_eq, oneN] at h
      exact .val (s_rev (mE_ok F a _ C X _ O h.1).fst h.2) (.inr rfl)
    · cases h
  | .isa a ts, t, C, X, e, O, h => by
    simp only [mE] at h
    split at h
    · rename_i ea hp
      exact .val (isa_of O hp (mE_ok F a _ C X _ O h).fst).1 (.inr (isa_of O hp (mE_ok F a _ C X _ O h).fst).2)
    · cases h
  | .bi b l, t, C, X, e, O, h => by
    cases l with
    | nil => cases e <;> simp [mE] at h
    | cons a l' =>
      unfold mE at h
      split at h
      · rename_i heq
        cases heq
        simp only [Bool.and_eq_true, Bool.or_eq_true, Bool.not_eq_true'] at h
        obtain ⟨⟨⟨⟨⟨⟨⟨⟨h1, h2⟩, h3⟩, h4⟩, h5⟩, h6⟩, h7⟩, h8⟩, h9⟩ := h
        obtain ⟨p1, rfl⟩ := nm_eq h1
        obtain ⟨g1, g2⟩ := blt_of O h3
        have h8' := h8
        simp only [List.all_cons, Bool.and_eq_true] at h8'
        exact .val (s_bi O.calm O.un O.gd h2 g1 g2 (a_cons (mE_ok F a _ C X _ O h4).fst (mL_ok F l' C X _ O h7).1 h5 (dj_of h6) h8'.1) h8 h9) (.inr rfl)
      · cases h
  | .me m a l, t, C, X, e, O, h => by
    cases l with
    | nil => cases e <;> simp [mE] at h
    | cons b l' =>
      cases l' with
      | cons _ _ => cases e <;> simp [mE] at h
      | nil =>
        unfold mE at h
        split at h
        · rename_i heq
          cases heq
          simp only [Bool.and_eq_true, decide_eq_true_eq] at h
          obtain ⟨⟨⟨⟨⟨⟨h1, h4⟩, h5⟩, h6⟩, h7⟩, h8⟩, h9⟩ := h
          exact .val (me_of h1 (mE_ok F a _ C X _ O h4).fst (mE_ok F b _ C X _ O h5).fst h6 h7 (dj_of h8) h9) (.inr rfl)
        · cases h
  | .mu m i l, t, C, X, e, O, h => by
    simp only [mE] at h
    split at h
    · rename_i x nm es b hp
      simp only [Bool.and_eq_true] at h
      obtain ⟨⟨⟨⟨h1, h2⟩, h3⟩, h4⟩, h5⟩ := h
      exact .val (mu_of O hp h1 (mL_ok F l C X _ O h2).1 (mL_len l es h2) h3 h4 h5) (.inr (by obtain ⟨_, _, _, rfl, _⟩ := muP_eq hp; rfl))
    · cases h
  | .lo _, t, C, X, e, O, h => by simp [mE] at h
  | .dclr i, t, C, X, e, O, h => by
    simp only [mE] at h
    exact .val (dcl_of O h).1 (.inr (dcl_of (F := F) O h).2)
  | .bcall _ _ _, t, C, X, e, O, h => by simp [mE] at h
  | .call f n l pm io bo, t, C, X, e, O, h => by
    simp only [mE] at h
    split at h
    · rename_i fe es kws pos sg hsg
      simp only [Bool.and_eq_true] at h
      obtain ⟨⟨h1, h2⟩, h3⟩ := h
      obtain ⟨p1, rfl⟩ := nm_eq h1
      obtain ⟨g1, g2⟩ := gl_of O h2
      have I := O.fns f sg hsg
      cases kws with
      | nil =>
        simp only [Bool.and_eq_true, decide_eq_true_eq] at h3
        obtain ⟨⟨⟨k1, k2⟩, k3⟩, k4⟩ := h3
        subst k1
        refine .val (s_call I O.gd g1 g2 k2 (mL_ok F l C X _ O k3).1 k4 (mL_len l es k3)) (.inr rfl)
      | cons kw kws =>
        simp only [Bool.and_eq_true, decide_eq_true_eq] at h3
        obtain ⟨⟨⟨⟨⟨k1, k2⟩, k3⟩, k4⟩, k5⟩, k6⟩ := h3
        subst k1 k2
        obtain ⟨a1, a2, a3⟩ := kw_ok pos X.env (kw :: kws) k5
        exact .val (s_callK I O.gd g1 g2 k4 k3 (mK_ok F l C X _ O k6) a1 a2 a3) (.inr rfl)
    · cases h
  | .chk n a, t, C, X, e, O, h => by
    simp only [mE, Bool.and_eq_true, decide_eq_true_eq] at h
    obtain ⟨⟨h1, h2⟩, h3⟩ := h
    exact .val (s_chk (mE_ok F a _ C X _ O h2).fst h3) (tOr h1)
  | .dn n a, t, C, X, e, O, h => by
    simp only [mE, Bool.and_eq_true, decide_eq_true_eq] at h
    obtain ⟨⟨⟨h1, h2⟩, h3⟩, h4⟩ := h
    exact .val (s_dn (mE_ok F a _ C X _ O h2).fst h3 h4) (tOr h1)
  | .io _, t, C, X, e, O, h => by simp [mE] at h
  | .cc f n g l io, t, C, X, e, O, h => by
    simp only [mE] at h
    split at h
    · rename_i x y es hp
      simp only [Bool.and_eq_true] at h
      obtain ⟨⟨h1, h2⟩, h3⟩ := h
      exact .val (cc_of O hp h1 (mL_ok F l C X _ O h2).1 h3) (.inr (by obtain ⟨_, _, _, _, _, _, rfl, _⟩ := ccP_eq hp; rfl))
    · cases h
  | .ss a, t, C, X, e, O, h => by
    simp only [mE] at h
    split at h
    · rename_i ea hp
      simp only [Bool.and_eq_true] at h
      exact .val (ss_of O hp h.2 (mE_ok F a _ C X _ O h.1).fst) (.inr (by obtain ⟨_, _, _, _, rfl⟩ := ssP_eq hp; rfl))
    · cases h
  | .dct l, t, C, X, e, O, h => by
    simp only [mE] at h
    exact .val (dct_of h).1 (.inr (dct_of (X := X) (F := F) (lv := C.lv) h).2)
  | .lc el tg ik il ifs own, t, C, X, e, O, h => by
    simp only [mE] at h
    split at h
    · rename_i elt c scope hp
      obtain ⟨pos, rfl⟩ := lcP_eq hp
      simp only [Bool.and_eq_true, decide_eq_true_eq] at h
      simp only [Bool.or_eq_true] at h
      obtain ⟨⟨⟨⟨h2, h3⟩, h6⟩, h7⟩, h10⟩ := h
      rcases h3 with h3 | h3
      · obtain ⟨i, x, p1, rfl, rfl, e3, k1, k2, k3, k4⟩ := dvB_ok h3
        have h0 := tg_own k4
        obtain ⟨n1, n2, n3, n4⟩ := nm_of O k2
        refine .val ?_ (.inr rfl)
        rw [e3]
        have := s_lcV (X := X) (F := F) (lv := C.lv) (Z := ZF) (pos := pos) (e := el) (tg := tg) (ifs := ifs) (p1 := p1) k3 n1 n2 n3 n4 O.calm O.nd (blB_ok O h2) (fun s H a cl fp => pg_blk O k1 s H a cl fp) (fun s H a cl fp => mT_ok F ifs (cS C scope) _ _ (O.blk s H scope cl a fp) h6)
          (fun s H a cl fp => (mE_ok F el false (cS C scope) _ _ (O.blk s H scope cl a fp) h7).fst) (fun i m => (h0 i m).1) (fun i m => by rw [own_map]; exact (h0 i m).2) h10
        rw [own_map] at this
        exact this
      simp only [Bool.and_eq_true] at h3
      obtain ⟨⟨h3, h5⟩, h9⟩ := h3
      obtain ⟨k1, k2, k3, k4⟩ := clB_ok h3
      obtain ⟨hv1, hv2, hv3⟩ := it_facts k2
      have hI := si_ok O k2 k3 h5 (mL_ok F il C X _ O h5)
      have h0 := tg_own k4
      refine .val ?_ (.inr rfl)
      have := s_lc (X := X) (F := F) (lv := C.lv) (Z := ZF) (pos := pos) (e := el) (tg := tg) (ik := ik) (il := il) (ifs := ifs) O.calm O.nd hI (blB_ok O h2) (fun s H a cl fp => pg_blk O k1 s H a cl fp) (fun s H a cl fp => mT_ok F ifs (cS C scope) _ _ (O.blk s H scope cl a fp) h6)
        (fun s H a cl fp => (mE_ok F el false (cS C scope) _ _ (O.blk s H scope cl a fp) h7).fst) (set_ok hv3 X.env) hv2 hv1 (fun i m => (h0 i m).1) (fun i m => by rw [own_map]; exact (h0 i m).2) (by rw [own_map]; exact dj_of h9) h10
      rw [own_map] at this
      exact this
    · cases h
  | .lc2 _ _ _ _ _ _ _ _ _ _ _, t, C, X, e, O, h => by simp [mE] at h
  | .dc kx vx tg ik il ifs own, t, C, X, e, O, h => by
    simp only [mE] at h
    split at h
    · rename_i kex vex c scope hp
      obtain ⟨pos, rfl⟩ := dcP_eq hp
      simp only [Bool.and_eq_true] at h
      obtain ⟨⟨⟨⟨⟨⟨⟨h2, h3⟩, h5⟩, h6⟩, h7⟩, h7b⟩, h9⟩, h10⟩ := h
      simp only [dcE, Bool.and_eq_true, decide_eq_true_eq] at h10
      obtain ⟨k1, k2, k3, k4⟩ := clB_ok h3
      obtain ⟨hv1, hv2, hv3⟩ := it_facts k2
      have hI := si_ok O k2 k3 h5 (mL_ok F il C X _ O h5)
      have h0 := tg_own k4
      refine .val ?_ (.inr rfl)
      have := s_dc (X := X) (F := F) (lv := C.lv) (Z := ZF) (pos := pos) (kx := kx) (vx := vx) (tg := tg) (ik := ik) (il := il) (ifs := ifs) O.calm O.nd hI (blB_ok O h2) (fun s H a cl fp => pg_blk O k1 s H a cl fp) (fun s H a cl fp => mT_ok F ifs (cS C scope) _ _ (O.blk s H scope cl a fp) h6)
        (fun s H a cl fp => (mE_ok F kx false (cS C scope) _ _ (O.blk s H scope cl a fp) h7).fst) (fun s H a cl fp => (mE_ok F vx false (cS C scope) _ _ (O.blk s H scope cl a fp) h7b).fst) (set_ok hv3 X.env) hv2 hv1 (fun i m => (h0 i m).1) (fun i m => by rw [own_map]; exact (h0 i m).2) (by rw [own_map]; exact dj_of h9) h10.1.1 h10.1.2 (dj_of h10.2)
      rw [own_map] at this
      exact this
    · cases h
  | .dc2 kx vx tg ik il ifs tg2 ik2 il2 ifs2 own own2, t, C, X, e, O, h => by
    simp only [mE] at h
    split at h
    · rename_i kex vex c d scope hp
      obtain ⟨pos, rfl⟩ := dc2P_eq hp
      simp only [Bool.and_eq_true, decide_eq_true_eq] at h
      obtain ⟨⟨⟨⟨⟨⟨⟨⟨⟨⟨⟨⟨h2, h3⟩, h5⟩, h6⟩, h3b⟩, h5b⟩, h6b⟩, h7⟩, h7b⟩, h9⟩, h8c⟩, h9b⟩, h10⟩ := h
      obtain ⟨k1, k2, k3, k4⟩ := clB_ok h3
      obtain ⟨l1, l2, l3, l4⟩ := clB_ok h3b
      obtain ⟨hv1, hv2, hv3⟩ := it_facts k2
      obtain ⟨hw1, hw2, hw3⟩ := it_facts l2
      have hI := si_ok O k2 k3 h5 (mL_ok F il C X _ O h5)
      have h0 := tg_own k4
      have h0b := tg_own l4
      have hsub : ∀ i ∈ own2, i ∈ own := fun i m => of_decide_eq_true (List.all_eq_true.mp h8c i m)
      refine .val ?_ (.inr rfl)
      have := s_dc2 (X := X) (F := F) (lv := C.lv) (Z := ZF) (pos := pos) (kx := kx) (vx := vx) (tg := tg) (ik := ik) (il := il) (ifs := ifs) (tg2 := tg2) (ik2 := ik2) (il2 := il2) (ifs2 := ifs2) (vs1 := own2) O.calm O.nd hI (blB_ok O h2) (fun s H a cl fp => pg_blk O k1 s H a cl fp) (fun s H a cl fp => mT_ok F ifs (cS C scope) _ _ (O.blk s H scope cl a fp) h6)
        (fun s H a cl fp => si_ok (O.blk s H scope cl a fp) l2 l3 h5b (mL_ok F il2 (cS C scope) _ _ (O.blk s H scope cl a fp) h5b)) (fun s H a cl fp => pg_blk O l1 s H a cl fp) (fun s H a cl fp => mT_ok F ifs2 (cS C scope) _ _ (O.blk s H scope cl a fp) h6b)
        (fun s H a cl fp => (mE_ok F kx false (cS C scope) _ _ (O.blk s H scope cl a fp) h7).fst) (fun s H a cl fp => (mE_ok F vx false (cS C scope) _ _ (O.blk s H scope cl a fp) h7b).fst) (set_ok hv3 X.env) (fun env => set_ok hw3 env) hv2 hv1 (fun i m => (h0 i m).1) (fun i m => by rw [own_map]; exact (h0 i m).2) (by rw [own_map]; exact dj_of h9) hw2 hw1 (fun i m => (h0b i m).1) (fun i m => (h0b i m).2) (fun i m => by rw [own_map]; exact hsub i m) (dj_of h9b) h10
      rw [own_map] at this
      exact this
    · cases h
  | .ls2 kx tg ik il ifs tg2 ik2 il2 ifs2 own own2, t, C, X, e, O, h => by
    simp only [mE] at h
    split at h
    · rename_i f kex c d scope hp
      obtain ⟨pos, pos2, rfl⟩ := ls2P_eq hp
      simp only [Bool.and_eq_true, decide_eq_true_eq] at h
      obtain ⟨⟨⟨⟨⟨⟨⟨⟨⟨⟨⟨⟨h2, h3⟩, h5⟩, h6⟩, h3b⟩, h5b⟩, h6b⟩, h7⟩, h9⟩, h8c⟩, h9b⟩, h11⟩, h10⟩ := h
      obtain ⟨p1, rfl⟩ := nm_eq h11
      obtain ⟨b1, b2⟩ := blt_of O h10
      obtain ⟨k1, k2, k3, k4⟩ := clB_ok h3
      obtain ⟨l1, l2, l3, l4⟩ := clB_ok h3b
      obtain ⟨hv1, hv2, hv3⟩ := it_facts k2
      obtain ⟨hw1, hw2, hw3⟩ := it_facts l2
      have hI := si_ok O k2 k3 h5 (mL_ok F il C X _ O h5)
      have h0 := tg_own k4
      have h0b := tg_own l4
      have hsub : ∀ i ∈ own2, i ∈ own := fun i m => of_decide_eq_true (List.all_eq_true.mp h8c i m)
      refine .val ?_ (.inr rfl)
      have := s_ls2 (X := X) (F := F) (lv := C.lv) (Z := ZF) (pos := pos) (pos2 := pos2) (nm := p1) (kx := kx) (tg := tg) (ik := ik) (il := il) (ifs := ifs) (tg2 := tg2) (ik2 := ik2) (il2 := il2) (ifs2 := ifs2) (vs1 := own2) b1 b2 O.calm O.nd hI (blB_ok O h2) (fun s H a cl fp => pg_blk O k1 s H a cl fp) (fun s H a cl fp => mT_ok F ifs (cS C scope) _ _ (O.blk s H scope cl a fp) h6)
        (fun s H a cl fp => si_ok (O.blk s H scope cl a fp) l2 l3 h5b (mL_ok F il2 (cS C scope) _ _ (O.blk s H scope cl a fp) h5b)) (fun s H a cl fp => pg_blk O l1 s H a cl fp) (fun s H a cl fp => mT_ok F ifs2 (cS C scope) _ _ (O.blk s H scope cl a fp) h6b)
        (fun s H a cl fp => (mE_ok F kx false (cS C scope) _ _ (O.blk s H scope cl a fp) h7).fst) (set_ok hv3 X.env) (fun env => set_ok hw3 env) hv2 hv1 (fun i m => (h0 i m).1) (fun i m => by rw [own_map]; exact (h0 i m).2) (by rw [own_map]; exact dj_of h9) hw2 hw1 (fun i m => (h0b i m).1) (fun i m => (h0b i m).2) (fun i m => by rw [own_map]; exact hsub i m) (dj_of h9b)
      rw [own_map] at this
      exact this
    · cases h
  | .bad, t, C, X, e, O, h => by simp [mE] at h
theorem mL_ok (F : Fns) : ∀ (l : List E) (C : Cs) (X : Cx) (es : List Expr), XOk C F X → mL C l es = true → SA1 X F C.lv l es
  | [], C, X, es, O, h => by
    cases es with
    | nil => exact ⟨a_nil, fun _ _ e => by cases e⟩
    | cons _ _ => simp [mL] at h
  | a :: l, C, X, es, O, h => by
    cases es with
    | nil => simp [mL] at h
    | cons ea es =>
      simp only [mL, Bool.and_eq_true] at h
      obtain ⟨⟨⟨h1, h2⟩, h3⟩, h4⟩ := h
      have hl := (mL_ok F l C X es O h4).1
      by_cases c : isIo a = true
      · refine ⟨?_, fun a' ea' e1 e2 c' => by cases e1; rw [c] at c'; cases c'⟩
        cases a <;> first | (cases c; done) | skip
        · simp only at h1
          split at h1
          · obtain ⟨n1, n2, n3, n4⟩ := nm_of O h1
            exact a_io n1 n2 n3 n4 hl
          · cases h1
        · rename_i b
          simp only at h1
          have dj := dj_of h2
          simp only [alE] at dj
          exact a_lo (mLb_ok F b C X _ O (by simpa only [mLo] using h1)) hl dj h3
      · have c : isIo a = false := by simpa using c
        have h1' : mE false C a ea = true := by cases a <;> first | exact h1 | cases c
        have hs := (mE_ok F a _ C X _ O h1').fst
        exact ⟨a_cons hs hl c (dj_of h2) h3, fun a' ea' e1 e2 c' => by cases e1; cases e2; exact hs⟩
theorem mLb_ok (F : Fns) : ∀ (x : E) (C : Cs) (X : Cx) (e : Expr), XOk C F X → mLb C x e = true → SLo X F C.lv ZF x e
  | .lst l, C, X, e, O, h => by
    simp only [mLb] at h
    split at h
    · simp only [Bool.and_eq_true, loB] at h
      exact lo_lst (mL_ok F l C X _ O h.1).1 h.2.1 h.2.2
    · cases h
  | .tup l, C, X, e, O, h => by
    simp only [mLb] at h
    split at h
    · simp only [Bool.and_eq_true, loB] at h
      exact lo_tup (mL_ok F l C X _ O h.1).1 h.2.1 h.2.2
    · cases h
  | .bcall f l io, C, X, e, O, h => by
    simp only [mLb] at h
    split at h
    · simp only [Bool.and_eq_true] at h
      exact bc_of O (mL_ok F l C X _ O h.1).1 h.2
    · cases h
  | .k _, C, X, e, O, h => by simp [mLb] at h
  | .v _, C, X, e, O, h => by simp [mLb] at h
  | .mv _, C, X, e, O, h => by simp [mLb] at h
  | .io _, C, X, e, O, h => by simp [mLb] at h
  | .gl _, C, X, e, O, h => by simp [mLb] at h
  | .bin _ _ _, C, X, e, O, h => by simp [mLb] at h
  | .neg _, C, X, e, O, h => by simp [mLb] at h
  | .not _, C, X, e, O, h => by simp [mLb] at h
  | .cmp _ _ _, C, X, e, O, h => by simp [mLb] at h
  | .cmp2 _ _ _ _ _, C, X, e, O, h => by simp [mLb] at h
  | .and _ _, C, X, e, O, h => by simp [mLb] at h
  | .or _ _, C, X, e, O, h => by simp [mLb] at h
  | .ite _ _ _, C, X, e, O, h => by simp [mLb] at h
  | .ix _ _, C, X, e, O, h => by simp [mLb] at h
  | .sl _ _ _ _, C, X, e, O, h => by simp [mLb] at h
  | .rev _, C, X, e, O, h => by simp [mLb] at h
  | .isa _ _, C, X, e, O, h => by simp [mLb] at h
  | .bi _ _, C, X, e, O, h => by simp [mLb] at h
  | .me _ _ _, C, X, e, O, h => by simp [mLb] at h
  | .mu _ _ _, C, X, e, O, h => by simp [mLb] at h
  | .call _ _ _ _ _ _, C, X, e, O, h => by simp [mLb] at h
  | .cc _ _ _ _ _, C, X, e, O, h => by simp [mLb] at h
  | .dct _, C, X, e, O, h => by simp [mLb] at h
  | .ss _, C, X, e, O, h => by simp [mLb] at h
  | .dn _ _, C, X, e, O, h => by simp [mLb] at h
  | .ix2 _ _, C, X, e, O, h => by simp [mLb] at h
  | .chk _ _, C, X, e, O, h => by simp [mLb] at h
  | .lo _, C, X, e, O, h => by simp [mLb] at h
  | .dclr _, C, X, e, O, h => by simp [mLb] at h
  | .lc _ _ _ _ _ _, C, X, e, O, h => by simp [mLb] at h
  | .lc2 _ _ _ _ _ _ _ _ _ _ _, C, X, e, O, h => by simp [mLb] at h
  | .dc _ _ _ _ _ _ _, C, X, e, O, h => by simp [mLb] at h
  | .dc2 _ _ _ _ _ _ _ _ _ _ _ _, C, X, e, O, h => by simp [mLb] at h
  | .ls2 _ _ _ _ _ _ _ _ _ _ _, C, X, e, O, h => by simp [mLb] at h
  | .bad, C, X, e, O, h => by simp [mLb] at h
theorem mT_ok (F : Fns) : ∀ (l : List E) (C : Cs) (X : Cx) (es : List Expr), XOk C F X → mT C l es = true → SIfs X F C.lv l es
  | [], C, X, es, O, h => by
    cases es with
    | nil => exact ifs_nil
    | cons _ _ => simp [mT] at h
  | a :: l, C, X, es, O, h => by
    cases es with
    | nil => simp [mT] at h
    | cons ea es =>
      simp only [mT, Bool.and_eq_true, List.isEmpty_iff] at h
      obtain ⟨⟨h1, h2⟩, h3⟩ := h
      have g := (mE_ok F a true C X ea O h1).snd
      rw [h2, h3]
      exact ifs_one g
theorem mK_ok (F : Fns) : ∀ (l : List E) (C : Cs) (X : Cx) (kws : List Keyword), XOk C F X → mK C l kws = true → SK X F C.lv l kws
  | [], C, X, kws, O, h => by
    cases kws with
    | nil => exact k_nil
    | cons _ _ => simp [mK] at h
  | a :: l, C, X, kws, O, h => by
    cases kws with
    | nil => simp [mK] at h
    | cons kw kws =>
      obtain ⟨n, ea, p⟩ := kw
      simp only [mK, Bool.and_eq_true, Bool.not_eq_true'] at h
      obtain ⟨⟨⟨h1, h2⟩, h3⟩, h4⟩ := h
      exact k_cons (mE_ok F a _ C X _ O h1).fst (mK_ok F l C X kws O h4) h2 (dj_of h3)
end
end Pv
end
section
/-! P26: the check of statements. -/
namespace Pv
open PySem PySem.Spec PyProof.Rows L2
/-- does the store of this comprehension go ahead of the frame's end -/
def swapW (sc : Scope) (x : Str) (p : Pos) (e : Expr) : Bool := match e with
  | .ListComp _ _ s q => kindC sc x && p.line == q.line && !(s.names.any fun (n, k) => n == x && (k == .local || k == .cell))
  | .SetComp _ _ s q => kindC sc x && p.line == q.line && !(s.names.any fun (n, k) => n == x && (k == .local || k == .cell))
  | .DictComp _ _ _ s q => kindC sc x && p.line == q.line && !(s.names.any fun (n, k) => n == x && (k == .local || k == .cell))
  | _ => false
theorem kindC_eq (env : PySem.Env) (x : Str) : kindC env.scope x = (env.kindOf x == some .local) := by
  unfold kindC Env.kindOf
  cases h : env.scope.names.lookup x with
  | none => rfl
  | some k => cases k <;> rfl
theorem swapW_ok {env : PySem.Env} (hk : env.scope.kind = .function) (x : Str) (p : Pos) (e : Expr) (n : Nat) : swapsWith e (some (.Name x p)) n env = pure (swapW env.scope x p e) := by
  have hb : env.blockKind = .function := by unfold Env.blockKind; rw [hk]; rfl
  have hc : (ScopeKind.function == ScopeKind.function) = true := rfl
  cases e <;> first
    | rfl
    | (unfold swapsWith swapW
       rw [hb, kindC_eq]
       simp only [Expr.pos]
       rfl)
structure XOkS (C : Cs) (F : Fns) (X : Cx) : Prop where
  o : XOk C F X
  fn : ∀ x, X.fn x = true
  kind : X.env.scope.kind = .function
  own : PassesOwn (model X.prog X.w) X.A X.env X.xe
def locs (C : Cs) (i : Nat) (x : Str) : Bool := decide (C.N[i]? = some x) && locB C.sc x
/-- a whole list comprehension whose value goes to a name at once -/
def isLc : E → Bool
  | .lc _ _ ik _ _ _ => decide (ik ≠ .dk)
  | .dn _ (.lc _ _ ik _ _ _) => decide (ik ≠ .dk)
  | _ => false
def notTup : Expr → Bool
  | .Tuple _ _ _ => false
  | _ => true
mutual
def mS (C : Cs) (rl : Nat) : S → Stmt → Bool
  | .asg (.n i) e, st => match st with
    | .Assign [.Name x p] ee _ => locs C i x && mE false C e ee && decide (lvE C.lv e = C.lv.getD i 0) && decide (alE C.lv e = []) && (!swapW C.sc x p ee || isLc e)
    | _ => false
  | .asg (.t l) e, st => match st with
    | .Assign [tge] ee _ => tgB C.N (locB C.sc) (.t l) tge && mE false C e ee && decide (lvE C.lv e = 0) && decide (alE C.lv e = []) && noComp ee && notTup ee && l.all fun i => decide (C.lv.getD i 0 = 0)
    | _ => false
  | .par l es, st => match st, l, es with
    | .Assign [.Tuple [.Name x px, .Name y py] _ _] (.Tuple [ea, eb] _ _) _, [i, j], [a, b] =>
      locs C i x && locs C j y && decide (i ≠ j) && swapB C.sc x y px py ea eb && mE false C a ea && mE false C b eb && !isIo a && !isIo b && djB (alE C.lv a) (wrE b) && notStar ea && notStar eb &&
        decide (alE C.lv a = []) && decide (lvE C.lv a = C.lv.getD i 0) && decide (alE C.lv b = []) && decide (lvE C.lv b = C.lv.getD j 0)
    | _, _, _ => false
  | .put i x e, st => match st with
    | .Assign [.Subscript (.Name y _) ex _] ee _ => nmB C i y && mE false C e ee && mE false C x ex && decide (1 ≤ C.lv.getD i 0) && decide (lvE C.lv e = C.lv.getD i 0 - 1) && decide (alE C.lv e = []) && decide (i ∉ wrE x) && noComp ee && plainIx ex
    | _ => false
  | .ex e, st => match st with | .Expr ee _ => mE false C e ee && noComp ee | _ => false
  | .pass, st => match st with | .Pass _ => true | .Expr (.Constant (.str _) _ _) _ => true | _ => false
  | .brk, st => match st with | .Break _ => true | _ => false
  | .cnt, st => match st with | .Continue _ => true | _ => false
  | .ret e, st => match st with | .Return (some ee) _ => mE false C e ee && decide (lvE C.lv e = rl) && decide (alE C.lv e = []) | _ => false
  | .ret0, st => match st with | .Return none _ => true | _ => false
  | .ifs c a b, st => match st with | .If ec sa sb _ => mE true C c ec && mSs C rl a sa && mSs C rl b sb | _ => false
  | .for tg ik il body, st => match st with
    | .For tge iter sb [] _ => tgB C.N (locB C.sc) tg tge && itB C tge ik il iter && (match iterArgs ik iter with | some es => mL C il es | none => false) && mSs C rl body sb && ((tgL tg).all fun i => decide (C.lv.getD i 0 = 0)) &&
        djB (alsW (il.map (wyE C.lv))) (tgL tg ++ wrSs body)
    | _ => false
  | .each i e body, st => match st with
    | .For tge iter sb [] _ => tgB C.N (locB C.sc) (.n i) tge && mE false C e iter && notSet iter && decide (lvE C.lv e = C.lv.getD i 0 + 1) && decide (alE C.lv e = []) && mSs C rl body sb
    | _ => false
  | .unp l e, st => match st with
    | .Assign [tge] ee _ => tgB C.N (locB C.sc) (.t l) tge && mE false C e ee && decide (1 ≤ lvE C.lv e) && decide (alE C.lv e = []) && noComp ee && notTup ee && l.all fun i => decide (C.lv.getD i 0 = lvE C.lv e - 1)
    | _ => false
  | .putd i x e, st => match st with
    | .Assign [.Subscript (.Name y _) ex _] ee _ => nmB C i y && mE false C e ee && mE false C x ex && decide (C.lv.getD i 0 = 1) && decide (lvE C.lv e = 0) && decide (alE C.lv e = []) && decide (i ∉ wrE x) && noComp ee
    | _ => false
  | .bad, _ => true
  | .while c body, st => match st with | .While ec sb [] _ => mE true C c ec && mSs C rl body sb | _ => false
  | _, _ => false
def mSs (C : Cs) (rl : Nat) : List S → List Stmt → Bool
  | [], sts => match sts with | [] => true | _ => false
  | s :: l, sts => match sts with | st :: sts' => mS C rl s st && mSs C rl l sts' | _ => false
end
theorem locs_of {C : Cs} {F : Fns} {X : Cx} (O : XOkS C F X) {i : Nat} {x : Str} (h : locs C i x = true) : X.N[i]? = some x ∧ Loc X.env.scope x := by
  unfold locs at h
  simp only [Bool.and_eq_true, decide_eq_true_eq] at h
  refine ⟨by rw [O.o.n]; exact h.1, ?_⟩
  rw [O.o.sc]
  have h2 := h.2
  unfold locB at h2
  split at h2
  · exact .inl (by assumption)
  · exact .inr (by assumption)
  · cases h2
theorem loc_ok {C : Cs} {F : Fns} {X : Cx} (O : XOkS C F X) (x : Str) (h : locB C.sc x = true) : Loc X.env.scope x ∧ (X.fn x = true ∨ X.env.scope.names.lookup x = some .local) := by
  refine ⟨?_, .inl (O.fn x)⟩
  rw [O.o.sc]
  unfold locB at h
  split at h
  · exact .inl (by assumption)
  · exact .inr (by assumption)
  · cases h
end Pv
end
section
/-! P27: the check is sound: statements. -/
namespace Pv
open PySem PySem.Spec PyProof.Rows L2
theorem iter_ok {C : Cs} {F : Fns} {X : Cx} (O : XOk C F X) {tge iter : Expr} {ik : IK} {il : List E} (h4 : itB C tge ik il iter = true) (h5 : (match iterArgs ik iter with | some es => mL C il es | none => false) = true) : SI X F C.lv ZF tge ik il iter := by
  have hv : (il.map (wyE C.lv)).all valWy = true := by
    unfold itB at h4
    simp only [Bool.and_eq_true] at h4
    exact h4.1.2
  split at h5
  · rename_i es hes
    refine it_ok O h4 hes (mL_ok F il C X es O h5).1 (mL_len il es h5) (mL_star il es h5) fun a ea ek => ?_
    have hes : es = [iter] := by rcases ek with ek | ek <;> (subst ek; cases hes; rfl)
    subst ea hes
    have hio : isIo a = false := by
      have := hv
      simp only [List.map_cons, List.map_nil, List.all_cons, List.all_nil, Bool.and_true] at this
      cases a <;> first | rfl | cases this
    refine ⟨?_, hio⟩
    simp only [mL, Bool.and_eq_true] at h5
    have h5' : mE false C a iter = true := by cases a <;> first | exact h5.1.1.1 | cases hio
    exact (mE_ok F a _ C X _ O h5').fst
  · cases h5
theorem it_rd {C : Cs} {tge iter : Expr} {ik : IK} {il : List E} (h : itB C tge ik il iter = true) : (il.map (wyE C.lv)).all valWy = true ∧ (il.map (wyE C.lv)).all rdWy = true ∧ notSet iter = true := by
  unfold itB at h
  simp only [Bool.and_eq_true] at h
  exact ⟨h.1.2, h.1.1.2, h.1.1.1⟩
theorem lc_set {C : Cs} {F : Fns} {X : Cx} (O : XOk C F X) {el : E} {tg : Tg} {ik : IK} {il ifs : List E} {own : List Nat} {e : Expr} {rl fuel i : Nat} {y : Str} {py spos : Pos} (hk : ik ≠ .dk) (h : mE false C (.lc el tg ik il ifs own) e = true) (hy : X.N[i]? = some y) (hyl : X.env.scope.names.lookup y = some .local)
    (hsw : swapsWith e (some (.Name y py)) spos.line X.env = pure true) (hl : lvE C.lv (.lc el tg ik il ifs own) = C.lv.getD i 0) : SS X F C.lv ZF rl fuel (.asg (.n i) (.lc el tg ik il ifs own)) (.Assign [.Name y py] e spos) := by
  simp only [mE] at h
  split at h
  · rename_i elt c scope hp
    obtain ⟨pos, rfl⟩ := lcP_eq hp
    simp only [Bool.and_eq_true, decide_eq_true_eq] at h
    simp only [Bool.or_eq_true] at h
    obtain ⟨⟨⟨⟨h2, h3⟩, h6⟩, h7⟩, h10⟩ := h
    have h3 := h3.resolve_left (fun z => by
      obtain ⟨_, _, _, e, _⟩ := dvB_ok z
      exact hk e)
    simp only [Bool.and_eq_true] at h3
    obtain ⟨⟨h3, h5⟩, h9⟩ := h3
    obtain ⟨k1, k2, k3, k4⟩ := clB_ok h3
    obtain ⟨hv1, hv2, hv3⟩ := it_facts k2
    have hI := si_ok O k2 k3 h5 (mL_ok F il C X _ O h5)
    have h0 := tg_own k4
    simp only [lvE] at hl
    have := ss_setLc (X := X) (F := F) (lv := C.lv) (Z := ZF) (pos := pos) (e := el) (tg := tg) (ik := ik) (il := il) (ifs := ifs) (rl := rl) (fuel := fuel) O.calm O.nd hy hyl hsw hI (blB_ok O h2) (fun s H a cl fp => pg_blk O k1 s H a cl fp) (fun s H a cl fp => mT_ok F ifs (cS C scope) _ _ (O.blk s H scope cl a fp) h6)
      (fun s H a cl fp => (mE_ok F el false (cS C scope) _ _ (O.blk s H scope cl a fp) h7).fst) (set_ok hv3 X.env) hv2 hv1 (fun i m => (h0 i m).1) (fun i m => by rw [own_map]; exact (h0 i m).2) (by rw [own_map]; exact dj_of h9) h10 hl
    rw [own_map] at this
    exact this
  · cases h
theorem lc_setDn {C : Cs} {F : Fns} {X : Cx} (O : XOk C F X) {el : E} {tg : Tg} {ik : IK} {il ifs : List E} {own : List Nat} {e : Expr} {rl fuel i m : Nat} {y : Str} {py spos : Pos} (hk : ik ≠ .dk) (h : mE false C (.lc el tg ik il ifs own) e = true) (hy : X.N[i]? = some y) (hyl : X.env.scope.names.lookup y = some .local)
    (hsw : swapsWith e (some (.Name y py)) spos.line X.env = pure true) (hl : m = C.lv.getD i 0) (hm : m ≤ lvE C.lv (.lc el tg ik il ifs own)) : SS X F C.lv ZF rl fuel (.asg (.n i) (.dn m (.lc el tg ik il ifs own))) (.Assign [.Name y py] e spos) := by
  simp only [mE] at h
  split at h
  · rename_i elt c scope hp
    obtain ⟨pos, rfl⟩ := lcP_eq hp
    simp only [Bool.and_eq_true, decide_eq_true_eq] at h
    simp only [Bool.or_eq_true] at h
    obtain ⟨⟨⟨⟨h2, h3⟩, h6⟩, h7⟩, h10⟩ := h
    have h3 := h3.resolve_left (fun z => by
      obtain ⟨_, _, _, e, _⟩ := dvB_ok z
      exact hk e)
    simp only [Bool.and_eq_true] at h3
    obtain ⟨⟨h3, h5⟩, h9⟩ := h3
    obtain ⟨k1, k2, k3, k4⟩ := clB_ok h3
    obtain ⟨hv1, hv2, hv3⟩ := it_facts k2
    have hI := si_ok O k2 k3 h5 (mL_ok F il C X _ O h5)
    have h0 := tg_own k4
    simp only [lvE] at hm
    have := ss_setLcDn (X := X) (F := F) (lv := C.lv) (pos := pos) (e := el) (tg := tg) (ik := ik) (il := il) (ifs := ifs) (rl := rl) (fuel := fuel) O.calm O.nd hy hyl hsw hI (blB_ok O h2) (fun s H a cl fp => pg_blk O k1 s H a cl fp) (fun s H a cl fp => mT_ok F ifs (cS C scope) _ _ (O.blk s H scope cl a fp) h6)
      (fun s H a cl fp => (mE_ok F el false (cS C scope) _ _ (O.blk s H scope cl a fp) h7).fst) (set_ok hv3 X.env) hv2 hv1 (fun i m => (h0 i m).1) (fun i m => by rw [own_map]; exact (h0 i m).2) (by rw [own_map]; exact dj_of h9) h10 hl hm
    rw [own_map] at this
    exact this
  · cases h
set_option maxHeartbeats 4000000 in
mutual
theorem mS_ok (F : Fns) (fuel rl : Nat) : ∀ (s : S) (C : Cs) (X : Cx) (st : Stmt), XOkS C F X → mS C rl s st = true → SS X F C.lv ZF rl fuel s st
  | .asg (.n i) e, C, X, st, O, h => by
    simp only [mS] at h
    split at h
    · rename_i x p ee pos
      simp only [Bool.and_eq_true, decide_eq_true_eq, Bool.or_eq_true, Bool.not_eq_true'] at h
      obtain ⟨⟨⟨⟨h1, h2⟩, h3⟩, h4⟩, h5⟩ := h
      obtain ⟨n1, n2⟩ := locs_of O h1
      have hsw := swapW_ok O.kind x p ee pos.line
      cases c : swapW C.sc x p ee with
      | false =>
        rw [O.o.sc, c] at hsw
        exact ss_set O.o.nd n1 n2 (O.fn x) (mE_ok F e _ C X _ O.o h2).fst hsw h3 h4
      | true =>
        have h5 := h5.resolve_left (by rw [c]; decide)
        rw [O.o.sc, c] at hsw
        have kk : X.env.scope.names.lookup x = some .local := ?_
        · match e, h5, h2, h3 with
          | .lc _ _ _ _ _ _, hk, h2, h3 => exact lc_set O.o (of_decide_eq_true hk) h2 n1 kk hsw h3
          | .dn m (.lc _ _ _ _ _ _), hk, h2, h3 =>
            simp only [mE, Bool.and_eq_true, decide_eq_true_eq] at h2
            simp only [lvE] at h3
            exact lc_setDn O.o (of_decide_eq_true hk) (by simp only [mE]; exact h2.1.1.2) n1 kk hsw h3 h2.1.2
        rw [O.o.sc]
        have kc : kindC C.sc x = true := by
          unfold swapW at c
          split at c
          · simp only [Bool.and_eq_true] at c
            exact c.1.1
          · simp only [Bool.and_eq_true] at c
            exact c.1.1
          · simp only [Bool.and_eq_true] at c
            exact c.1.1
          · cases c
        unfold kindC at kc
        split at kc
        · assumption
        · cases kc
    · cases h
  | .asg (.t l) e, C, X, st, O, h => by
    simp only [mS] at h
    split at h
    · rename_i tge ee pos
      simp only [Bool.and_eq_true, decide_eq_true_eq, List.all_eq_true] at h
      obtain ⟨⟨⟨⟨⟨⟨h1, h2⟩, h3⟩, h4⟩, h5⟩, h6⟩, h7⟩ := h
      have hg := tgB_ok (X := X) O.o.calm (loc_ok O) O.o.nd (tg := .t l) (e := tge) (by rw [O.o.n]; exact h1)
      have hw : swappedStores [tge] ee X.env = pure none := by cases ee <;> first | (cases h6; done) | (cases tge <;> rfl)
      have ha : (assignEach [tge] X.env).map (·.2) = [assign tge X.env] := by cases tge <;> first | rfl | (simp [tgB] at h1)
      refine ps_of (ps_asg (mE_ok F e _ C X _ O.o h2).fst hg (by unfold swapsWithSole; exact swaps_ok h5 _ _ _) hw ha) fun D σ H ⟨r, B, As, G, w⟩ => ?_
      simp only [evS] at w
      rw [wp_bind] at w
      refine tEv.mk G w fun d r' H' B' As' v as hw G' S' X' => ?_
      rw [wp_bind] at hw
      obtain ⟨r1, e1, q⟩ := hw.get (asgT_nx _ _ _)
      have ow := X'.ow
      rw [h3] at ow
      refine gT_ok h7 G' (Ow.zero.mp ow).2 e1 fun σ2 As2 G2 S2 fx => ?_
      exact q σ2 H' B' As2 G2 ((S'.trans G S2).wide fun j w => w.elim (List.mem_append_left _) (List.mem_append_right _)) fx
    · cases h
  | .unp l e, C, X, st, O, h => by
    simp only [mS] at h
    split at h
    · rename_i tge ee pos
      simp only [Bool.and_eq_true, decide_eq_true_eq, List.all_eq_true] at h
      obtain ⟨⟨⟨⟨⟨⟨h1, h2⟩, h3⟩, h4⟩, h5⟩, h6⟩, h7⟩ := h
      have hg : PG X tge (gLst X.K l.length (gN l)) := by
        rw [← O.o.n] at h1
        cases tge <;> simp only [tgB] at h1 <;> first | (cases h1; done) | skip
        obtain ⟨g1, g2, g3⟩ := tgN_ok (X := X) (ok := locB C.sc) (loc_ok O) O.o.nd _ _ h1
        exact pg_lst O.o.calm g1 g2 g3
      have hw : swappedStores [tge] ee X.env = pure none := by cases ee <;> first | (cases h6; done) | (cases tge <;> rfl)
      have ha : (assignEach [tge] X.env).map (·.2) = [assign tge X.env] := by cases tge <;> first | rfl | (simp [tgB] at h1)
      refine ps_of (ps_asg (mE_ok F e _ C X _ O.o h2).fst hg (by unfold swapsWithSole; exact swaps_ok h5 _ _ _) hw ha) fun D σ H ⟨r, B, As, G, w⟩ => ?_
      simp only [evS] at w
      rw [wp_bind] at w
      refine tEv.mk G w fun d r' H' B' As' v as hw G' S' X' => ?_
      obtain ⟨n, hn⟩ : ∃ n, lvE C.lv e = n + 1 := ⟨lvE C.lv e - 1, by omega⟩
      cases d with
      | list ds =>
        simp only at hw
        obtain ⟨g, q⟩ := wp_when.mp hw
        simp only [Bool.and_eq_true, decide_eq_true_eq, List.all_eq_true] at g
        have ow := X'.ow
        rw [hn] at ow
        simp only [Ow] at ow
        obtain ⟨a, xs, bs, rfl, k1, rfl, k2⟩ := ow
        have own := X'.own h4
        have nd := List.nodup_cons.mp X'.nd
        refine ⟨a, xs, rfl, .inl (.inl k1), by rw [← k2.len, g.1], ?_⟩
        refine gU_ok (W := ofL (wrS (.unp l e))) l l (fun i hi => by rw [h7 i hi, hn]; rfl) (fun i hi => ⟨hi, List.mem_append_right _ hi⟩) g.1 g.2 k2 nd.2 (fun b hb => ⟨X'.ban b (List.mem_cons_of_mem _ hb), (own b (List.mem_cons_of_mem _ hb)).1.wide fun i w => List.mem_append_left _ w, (own b (List.mem_cons_of_mem _ hb)).2⟩) G' (S'.wide fun i w => List.mem_append_left _ w) (fun _ _ => rfl) fun σ2 As2 G2 S2 fx => ?_
        exact q σ2 H' B' As2 G2 S2 fx
      | _ => exact hw.elim
    · cases h
  | .par l es, C, X, st, O, h => by
    unfold mS at h
    split at h
    · rename_i x px y py _ _ ea eb _ _ pos i j a b
      simp only [Bool.and_eq_true, decide_eq_true_eq, Bool.not_eq_true'] at h
      obtain ⟨⟨⟨⟨⟨⟨⟨⟨⟨⟨⟨⟨⟨⟨h1, h2⟩, h3⟩, h4⟩, h5⟩, h6⟩, h7⟩, h8⟩, h9⟩, h10⟩, h11⟩, h12⟩, h13⟩, h14⟩, h15⟩ := h
      obtain ⟨n1, _⟩ := locs_of O h1
      obtain ⟨n2, _⟩ := locs_of O h2
      have hb : SA X F C.lv ZF [b] [eb] := a_cons (mE_ok F b _ C X _ O.o h6).fst a_nil h8 (fun i _ z => by cases z) h11
      have hl : SA X F C.lv ZF [a, b] [ea, eb] := a_cons (mE_ok F a _ C X _ O.o h5).fst hb h7 (fun i m z => dj_of h9 i m (by simpa [wrL] using z)) h10
      exact ss_par O.o.calm O.o.nd n1 n2 h3 (by rw [O.o.sc]; exact h4) hl (by rw [wy_val h7, h12, h13]) (by rw [wy_val h8, h14, h15])
    · cases h
  | .put i x e, C, X, st, O, h => by
    simp only [mS] at h
    split at h
    · simp only [Bool.and_eq_true, decide_eq_true_eq] at h
      obtain ⟨⟨⟨⟨⟨⟨⟨⟨h1, h2⟩, h3⟩, h4⟩, h5⟩, h6⟩, h7⟩, h8⟩, h9⟩ := h
      obtain ⟨n1, n2, n3, n4⟩ := nm_of O.o h1
      obtain ⟨n, hn⟩ : ∃ n, C.lv.getD i 0 = n + 1 := ⟨C.lv.getD i 0 - 1, by omega⟩
      exact ss_put n1 n2 n3 n4 (mE_ok F e _ C X _ O.o h2).fst (mE_ok F x _ C X _ O.o h3).fst hn (by rw [h5, hn]; rfl) h6 h7 h8 h9
    · cases h
  | .ex e, C, X, st, O, h => by
    simp only [mS] at h
    split at h
    · simp only [Bool.and_eq_true] at h
      exact ss_ex (mE_ok F e _ C X _ O.o h.1).fst h.2
    · cases h
  | .pass, C, X, st, O, h => by
    simp only [mS] at h
    split at h
    · exact ss_pass
    · exact ss_doc
    · cases h
  | .brk, C, X, st, O, h => by
    simp only [mS] at h
    split at h
    · exact ss_brk
    · cases h
  | .cnt, C, X, st, O, h => by
    simp only [mS] at h
    split at h
    · exact ss_cnt
    · cases h
  | .ret e, C, X, st, O, h => by
    simp only [mS] at h
    split at h
    · simp only [Bool.and_eq_true, decide_eq_true_eq] at h
      exact ss_ret (mE_ok F e _ C X _ O.o h.1.1).fst h.1.2 h.2
    · cases h
  | .ret0, C, X, st, O, h => by
    simp only [mS] at h
    split at h
    · exact ss_ret0
    · cases h
  | .ifs c a b, C, X, st, O, h => by
    simp only [mS] at h
    split at h
    · simp only [Bool.and_eq_true] at h
      exact ss_if (mE_ok F c _ C X _ O.o h.1.1).snd (mSs_ok F fuel rl a C X _ O h.1.2) (mSs_ok F fuel rl b C X _ O h.2)
    · cases h
  | .for tg ik il body, C, X, st, O, h => by
    simp only [mS] at h
    split at h
    · simp only [Bool.and_eq_true, decide_eq_true_eq, List.all_eq_true] at h
      obtain ⟨⟨⟨⟨⟨h1, h2⟩, h3⟩, h4⟩, h5⟩, h6⟩ := h
      have hv := it_rd h2
      exact ss_for O.own O.o.calm (iter_ok O.o h2 h3) (tgB_ok (X := X) O.o.calm (loc_ok O) O.o.nd (by rw [O.o.n]; exact h1)) (mSs_ok F fuel rl body C X _ O h4) (set_ok hv.2.2 X.env) hv.2.1 hv.1 h5 (dj_of h6)
    · cases h
  | .while c body, C, X, st, O, h => by
    simp only [mS] at h
    split at h
    · simp only [Bool.and_eq_true] at h
      exact ss_while O.own (mE_ok F c _ C X _ O.o h.1).snd (mSs_ok F fuel rl body C X _ O h.2)
    · cases h
  | .each i e body, C, X, st, O, h => by
    simp only [mS] at h
    split at h
    · simp only [Bool.and_eq_true, decide_eq_true_eq] at h
      obtain ⟨⟨⟨⟨⟨h1, h2⟩, h3⟩, h4⟩, h5⟩, h6⟩ := h
      exact ss_each O.own O.o.calm (mE_ok F e _ C X _ O.o h2).fst (tgB_ok (X := X) O.o.calm (loc_ok O) O.o.nd (by rw [O.o.n]; exact h1)) (mSs_ok F fuel rl body C X _ O h6) (set_ok h3 X.env) h4 h5 rfl
    · cases h
  | .aug _ _ _, C, X, st, O, h => by simp [mS] at h
  | .putd i x e, C, X, st, O, h => by
    simp only [mS] at h
    split at h
    · simp only [Bool.and_eq_true, decide_eq_true_eq] at h
      obtain ⟨⟨⟨⟨⟨⟨⟨h1, h2⟩, h3⟩, h4⟩, h5⟩, h6⟩, h7⟩, h8⟩ := h
      obtain ⟨n1, n2, n3, n4⟩ := nm_of O.o h1
      exact ss_putd (by have := O.o.un; omega) n1 n2 n3 n4 (mE_ok F e _ C X _ O.o h2).fst (mE_ok F x _ C X _ O.o h3).fst h4 h5 h6 h8
    · cases h
  | .sda _ _ _, C, X, st, O, h => by simp [mS] at h
  | .raise _ _, C, X, st, O, h => by simp [mS] at h
  | .bad, C, X, st, O, h => ⟨fun pins s σ H D I ⟨r, B, As, G, w⟩ => (by simpa [evS] using w : False).elim⟩
theorem mSs_ok (F : Fns) (fuel rl : Nat) : ∀ (l : List S) (C : Cs) (X : Cx) (sts : List Stmt), XOkS C F X → mSs C rl l sts = true → SSs X F C.lv ZF rl fuel l sts
  | [], C, X, sts, O, h => by
    cases sts with
    | nil => exact ss_nil
    | cons _ _ => simp [mSs] at h
  | s :: l, C, X, sts, O, h => by
    cases sts with
    | nil => simp [mSs] at h
    | cons st sts =>
      simp only [mSs, Bool.and_eq_true] at h
      exact ss_cons (mS_ok F fuel rl s C X st O h.1) (mSs_ok F fuel rl l C X sts O h.2)
end
end Pv
end
section
/-! P28: a def keeps its promise. -/
namespace Pv
open PySem PySem.Spec PyProof.Rows L2
section
variable {K : Fg} {H : Hp} {B : No}
theorem ParL.at : ∀ {ns : List Nat} {ds : List D} {vs : List V} {ass : List (List Addr)} {i : Nat} {d : D}, ParL K H B ns ds vs ass → ds[i]? = some d → ∃ n v as, ns[i]? = some n ∧ vs[i]? = some v ∧ ass[i]? = some as ∧ Ow K H B n d v as
  | [], ds, vs, ass, i, d, h, e => by
    rw [h.1] at e
    simp at e
  | n :: ns, ds, vs, ass, i, d, h, e => by
    obtain ⟨d0, ds', v, vs', as, ass', rfl, rfl, rfl, ow, nd1, hb, dj1, P'⟩ := h
    cases i with
    | zero =>
      simp at e
      subst e
      exact ⟨n, v, as, rfl, rfl, rfl, ow⟩
    | succ i =>
      obtain ⟨n', v', as', h1, h2, h3, h4⟩ := ParL.at P' (i := i) (by simpa using e)
      exact ⟨n', v', as', by simpa using h1, by simpa using h2, by simpa using h3, h4⟩
theorem ParL.own : ∀ {ns : List Nat} {ds : List D} {vs : List V} {ass : List (List Addr)}, ParL K H B ns ds vs ass → (∀ (i : Nat) as, ass[i]? = some as → as.Nodup ∧ ∀ a ∈ as, B a) ∧ ∀ (i j : Nat) as bs, i ≠ j → ass[i]? = some as → ass[j]? = some bs → ∀ a ∈ as, a ∉ bs
  | [], ds, vs, ass, h => by
    rw [h.2.2]
    exact ⟨fun i as e => by simp at e, fun i j as bs _ e => by simp at e⟩
  | n :: ns, ds, vs, ass, h => by
    obtain ⟨d0, ds', v, vs', as, ass', rfl, rfl, rfl, ow, nd1, hb, dj1, P'⟩ := h
    obtain ⟨q1, q2⟩ := ParL.own P'
    refine ⟨fun i bs e => ?_, fun i j bs cs nij e1 e2 a m m2 => ?_⟩
    · cases i with
      | zero =>
        simp at e
        subst e
        exact ⟨nd1, hb⟩
      | succ i => exact q1 i bs (by simpa using e)
    · cases i with
      | zero =>
        simp at e1
        subst e1
        cases j with
        | zero => exact nij rfl
        | succ j => exact dj1 a m (List.mem_flatten.mpr ⟨cs, List.mem_of_getElem? (i := j) (by simpa using e2), m2⟩)
      | succ i =>
        cases j with
        | zero =>
          simp at e2
          subst e2
          exact dj1 a m2 (List.mem_flatten.mpr ⟨bs, List.mem_of_getElem? (i := i) (by simpa using e1), m⟩)
        | succ j => exact q2 i j bs cs (fun e => nij (by rw [e])) (by simpa using e1) (by simpa using e2) a m m2
/-- the state at a def's entry -/
theorem good_start {ns lv : List Nat} {ds : List D} {vs : List V} {ass : List (List Addr)} {N : List Str} {m : Nat} (P : ParL K H B ns ds vs ass) (ld : ∀ a, B a → ∃ o, H a = some o ∧ isLD o = true) (hlv : ∀ i n, ns[i]? = some n → lv.getD i 0 = n) (hm : N.length - vs.length = m) :
    Good K lv (L2.start N vs) H (ds.map some ++ List.replicate m none) B (fun i => ass.getD i []) := by
  have hl := P.length
  obtain ⟨q1, q2⟩ := P.own
  have asOf : ∀ i a, a ∈ ass.getD i [] → ∃ as, ass[i]? = some as ∧ a ∈ as := fun i a m => by
    rw [List.getD_eq_getElem?_getD] at m
    cases e : ass[i]? with
    | none => rw [e] at m; cases m
    | some as => rw [e] at m; exact ⟨as, rfl, m⟩
  have inL : ∀ (i : Nat) d, (ds.map some ++ List.replicate m none)[i]? = some (some d) → ds[i]? = some d := fun i d e => by
    by_cases c : i < ds.length
    · rw [List.getElem?_append_left (by simpa using c), List.getElem?_map] at e
      cases q : ds[i]? with
      | none => rw [q] at e; cases e
      | some x => rw [q] at e; cases e; rfl
    · rw [List.getElem?_append_right (by simpa using c), List.getElem?_replicate] at e
      split at e <;> cases e
  refine ⟨fun i d e => ?_, fun i h => ?_, fun i => ?_, fun i j a n m m2 => ?_, fun i a m => ?_, ld, ?_⟩
  · obtain ⟨n, v, as, h1, h2, h3, h4⟩ := P.at (inL i d e)
    refine ⟨v, ?_, ?_⟩
    · have hi := rest_len h2
      unfold L2.start
      rw [List.getElem?_append_left (by simpa using hi), List.getElem?_map, h2]
      rfl
    · rw [hlv i n h1, List.getD_eq_getElem?_getD, h3]
      exact h4
  · rw [List.getD_eq_getElem?_getD]
    cases e : ass[i]? with
    | none => rfl
    | some as =>
      exfalso
      have hi := rest_len e
      have hd : i < ds.length := by omega
      refine h ds[i] ?_
      rw [List.getElem?_append_left (by simpa using hd), List.getElem?_map, List.getElem?_eq_getElem hd]
      rfl
  · rw [List.getD_eq_getElem?_getD]
    cases e : ass[i]? with
    | none => exact List.nodup_nil
    | some as => exact (q1 i as e).1
  · obtain ⟨as, e1, m⟩ := asOf i a m
    obtain ⟨bs, e2, m2⟩ := asOf j a m2
    exact q2 i j as bs n e1 e2 a m m2
  · obtain ⟨as, e1, m⟩ := asOf i a m
    exact (q1 i as e1).2 a m
  · unfold L2.start
    simp only [List.length_append, List.length_map, List.length_replicate]
    omega
/-- what is handed back of the parameters that were written -/
theorem outs_ok {lv : List Nat} {σ : Sg} {r : Pv.Env} {As : AsT} {vs : List V} {lvs : List Nat} (G : Good K lv σ H r B As) : ∀ (muts : List Nat), muts.Nodup → (∀ i ∈ muts, lv.getD i 0 = lvs.getD i 0 ∧ σ[i]? = some (some (vs.getD i .non))) → (muts.all fun i => (r[i]?.getD none).isSome) = true →
    ParL K H B (muts.map fun j => lvs.getD j 0) (outsD muts r) (muts.map fun j => vs.getD j .non) (muts.map As)
  | [], _, _, _ => ⟨rfl, rfl, rfl⟩
  | i :: l, nd, hm, hp => by
    simp only [List.all_cons, Bool.and_eq_true] at hp
    have nd2 := List.nodup_cons.mp nd
    obtain ⟨k1, k2⟩ := hm i List.mem_cons_self
    have e : ∃ d, r[i]? = some (some d) := by
      cases q : r[i]? with
      | none => rw [q] at hp; cases hp.1
      | some o =>
        cases o with
        | none => rw [q] at hp; cases hp.1
        | some d => exact ⟨d, rfl⟩
    obtain ⟨d, ed⟩ := e
    obtain ⟨v, ev, ow⟩ := G.slot i d ed
    rw [k2] at ev
    cases ev
    rw [k1] at ow
    refine ⟨d, outsD l r, _, _, As i, _, ?_, rfl, rfl, ow, G.nd i, G.ban i, fun a m m2 => ?_, outs_ok G l nd2.2 (fun j hj => hm j (List.mem_cons_of_mem _ hj)) hp.2⟩
    · simp only [outsD, List.map_cons, ed]
      rfl
    · obtain ⟨bs, h1, h2⟩ := List.mem_flatten.mp m2
      obtain ⟨j, hj, rfl⟩ := List.mem_map.mp h1
      exact G.dj i j a (fun e => nd2.1 (e ▸ hj)) m h2
end
/-- what the static shape of a def must be -/
def fdOk (N : List Str) (lv : List Nat) (sg : Sig) (f : Fd) : Bool :=
  decide (f.np = sg.ps.length) && decide (f.n = N.length) && decide (sg.lvs.length = sg.ps.length) && decide (f.muts = sg.muts) && decide (sg.muts.Nodup) && (sg.muts.all fun i => decide (i < sg.ps.length) && decide (i ∉ asSs f.body)) &&
    ((List.range sg.ps.length).all fun i => decide (lv.getD i 0 = sg.lvs.getD i 0))
/-- the body's reading, from the promise -/
theorem body_ok {K : Fg} {N : List Str} {lv : List Nat} {sg : Sig} {f : Fd} {F : Fns} {fuel : Nat} {vs : List V} {H : Hp} {Q : VK} (hok : fdOk N lv sg f = true) (h : spG K sg (runFd F fuel f) vs H Q) :
    tSt K lv ZF sg.rl (evSs F fuel f.body) (wrSs f.body) (asSs f.body) { nx := fun _ H' => Q .non H', rt := Q } (L2.start N vs) H := by
  unfold fdOk at hok
  simp only [Bool.and_eq_true, decide_eq_true_eq, List.all_eq_true, List.mem_range] at hok
  obtain ⟨⟨⟨⟨⟨⟨h1, h2⟩, h3⟩, h4⟩, h5⟩, h6⟩, h7⟩ := hok
  obtain ⟨ds, B, ass, P, ld, w⟩ := h
  have hl := P.length
  have hlv : ∀ i n, sg.lvs[i]? = some n → lv.getD i 0 = n := fun i n e => by
    have hi := rest_len e
    rw [h7 i (by omega), List.getD_eq_getElem?_getD, e]
    rfl
  have G := good_start (N := N) (m := f.n - f.np) P ld hlv (by omega)
  unfold runFd at w
  rw [if_pos (by omega), wp_bind] at w
  refine ⟨_, B, _, G, w.imp fun p hp => ?_⟩
  obtain ⟨c, r'⟩ := p
  have inF : ∀ i a, a ∈ ass.getD i [] → a ∈ ass.flatten := fun i a m => by
    rw [List.getD_eq_getElem?_getD] at m
    cases e : ass[i]? with
    | none => rw [e] at m; cases m
    | some as => rw [e] at m; exact List.mem_flatten.mpr ⟨as, List.mem_of_getElem? e, m⟩
  have fin : ∀ (σ' : Sg) (H' : Hp) (B' : No) (As' : AsT) (d : D) (v : V) (as : List Addr), Good K lv σ' H' r' B' As' → Stp (ofL (wrSs f.body)) H B (fun i => ass.getD i []) H' B' As' → (∀ i, i ∉ asSs f.body → σ'[i]? = (L2.start N vs)[i]?) →
      Val K H' B' As' (Src (ofL (wrSs f.body)) H (fun i => ass.getD i [])) [] sg.rl d v as → wp (.when (f.muts.all fun i => (r'[i]?.getD none).isSome) (d, outsD f.muts r')) (fun p => ∀ H' v B' as ass', Ret K sg H B vs ass p.1 p.2 H' B' v as ass' → Q v H') ZF → Q v H' := by
    intro σ' H' B' As' d v as G' S' fx X' hw
    obtain ⟨g, q⟩ := wp_when.mp hw
    rw [h4] at g q
    have osrc : ∀ i, ∀ a ∈ As' i, H a = none ∨ a ∈ ass.flatten := fun i a m => by
      by_cases c : i ∈ wrSs f.body
      · rcases S'.frm i c a m with ⟨j, _, z⟩ | z
        · exact .inr (inF j a z)
        · exact .inl z
      · rw [S'.same i c] at m
        exact .inr (inF i a m)
    refine q H' v B' as (sg.muts.map As') ⟨fun a o e n => S'.keep a o e fun i _ m => n (inF i a m), S'.ban, fun a z n => S'.hold a z fun i _ m => n (inF i a m), G'.bin, X'.ow, X'.nd, X'.ban, fun a m => ?_, ?_, fun a m => ?_, fun a m m2 => ?_⟩
    · rcases (X'.own rfl a m).1 with z | ⟨j, _, z⟩
      · exact .inl z
      · exact .inr (inF j a z)
    · refine outs_ok G' sg.muts h5 (fun i hi => ?_) g
      have k := h6 i hi
      have hi' : i < vs.length := by omega
      refine ⟨h7 i k.1, ?_⟩
      rw [fx i k.2]
      unfold L2.start
      rw [List.getElem?_append_left (by simpa using hi'), List.getElem?_map, List.getElem?_eq_getElem hi', List.getD_eq_getElem?_getD, List.getElem?_eq_getElem hi']
      rfl
    · obtain ⟨bs, q1, q2⟩ := List.mem_flatten.mp m
      obtain ⟨j, _, rfl⟩ := List.mem_map.mp q1
      exact osrc j a q2
    · obtain ⟨bs, q1, q2⟩ := List.mem_flatten.mp m2
      obtain ⟨j, _, rfl⟩ := List.mem_map.mp q1
      exact (X'.own rfl a m).2 j q2
  intro σ' H' B' As' G' S' fx
  cases c with
  | nx => exact fin σ' H' B' As' .none .non [] G' S' fx ⟨imm_ow sg.rl rfl (by simp only [Rp]), List.nodup_nil, by simp, by simp, by simp⟩ hp
  | ret d => exact fun v as X' => fin σ' H' B' As' d v as G' S' fx X' hp
  | brk => exact hp.elim
  | cnt => exact hp.elim
end Pv
end
section
/-! P29: a def of the text keeps its promise; all defs, whatever the depth. -/
namespace Pv
open PySem PySem.Spec PyProof.Rows L2
/-- a def of the text, checked -/
structure Df (K : Fg) (N : List Str) (sg : Sig) (f : Addr) (name qual : Str) (params : Arguments) (body : List Stmt) (scope : Scope) (fd : FuncData) : Prop where
  ex : ∃ (dV kV doc pm cdv ct oc : Value) (an od : Option Addr) (osl : Array (Option Value)), fd = PySem.W.fnOf name qual params body scope dV kV doc pm an cdv ct ∧
    K.lookup f = some ⟨oc, od, .func (PySem.W.fnOf name qual params body scope dV kV doc pm an cdv ct), osl⟩ ∧ PySem.W.codeIn K cdv qual = true
  sc : FnScope N sg.ps scope
/-- what a body's context gives -/
structure GOk (K : Fg) (mg : Str → Option Value) (gl : Str → Option D) : Prop where
  blt : ∀ x ∈ bltNames, mg x = none
  gl : ∀ x d, gl x = some d → immD d = true ∧ ∃ u v, mg x = some u ∧ RelV v u ∧ ∀ H no, Rp K H no d v
section
variable {P : Program} {w : World} {K : Fg} {mg : Str → Option Value} {base : Heap}
/-- a def that may be called at the depth k -/
def Cal (P : Program) (w : World) (K : Fg) (mg : Str → Option Value) (base : Heap) (F : Fns) (k : Nat) (g : Str) (sg : Sig) : Prop :=
  (∃ (fa : Addr) (fd : FuncData), mg g = some (.ref fa) ∧ PySem.W.keepIn K (.ref fa) = true ∧ FnG P w K mg base k fa fd sg (F.call g) ∧
    (∀ (s : Shared) (us : List Value), us.length = sg.ps.length → BindsTo s fd ⟨us, []⟩ (sg.ps.zip us)) ∧
    (∀ p ∈ sg.kws, ∀ (s : Shared) (us : List Value), us.length = sg.ps.length → BindsTo s fd ⟨[], p.1.zip us⟩ (sg.ps.zip (p.2.map fun j => us.getD j .none)))) ∧
  F.lv g = (sg.muts.map fun j => sg.lvs.getD j 0) ∧ sg.lvs.length = sg.ps.length
theorem fnG_of {k fuel : Nat} {f : Addr} {name qual : Str} {params : Arguments} {body : List Stmt} {scope : Scope} {fd : FuncData} {N : List Str} {lv : List Nat} {sg : Sig} {fs : Str → Option Sig} {F : Fns} {r : Fd}
    (df : Df K N sg f name qual params body scope fd) (G : GOk K mg F.gl) (hm : mSs ⟨N, scope, lv, fs⟩ sg.rl r.body body = true) (hok : fdOk N lv sg r = true) (cal : ∀ g sg', fs g = some sg' → Cal P w K mg base F k g sg') :
    FnG P w K mg base (k + 1) f fd sg (runFd F fuel r) := by
  obtain ⟨dV, kV, doc, pm, cdv, ct, oc, an, od, osl, rfl, lk, hcd⟩ := df.ex
  have Sc := df.sc
  refine ⟨fun A outer s H args us vs Q hr hgd e0 hb rv hsp => ?_⟩
  have hl : vs.length = sg.ps.length := by
    have h := hok
    unfold fdOk at h
    simp only [Bool.and_eq_true, decide_eq_true_eq] at h
    rw [spG_len hsp]
    exact h.1.1.1.1.2
  have KX : K.In s.heap := e0.mod.kin.keeps fun b o e => (e0.bs b o e).1
  have lim : s.heap.NoLimit := e0.mod.nolimit.keeps fun b o e => (e0.bs b o e).1
  have kinds : ∀ y ∈ sg.ps.zip us, scope.names.lookup y.1 = some .local ∨ (scope.names.lookup y.1 = some .cell ∧ ((cellsFrom (s.heap.objs.size + 1) scope.names []).lookup y.1).isSome = true) := by
    rintro ⟨n, v⟩ hy
    rcases Sc.par n (List.of_mem_zip hy).1 with q | q
    · exact Or.inl q
    · exact Or.inr ⟨q, PySem.W.cellsFrom_some _ _ _ (Or.inl q)⟩
  refine codeAny_call_function hr.depth (KX _ _ lk) rfl Sc.co Sc.gen rfl (PySem.W.codeRec_of KX hcd) (hb _ _ _ _ ?_)
  refine wpAny_newFunctionEnv_cells Sc.kind kinds fun env he s1 x => ?_
  subst he
  refine ⟨lim.keeps x.toInCall.keep, codeAny_func ?_⟩
  let X := cxOf CX0 P w K mg base N qual scope f cdv A outer s H (fun _ _ _ => False)
  have I : Inv X [] (L2.start N vs) H s1 := inv_start Sc hr.hd e0 hl rv x
  have hr2 : Room k X.A := hr.deeper _
  have O : XOk ⟨N, scope, lv, fs⟩ F X := ⟨rfl, rfl, Sc.nd, rfl, hr2.units, hgd, G.blt, fun x d h => by
      obtain ⟨a1, u, v, a2, a3, a4⟩ := G.gl x d h
      exact ⟨a1, u, v, a2, a3, a4⟩, fun g sg' h => by
      obtain ⟨⟨fa, fd, a1, a2, a3, a4, a5⟩, b1, b2⟩ := cal g sg' h
      exact ⟨⟨fa, fd, k, a1, a2, a3, hr2, a4, a5⟩, b1, b2⟩⟩
  have OS : XOkS ⟨N, scope, lv, fs⟩ F X := ⟨O, fun _ => rfl, Sc.kind, passes_of (K := fun e s'' => CX0 outer H s (fun _ _ _ => False) e s'') rfl⟩
  have ht : PSs X body (tSt X.K lv ZF sg.rl (evSs F fuel r.body) (wrSs r.body) (asSs r.body)) := mSs_ok F fuel sg.rl r.body ⟨N, scope, lv, fs⟩ X body OS hm
  refine wpAny_mono (ht.run [] s1 (L2.start N vs) H _ I (body_ok hok hsp)) (fun fl s' hs => ?_) fun e s' hs => hs
  have fin : ∀ {σ' : Sg} {H' : Hp} {v : V} {u : Value}, Inv X [] σ' H' s' → RelV v u → Q v H' → CE outer P w H s Q u s' := by
    intro σ' H' v u J rv q
    exact ⟨v, H', J.os, J.bare, J.base, J.hok, rv, q⟩
  cases fl with
  | ret u =>
    obtain ⟨v, σ', H', J, ru, q⟩ := hs
    exact fin J ru q
  | next =>
    obtain ⟨σ', H', J, q⟩ := hs
    exact fin (v := V.non) (u := Value.none) J rfl q
  | brk =>
    obtain ⟨_, _, _, q⟩ := hs
    exact q.elim
  | cont =>
    obtain ⟨_, _, _, q⟩ := hs
    exact q.elim
/-- nothing is promised at the depth 0 -/
theorem fnG_zero {f : Addr} {fd : FuncData} {sg : Sig} {k : Nat} {ev : List D → Out (D × List D)} (h : ∀ ds, ev ds = .bad) : FnG P w K mg base k f fd sg ev := by
  refine ⟨fun A outer s H args us vs Q hr hgd e0 hb rv hsp => ?_⟩
  obtain ⟨ds, B, ass, Pl, ld, q⟩ := hsp
  rw [h] at q
  exact q.elim
/-- all defs of the table -/
theorem table_ok {fuel : Nat} {tbl : Str → Option Ent} {gl : Str → Option D} (G : GOk K mg gl)
    (hd : ∀ g e, tbl g = some e → ∃ (fa : Addr) (fd : FuncData) (name qual : Str) (params : Arguments) (body : List Stmt) (scope : Scope), mg g = some (.ref fa) ∧ PySem.W.keepIn K (.ref fa) = true ∧ Df K e.N e.sg fa name qual params body scope fd ∧
      mSs ⟨e.N, scope, e.lv, fun x => (tbl x).map (·.sg)⟩ e.sg.rl e.fd.body body = true ∧ fdOk e.N e.lv e.sg e.fd = true ∧ e.fd.lvs = (e.sg.muts.map fun j => e.sg.lvs.getD j 0) ∧
      (∀ (s : Shared) (us : List Value), us.length = e.sg.ps.length → BindsTo s fd ⟨us, []⟩ (e.sg.ps.zip us)) ∧
      (∀ p ∈ e.sg.kws, ∀ (s : Shared) (us : List Value), us.length = e.sg.ps.length → BindsTo s fd ⟨[], p.1.zip us⟩ (e.sg.ps.zip (p.2.map fun j => us.getD j .none)))) :
    ∀ (n : Nat) (g : Str) (e : Ent), tbl g = some e → Cal P w K mg base ⟨callF (fun x => (tbl x).map (·.fd)) gl fuel n, gl, fun f => match (tbl f).map (·.fd) with | some fd => fd.lvs | none => []⟩ n g e.sg
  | 0, g, e, h => by
    obtain ⟨fa, fd, name, qual, params, body, scope, a1, a2, a3, a4, a5, a6, a7, a8⟩ := hd g e h
    refine ⟨⟨fa, fd, a1, a2, fnG_zero fun ds => rfl, a7, a8⟩, ?_, ?_⟩
    · simp only [h, Option.map_some]
      exact a6
    · unfold fdOk at a5
      simp only [Bool.and_eq_true, decide_eq_true_eq] at a5
      exact a5.1.1.1.1.2
  | n + 1, g, e, h => by
    obtain ⟨fa, fd, name, qual, params, body, scope, a1, a2, a3, a4, a5, a6, a7, a8⟩ := hd g e h
    have ih := table_ok (fuel := fuel) G hd n
    have cal : ∀ (g' : Str) (sg' : Sig), (tbl g').map (·.sg) = some sg' → Cal P w K mg base ⟨callF (fun x => (tbl x).map (·.fd)) gl fuel n, gl, fun f => match (tbl f).map (·.fd) with | some fd => fd.lvs | none => []⟩ n g' sg' := by
      intro g' sg' h'
      obtain ⟨e', he', rfl⟩ := Option.map_eq_some_iff.mp h'
      exact ih g' e' he'
    have q := fnG_of (P := P) (w := w) (base := base) (k := n) (fuel := fuel) (F := ⟨callF (fun x => (tbl x).map (·.fd)) gl fuel n, gl, fun f => match (tbl f).map (·.fd) with | some fd => fd.lvs | none => []⟩) a3 G a4 a5 cal
    refine ⟨⟨fa, fd, a1, a2, ?_, a7, a8⟩, ?_, ?_⟩
    · have ec : callF (fun x => (tbl x).map (·.fd)) gl fuel (n + 1) g = runFd ⟨callF (fun x => (tbl x).map (·.fd)) gl fuel n, gl, fun f => match (tbl f).map (·.fd) with | some fd => fd.lvs | none => []⟩ fuel e.fd := by
        funext ds
        simp only [callF, h, Option.map_some] <;> rfl
      show FnG P w K mg base (n + 1) fa fd e.sg (callF (fun x => (tbl x).map (·.fd)) gl fuel (n + 1) g)
      rw [ec]
      exact q
    · simp only [h, Option.map_some]
      exact a6
    · unfold fdOk at a5
      simp only [Bool.and_eq_true, decide_eq_true_eq] at a5
      exact a5.1.1.1.1.2
end
end Pv
end
section
/-! P30: the law's head and end. -/
namespace Pv
open PySem PySem.Spec PyProof.Rows L2
/-- the law's own call, from the table -/
theorem law_callG {P : Program} {w : World} {K : Fg} {mg mb : Str → Option Value} {k : Nat} {fa a : Addr} {fd : FuncData} {x : Str} {sg : Sig} {ev : List D → Out (D × List D)} {s₁ : Shared} {vs : List Value} {ns : List Int}
    (KX : K.In s₁.heap) (hns : s₁.heap.Ns mainGlobals mg) (hb : s₁.heap.Ns builtinsNs mb) (hbb : ∀ x : Str, x ≠ "__name__" → mb x = bootBuiltins x) (hlim : s₁.heap.NoLimit) (hg : s₁.gens = #[])
    (ha : s₁.heap.get? a = some { cls := .type "list", data := .seq vs.toArray }) (hi : IntsAre vs ns) (hl : ns.length ≤ sizeLine) (hr : Room k callerA) (hps : sg.ps = [x])
    (F : ∀ base : Heap, K.In base → base.Ns mainGlobals mg → FnG P w K mg base k fa fd sg ev) (hbind : ∀ (s : Shared) (u : Value), BindsTo s fd ⟨[u], []⟩ [(x, u)])
    (hsp : ∀ H : Hp, SqL K H a (ns.map V.int) → spG K sg ev [.ref a] H (fun v _ => v = .bl true)) :
    codeAny (model P w) callerA (.call (.ref fa) ⟨[.ref a], []⟩) (fun r s' => r = .ok (.ret (.bool true)) ∧ OldK s₁.heap s'.heap ∧ s'.os = s₁.os ∧ AllBare s'.gens) s₁ := by
  have rv := vals_ints hi
  have lenV := hi.length
  have main : ∀ H : Hp, Only H → SqL K H a (ns.map V.int) → HOk P w H s₁.heap → (∀ b, H b ≠ none → b = a) → (H a ≠ none → K.lookup a = none) →
      codeAny (model P w) callerA (.call (.ref fa) ⟨[.ref a], []⟩) (fun r s' => r = .ok (.ret (.bool true)) ∧ OldK s₁.heap s'.heap ∧ s'.os = s₁.os ∧ AllBare s'.gens) s₁ := by
    intro H hO hS hok hA hK
    have old : ∀ {b : Addr} {o : Obj}, s₁.heap.get? b = some o → H b = none → (hidT s₁.heap H).get? b = some o := fun e n => hidT_get e n
    have noD : ∀ {b : Addr} {o : Obj} {es : Array DictEntry} {ep : Nat}, s₁.heap.get? b = some o → o.data = .dict es ep → H b = none := by
      intro b o es ep e d
      cases q : H b with
      | none => rfl
      | some u =>
        exfalso
        obtain rfl : b = a := hA b (by rw [q]; simp)
        rw [ha] at e
        cases e
        have d2 : Data.seq vs.toArray _ = Data.dict es ep := d
        cases d2
    have nsH : ∀ {b : Addr} {m : Str → Option Value}, s₁.heap.Ns b m → (hidT s₁.heap H).Ns b m := by
      rintro b m ⟨o, es, ep, e, d, r⟩
      exact ⟨o, es, ep, old e (noD e d), d, r⟩
    have KB : K.In (hidT s₁.heap H) := by
      intro b o e
      refine old (KX b o e) ?_
      cases q : H b with
      | none => rfl
      | some u =>
        exfalso
        obtain rfl : b = a := hA b (by rw [q]; simp)
        rw [hK (by rw [q]; simp)] at e
        cases e
    have lim : (hidT s₁.heap H).NoLimit := by
      obtain ⟨mc, z1, z2⟩ := hlim
      exact ⟨mc, nsH z1, z2⟩
    have M : Mod K mg (hidT s₁.heap H) := ⟨KB, nsH hns, ⟨mb, nsH hb, hbb⟩, lim⟩
    have e0 : Env0 P w K mg (hidT s₁.heap H) callerA [] s₁ H := by
      refine ⟨rfl, M, fun b o e => of_hidT e, Nat.le_of_eq (hidT_size _ _), trivial, fun b hb => ?_, hok, .of_eq hg⟩
      cases (show b ∈ ([] : List Addr) from hb)
    have bind : BindsTo s₁ fd ⟨[.ref a], []⟩ (sg.ps.zip [.ref a]) := by rw [hps]; exact hbind s₁ (.ref a)
    refine codeAny_mono ((F _ KB (nsH hns)).run callerA [] s₁ H ⟨[.ref a], []⟩ [.ref a] [.ref a] _ hr rfl e0 bind (.cons rfl .nil) (hsp H hS)) fun r s' h => ?_
    cases r with
    | error e => exact h.elim
    | ok fl =>
      cases fl with
      | next => exact h.elim
      | brk => exact h.elim
      | cont => exact h.elim
      | ret u =>
        obtain ⟨v, H', os, bare, un, hok', r', q⟩ := h
        obtain rfl : v = .bl true := q
        obtain rfl : u = Value.bool true := r'
        refine ⟨rfl, OldK.of_keep fun b o e => ?_, os, bare⟩
        cases q : H b with
        | none => exact un.keep b o e q (fun z => by cases (show b ∈ ([] : List Addr) from z)) (by simp)
        | some u =>
          rcases hO b with z | ⟨ob, xs, z⟩
          · rw [q] at z
            cases z
          · obtain ⟨e1, _⟩ := hok b _ z
            obtain ⟨e2, _⟩ := hok' b _ (un.frzs b ob _ z)
            rw [e] at e1
            cases e1
            exact e2
  cases hk : K.lookup a with
  | some o =>
    have e := KX a o hk
    rw [ha] at e
    cases e
    have sq : SqL K (fun _ => none) a (ns.map V.int) := .inr ⟨_, vs.toArray, _, hk, rfl, rfl, rfl, by rw [List.size_toArray, lenV]; exact hl, by simpa using rv⟩
    refine main (fun _ => none) (fun _ => .inl rfl) sq (fun b u z => ?_) (fun b z => absurd rfl z) fun z => absurd rfl z
    have z2 : (none : Option HO) = some u := z
    cases z2
  | none =>
    let Hs : Hp := fun b => if b = a then some (.frz { cls := .type "list", data := .seq vs.toArray } (.lst (ns.map V.int))) else none
    have Ha : Hs a = some (.frz { cls := .type "list", data := .seq vs.toArray } (.lst (ns.map V.int))) := if_pos rfl
    have Hn : ∀ b, b ≠ a → Hs b = none := fun b n => if_neg n
    refine main Hs (fun b => ?_) (.inl (.inr ⟨_, Ha⟩)) (fun b u z => ?_) (fun b z => ?_) fun _ => hk
    · by_cases c : b = a
      · subst c
        exact .inr ⟨_, _, Ha⟩
      · exact .inl (Hn b c)
    · by_cases c : b = a
      · subst c
        rw [Ha] at z
        cases z
        exact ⟨ha, by rw [List.length_map]; exact hl, vs, _, rv, ha⟩
      · rw [Hn b c] at z
        cases z
    · by_cases c : b = a
      · exact c
      · exact absurd (Hn b c) z
/-- the goal that the head leaves, from the evaluator's answer -/
theorem walk_ofG {l : PySem.W.OpenLaw} {n k : Nat} {q : Program} {loose : List Str} {XP : (Str → Option Value) → Heap → Prop} {YP : World → Heap → Prop} {d : DefRec} {K : Params → Fg} {x : Str} {sg : Sig} {ev : List D → Out (D × List D)}
    (hn : l.most = some n) (hn2 : n ≤ sizeLine) (hdf : d.params.defaults = []) (hr : Room k callerA) (hps : sg.ps = [x]) (hlv : sg.lvs = [0]) (hmu : sg.muts = []) (hrl : sg.rl = 0)
    (hY : ∀ (w : World) (h : Heap), YP w h → (K w.params).In h)
    (F : ∀ (w : World) (mg : Str → Option Value) (fa : Addr) (h : Heap), (K w.params).In h → h.Ns mainGlobals mg → mg d.name = some (.ref fa) →
      ∃ fd : FuncData, (∀ (s : Shared) (u : Value), BindsTo s fd ⟨[u], []⟩ [(x, u)]) ∧ ∀ base : Heap, (K w.params).In base → base.Ns mainGlobals mg → FnG l.prog w (K w.params) mg base k fa fd sg ev)
    (hev : ∀ ns : List Int, ns.length ≤ n → ev [.list (ns.map .int)] = .ok (.bool true, [])) :
    PySem.W.WalkO q loose XP YP l.row.toRowW d [] (fun f vs => PySem.call f vs) := by
  refine Att.attach_call hn hdf fun w s₀ s₁ mg mb fa o pm cd doc a vs ns G Y ho hd hcd hmg hobj hints hlen hg => ?_
  have KX := hY w _ Y
  obtain ⟨fd, hb, hF⟩ := F w mg fa _ KX G.T.g hmg
  refine law_callG KX G.T.g G.T.b G.T.builtins G.T.nolimit hg hobj hints (Nat.le_trans hlen hn2) hr hps hF hb fun H hS => ?_
  have rl : ∀ ns : List Int, RpL (K w.params) H (fun _ => False) (ns.map .int) (ns.map V.int) := by
    intro ns
    induction ns with
    | nil => simp [RpL]
    | cons i ns ih =>
      simp only [List.map_cons, RpL]
      exact ⟨_, _, rfl, by simp only [Rp], ih⟩
  have rp : Rp (K w.params) H (fun _ => False) (.list (ns.map .int)) (.ref a) := by
    simp only [Rp]
    refine ⟨a, ns.map V.int, rfl, ?_, rl ns⟩
    exact hS.elim (fun h => .inl ⟨h, fun z => z⟩) .inr
  refine ⟨[.list (ns.map .int)], fun _ => False, [[]], ?_, fun _ z => z.elim, ?_⟩
  · rw [hlv]
    exact ⟨_, _, _, _, [], _, rfl, rfl, rfl, Ow.zero.mpr ⟨rfl, rp⟩, List.nodup_nil, by simp, by simp, rfl, rfl, rfl⟩
  · rw [hev ns hlen]
    intro H' v B' as ass' R
    have := R.res
    rw [hrl] at this
    have h2 := (Ow.zero.mp this).2
    simpa only [Rp] using h2
end Pv
end
section
/-! P43: a def of the table, one value for all heaps. -/
namespace Pv
open PySem PySem.Spec PyProof.Rows L2
theorem law_of {P : Program} {w : World} {K : Fg} {mg : Str → Option Value} {fuel : Nat} {tbl : Str → Option Ent} {gl : Str → Option D} (G : GOk K mg gl)
    (hd : ∀ g e, tbl g = some e → ∃ (fa : Addr) (fd : FuncData) (name qual : Str) (params : Arguments) (body : List Stmt) (scope : Scope), mg g = some (.ref fa) ∧ PySem.W.keepIn K (.ref fa) = true ∧ Df K e.N e.sg fa name qual params body scope fd ∧
      mSs ⟨e.N, scope, e.lv, fun x => (tbl x).map (·.sg)⟩ e.sg.rl e.fd.body body = true ∧ fdOk e.N e.lv e.sg e.fd = true ∧ e.fd.lvs = (e.sg.muts.map fun j => e.sg.lvs.getD j 0) ∧
      (∀ (s : Shared) (us : List Value), us.length = e.sg.ps.length → BindsTo s fd ⟨us, []⟩ (e.sg.ps.zip us)) ∧
      (∀ p ∈ e.sg.kws, ∀ (s : Shared) (us : List Value), us.length = e.sg.ps.length → BindsTo s fd ⟨[], p.1.zip us⟩ (e.sg.ps.zip (p.2.map fun j => us.getD j .none))))
    {n : Nat} {g : Str} {e : Ent} (h : tbl g = some e) :
    ∃ (fa : Addr) (fd : FuncData), mg g = some (.ref fa) ∧ (∀ (s : Shared) (us : List Value), us.length = e.sg.ps.length → BindsTo s fd ⟨us, []⟩ (e.sg.ps.zip us)) ∧ ∀ base : Heap, FnG P w K mg base (n + 1) fa fd e.sg (evOf tbl gl fuel (n + 1) g) := by
  obtain ⟨fa, fd, name, qual, params, body, scope, a1, a2, a3, a4, a5, a6, a7, a8⟩ := hd g e h
  refine ⟨fa, fd, a1, a7, fun base => ?_⟩
  have ih := table_ok (P := P) (w := w) (base := base) (fuel := fuel) G hd n
  have cal : ∀ (g' : Str) (sg' : Sig), (tbl g').map (·.sg) = some sg' → Cal P w K mg base ⟨callF (fun x => (tbl x).map (·.fd)) gl fuel n, gl, fun f => match (tbl f).map (·.fd) with | some fd => fd.lvs | none => []⟩ n g' sg' := by
    intro g' sg' h'
    obtain ⟨e', he', rfl⟩ := Option.map_eq_some_iff.mp h'
    exact ih g' e' he'
  have q := fnG_of (P := P) (w := w) (base := base) (k := n) (fuel := fuel) (F := ⟨callF (fun x => (tbl x).map (·.fd)) gl fuel n, gl, fun f => match (tbl f).map (·.fd) with | some fd => fd.lvs | none => []⟩) a3 G a4 a5 cal
  have ec : callF (fun x => (tbl x).map (·.fd)) gl fuel (n + 1) g = runFd ⟨callF (fun x => (tbl x).map (·.fd)) gl fuel n, gl, fun f => match (tbl f).map (·.fd) with | some fd => fd.lvs | none => []⟩ fuel e.fd := by
    funext ds
    simp only [callF, h, Option.map_some] <;> rfl
  show FnG P w K mg base (n + 1) fa fd e.sg (callF (fun x => (tbl x).map (·.fd)) gl fuel (n + 1) g)
  rw [ec]
  exact q
end Pv
end
section
namespace Lw
open PySem PySem.Spec PyProof.Rows L2 Pv
def topS (i : Nat) : Stmt := PySem.Challenge.pw_mergewinners_k02_last_writes.main.body.getD i (.Pass ⟨0, 0, 0, 0⟩)
abbrev s_is_key : Stmt := topS 9
abbrev s_is_transaction : Stmt := topS 10
abbrev s_last_in : Stmt := topS 11
abbrev s_is_log : Stmt := topS 12
abbrev s_last_writes : Stmt := topS 13
abbrev s_law_source : Stmt := topS 15
abbrev s_law_pick : Stmt := topS 16
abbrev s_law_shuffled : Stmt := topS 17
abbrev s_law_names : Stmt := topS 18
abbrev s_law_written : Stmt := topS 19
abbrev s_law_logs : Stmt := topS 20
abbrev s_law_same : Stmt := topS 21
abbrev s_law_last : Stmt := topS 22
abbrev s_law_right : Stmt := topS 23
abbrev s_law_changes_right : Stmt := topS 24
abbrev s_law : Stmt := topS 25
theorem sc_is_key : FnScope e_is_key.N e_is_key.sg.ps (defScope s_is_key) := ⟨rfl, rfl, rfl, by decide +kernel, rfl, by decide +kernel, by decide +kernel⟩
theorem m_is_key : mSs ⟨e_is_key.N, defScope s_is_key, e_is_key.lv, fun x => (tbl x).map (·.sg)⟩ e_is_key.sg.rl e_is_key.fd.body (defBody s_is_key) = true := by decide +kernel
theorem k_is_key : fdOk e_is_key.N e_is_key.lv e_is_key.sg e_is_key.fd = true := by decide +kernel
theorem sc_is_transaction : FnScope e_is_transaction.N e_is_transaction.sg.ps (defScope s_is_transaction) := ⟨rfl, rfl, rfl, by decide +kernel, rfl, by decide +kernel, by decide +kernel⟩
theorem m_is_transaction : mSs ⟨e_is_transaction.N, defScope s_is_transaction, e_is_transaction.lv, fun x => (tbl x).map (·.sg)⟩ e_is_transaction.sg.rl e_is_transaction.fd.body (defBody s_is_transaction) = true := by decide +kernel
theorem k_is_transaction : fdOk e_is_transaction.N e_is_transaction.lv e_is_transaction.sg e_is_transaction.fd = true := by decide +kernel
theorem sc_last_in : FnScope e_last_in.N e_last_in.sg.ps (defScope s_last_in) := ⟨rfl, rfl, rfl, by decide +kernel, rfl, by decide +kernel, by decide +kernel⟩
theorem m_last_in : mSs ⟨e_last_in.N, defScope s_last_in, e_last_in.lv, fun x => (tbl x).map (·.sg)⟩ e_last_in.sg.rl e_last_in.fd.body (defBody s_last_in) = true := by decide +kernel
theorem k_last_in : fdOk e_last_in.N e_last_in.lv e_last_in.sg e_last_in.fd = true := by decide +kernel
theorem sc_is_log : FnScope e_is_log.N e_is_log.sg.ps (defScope s_is_log) := ⟨rfl, rfl, rfl, by decide +kernel, rfl, by decide +kernel, by decide +kernel⟩
theorem m_is_log : mSs ⟨e_is_log.N, defScope s_is_log, e_is_log.lv, fun x => (tbl x).map (·.sg)⟩ e_is_log.sg.rl e_is_log.fd.body (defBody s_is_log) = true := by decide +kernel
theorem k_is_log : fdOk e_is_log.N e_is_log.lv e_is_log.sg e_is_log.fd = true := by decide +kernel
theorem sc_last_writes : FnScope e_last_writes.N e_last_writes.sg.ps (defScope s_last_writes) := ⟨rfl, rfl, rfl, by decide +kernel, rfl, by decide +kernel, by decide +kernel⟩
theorem m_last_writes : mSs ⟨e_last_writes.N, defScope s_last_writes, e_last_writes.lv, fun x => (tbl x).map (·.sg)⟩ e_last_writes.sg.rl e_last_writes.fd.body (defBody s_last_writes) = true := by decide +kernel
theorem k_last_writes : fdOk e_last_writes.N e_last_writes.lv e_last_writes.sg e_last_writes.fd = true := by decide +kernel
theorem sc_law_source : FnScope e_law_source.N e_law_source.sg.ps (defScope s_law_source) := ⟨rfl, rfl, rfl, by decide +kernel, rfl, by decide +kernel, by decide +kernel⟩
theorem m_law_source : mSs ⟨e_law_source.N, defScope s_law_source, e_law_source.lv, fun x => (tbl x).map (·.sg)⟩ e_law_source.sg.rl e_law_source.fd.body (defBody s_law_source) = true := by decide +kernel
theorem k_law_source : fdOk e_law_source.N e_law_source.lv e_law_source.sg e_law_source.fd = true := by decide +kernel
theorem sc_law_pick : FnScope e_law_pick.N e_law_pick.sg.ps (defScope s_law_pick) := ⟨rfl, rfl, rfl, by decide +kernel, rfl, by decide +kernel, by decide +kernel⟩
theorem m_law_pick : mSs ⟨e_law_pick.N, defScope s_law_pick, e_law_pick.lv, fun x => (tbl x).map (·.sg)⟩ e_law_pick.sg.rl e_law_pick.fd.body (defBody s_law_pick) = true := by decide +kernel
theorem k_law_pick : fdOk e_law_pick.N e_law_pick.lv e_law_pick.sg e_law_pick.fd = true := by decide +kernel
theorem sc_law_shuffled : FnScope e_law_shuffled.N e_law_shuffled.sg.ps (defScope s_law_shuffled) := ⟨rfl, rfl, rfl, by decide +kernel, rfl, by decide +kernel, by decide +kernel⟩
theorem m_law_shuffled : mSs ⟨e_law_shuffled.N, defScope s_law_shuffled, e_law_shuffled.lv, fun x => (tbl x).map (·.sg)⟩ e_law_shuffled.sg.rl e_law_shuffled.fd.body (defBody s_law_shuffled) = true := by decide +kernel
theorem k_law_shuffled : fdOk e_law_shuffled.N e_law_shuffled.lv e_law_shuffled.sg e_law_shuffled.fd = true := by decide +kernel
theorem sc_law_names : FnScope e_law_names.N e_law_names.sg.ps (defScope s_law_names) := ⟨rfl, rfl, rfl, by decide +kernel, rfl, by decide +kernel, by decide +kernel⟩
theorem m_law_names : mSs ⟨e_law_names.N, defScope s_law_names, e_law_names.lv, fun x => (tbl x).map (·.sg)⟩ e_law_names.sg.rl e_law_names.fd.body (defBody s_law_names) = true := by decide +kernel
theorem k_law_names : fdOk e_law_names.N e_law_names.lv e_law_names.sg e_law_names.fd = true := by decide +kernel
theorem sc_law_written : FnScope e_law_written.N e_law_written.sg.ps (defScope s_law_written) := ⟨rfl, rfl, rfl, by decide +kernel, rfl, by decide +kernel, by decide +kernel⟩
theorem m_law_written : mSs ⟨e_law_written.N, defScope s_law_written, e_law_written.lv, fun x => (tbl x).map (·.sg)⟩ e_law_written.sg.rl e_law_written.fd.body (defBody s_law_written) = true := by decide +kernel
theorem k_law_written : fdOk e_law_written.N e_law_written.lv e_law_written.sg e_law_written.fd = true := by decide +kernel
theorem sc_law_logs : FnScope e_law_logs.N e_law_logs.sg.ps (defScope s_law_logs) := ⟨rfl, rfl, rfl, by decide +kernel, rfl, by decide +kernel, by decide +kernel⟩
theorem m_law_logs : mSs ⟨e_law_logs.N, defScope s_law_logs, e_law_logs.lv, fun x => (tbl x).map (·.sg)⟩ e_law_logs.sg.rl e_law_logs.fd.body (defBody s_law_logs) = true := by decide +kernel
theorem k_law_logs : fdOk e_law_logs.N e_law_logs.lv e_law_logs.sg e_law_logs.fd = true := by decide +kernel
theorem sc_law_same : FnScope e_law_same.N e_law_same.sg.ps (defScope s_law_same) := ⟨rfl, rfl, rfl, by decide +kernel, rfl, by decide +kernel, by decide +kernel⟩
theorem m_law_same : mSs ⟨e_law_same.N, defScope s_law_same, e_law_same.lv, fun x => (tbl x).map (·.sg)⟩ e_law_same.sg.rl e_law_same.fd.body (defBody s_law_same) = true := by decide +kernel
theorem k_law_same : fdOk e_law_same.N e_law_same.lv e_law_same.sg e_law_same.fd = true := by decide +kernel
theorem sc_law_last : FnScope e_law_last.N e_law_last.sg.ps (defScope s_law_last) := ⟨rfl, rfl, rfl, by decide +kernel, rfl, by decide +kernel, by decide +kernel⟩
theorem m_law_last : mSs ⟨e_law_last.N, defScope s_law_last, e_law_last.lv, fun x => (tbl x).map (·.sg)⟩ e_law_last.sg.rl e_law_last.fd.body (defBody s_law_last) = true := by decide +kernel
theorem k_law_last : fdOk e_law_last.N e_law_last.lv e_law_last.sg e_law_last.fd = true := by decide +kernel
theorem sc_law_right : FnScope e_law_right.N e_law_right.sg.ps (defScope s_law_right) := ⟨rfl, rfl, rfl, by decide +kernel, rfl, by decide +kernel, by decide +kernel⟩
theorem m_law_right : mSs ⟨e_law_right.N, defScope s_law_right, e_law_right.lv, fun x => (tbl x).map (·.sg)⟩ e_law_right.sg.rl e_law_right.fd.body (defBody s_law_right) = true := by decide +kernel
theorem k_law_right : fdOk e_law_right.N e_law_right.lv e_law_right.sg e_law_right.fd = true := by decide +kernel
theorem sc_law_changes_right : FnScope e_law_changes_right.N e_law_changes_right.sg.ps (defScope s_law_changes_right) := ⟨rfl, rfl, rfl, by decide +kernel, rfl, by decide +kernel, by decide +kernel⟩
theorem m_law_changes_right : mSs ⟨e_law_changes_right.N, defScope s_law_changes_right, e_law_changes_right.lv, fun x => (tbl x).map (·.sg)⟩ e_law_changes_right.sg.rl e_law_changes_right.fd.body (defBody s_law_changes_right) = true := by decide +kernel
theorem k_law_changes_right : fdOk e_law_changes_right.N e_law_changes_right.lv e_law_changes_right.sg e_law_changes_right.fd = true := by decide +kernel
theorem sc_law : FnScope e_law.N e_law.sg.ps (defScope s_law) := ⟨rfl, rfl, rfl, by decide +kernel, rfl, by decide +kernel, by decide +kernel⟩
theorem m_law : mSs ⟨e_law.N, defScope s_law, e_law.lv, fun x => (tbl x).map (·.sg)⟩ e_law.sg.rl e_law.fd.body (defBody s_law) = true := by decide +kernel
theorem k_law : fdOk e_law.N e_law.lv e_law.sg e_law.fd = true := by decide +kernel
set_option maxHeartbeats 0 in
theorem all_mk {P : Program} {w : World} {K : Fg} {h : Heap} {mg : Str → Option Value} (X : K.In h) (G : h.Ns mainGlobals mg)
    {f0 f1 f2 f3 f4 f5 f6 f7 f8 f9 f10 f11 f12 f13 f14 f15 : Addr} {od0 an0 od1 an1 od2 an2 od3 an3 od4 an4 od5 an5 od6 an6 od7 an7 od8 an8 od9 an9 od10 an10 od11 an11 od12 an12 od13 an13 od14 an14 od15 an15 : Option Addr} {sl0 sl1 sl2 sl3 sl4 sl5 sl6 sl7 sl8 sl9 sl10 sl11 sl12 sl13 sl14 sl15 : Array (Option Value)} {oc0 kv0 dc0 pm0 cd0 ct0 oc1 kv1 dc1 pm1 cd1 ct1 oc2 kv2 dc2 pm2 cd2 ct2 oc3 kv3 dc3 pm3 cd3 ct3 oc4 kv4 dc4 pm4 cd4 ct4 oc5 kv5 dc5 pm5 cd5 ct5 oc6 kv6 dc6 pm6 cd6 ct6 oc7 kv7 dc7 pm7 cd7 ct7 oc8 kv8 dc8 pm8 cd8 ct8 oc9 kv9 dc9 pm9 cd9 ct9 oc10 kv10 dc10 pm10 cd10 ct10 oc11 kv11 dc11 pm11 cd11 ct11 oc12 kv12 dc12 pm12 cd12 ct12 oc13 kv13 dc13 pm13 cd13 ct13 oc14 kv14 dc14 pm14 cd14 ct14 oc15 kv15 dc15 pm15 cd15 ct15 : Value}{t0 t1 t2 t3 t4 : Tok}
    (a0 : PySem.W.nsIn K mainGlobals "is_key" = some (some (.ref f0))) (l0 : K.lookup f0 = some ⟨oc0, od0, .func (PySem.W.fnOf "is_key" "is_key" (defArgs s_is_key) (defBody s_is_key) (defScope s_is_key) .none kv0 dc0 pm0 an0 cd0 ct0), sl0⟩) (c0 : PySem.W.codeIn K cd0 "is_key" = true) (h0 : PySem.W.keepIn K (.ref f0) = true)
    (a1 : PySem.W.nsIn K mainGlobals "is_transaction" = some (some (.ref f1))) (l1 : K.lookup f1 = some ⟨oc1, od1, .func (PySem.W.fnOf "is_transaction" "is_transaction" (defArgs s_is_transaction) (defBody s_is_transaction) (defScope s_is_transaction) .none kv1 dc1 pm1 an1 cd1 ct1), sl1⟩) (c1 : PySem.W.codeIn K cd1 "is_transaction" = true) (h1 : PySem.W.keepIn K (.ref f1) = true)
    (a2 : PySem.W.nsIn K mainGlobals "last_in" = some (some (.ref f2))) (l2 : K.lookup f2 = some ⟨oc2, od2, .func (PySem.W.fnOf "last_in" "last_in" (defArgs s_last_in) (defBody s_last_in) (defScope s_last_in) .none kv2 dc2 pm2 an2 cd2 ct2), sl2⟩) (c2 : PySem.W.codeIn K cd2 "last_in" = true) (h2 : PySem.W.keepIn K (.ref f2) = true)
    (a3 : PySem.W.nsIn K mainGlobals "is_log" = some (some (.ref f3))) (l3 : K.lookup f3 = some ⟨oc3, od3, .func (PySem.W.fnOf "is_log" "is_log" (defArgs s_is_log) (defBody s_is_log) (defScope s_is_log) .none kv3 dc3 pm3 an3 cd3 ct3), sl3⟩) (c3 : PySem.W.codeIn K cd3 "is_log" = true) (h3 : PySem.W.keepIn K (.ref f3) = true)
    (a4 : PySem.W.nsIn K mainGlobals "last_writes" = some (some (.ref f4))) (l4 : K.lookup f4 = some ⟨oc4, od4, .func (PySem.W.fnOf "last_writes" "last_writes" (defArgs s_last_writes) (defBody s_last_writes) (defScope s_last_writes) .none kv4 dc4 pm4 an4 cd4 ct4), sl4⟩) (c4 : PySem.W.codeIn K cd4 "last_writes" = true) (h4 : PySem.W.keepIn K (.ref f4) = true)
    (a5 : PySem.W.nsIn K mainGlobals "_law_source" = some (some (.ref f5))) (l5 : K.lookup f5 = some ⟨oc5, od5, .func (PySem.W.fnOf "_law_source" "_law_source" (defArgs s_law_source) (defBody s_law_source) (defScope s_law_source) .none kv5 dc5 pm5 an5 cd5 ct5), sl5⟩) (c5 : PySem.W.codeIn K cd5 "_law_source" = true) (h5 : PySem.W.keepIn K (.ref f5) = true)
    (a6 : PySem.W.nsIn K mainGlobals "_law_pick" = some (some (.ref f6))) (l6 : K.lookup f6 = some ⟨oc6, od6, .func (PySem.W.fnOf "_law_pick" "_law_pick" (defArgs s_law_pick) (defBody s_law_pick) (defScope s_law_pick) .none kv6 dc6 pm6 an6 cd6 ct6), sl6⟩) (c6 : PySem.W.codeIn K cd6 "_law_pick" = true) (h6 : PySem.W.keepIn K (.ref f6) = true)
    (a7 : PySem.W.nsIn K mainGlobals "_law_shuffled" = some (some (.ref f7))) (l7 : K.lookup f7 = some ⟨oc7, od7, .func (PySem.W.fnOf "_law_shuffled" "_law_shuffled" (defArgs s_law_shuffled) (defBody s_law_shuffled) (defScope s_law_shuffled) .none kv7 dc7 pm7 an7 cd7 ct7), sl7⟩) (c7 : PySem.W.codeIn K cd7 "_law_shuffled" = true) (h7 : PySem.W.keepIn K (.ref f7) = true)
    (a8 : PySem.W.nsIn K mainGlobals "_law_names" = some (some (.ref f8))) (l8 : K.lookup f8 = some ⟨oc8, od8, .func (PySem.W.fnOf "_law_names" "_law_names" (defArgs s_law_names) (defBody s_law_names) (defScope s_law_names) .none kv8 dc8 pm8 an8 cd8 ct8), sl8⟩) (c8 : PySem.W.codeIn K cd8 "_law_names" = true) (h8 : PySem.W.keepIn K (.ref f8) = true)
    (a9 : PySem.W.nsIn K mainGlobals "_law_written" = some (some (.ref f9))) (l9 : K.lookup f9 = some ⟨oc9, od9, .func (PySem.W.fnOf "_law_written" "_law_written" (defArgs s_law_written) (defBody s_law_written) (defScope s_law_written) .none kv9 dc9 pm9 an9 cd9 ct9), sl9⟩) (c9 : PySem.W.codeIn K cd9 "_law_written" = true) (h9 : PySem.W.keepIn K (.ref f9) = true)
    (a10 : PySem.W.nsIn K mainGlobals "_law_logs" = some (some (.ref f10))) (l10 : K.lookup f10 = some ⟨oc10, od10, .func (PySem.W.fnOf "_law_logs" "_law_logs" (defArgs s_law_logs) (defBody s_law_logs) (defScope s_law_logs) .none kv10 dc10 pm10 an10 cd10 ct10), sl10⟩) (c10 : PySem.W.codeIn K cd10 "_law_logs" = true) (h10 : PySem.W.keepIn K (.ref f10) = true)
    (a11 : PySem.W.nsIn K mainGlobals "_law_same" = some (some (.ref f11))) (l11 : K.lookup f11 = some ⟨oc11, od11, .func (PySem.W.fnOf "_law_same" "_law_same" (defArgs s_law_same) (defBody s_law_same) (defScope s_law_same) .none kv11 dc11 pm11 an11 cd11 ct11), sl11⟩) (c11 : PySem.W.codeIn K cd11 "_law_same" = true) (h11 : PySem.W.keepIn K (.ref f11) = true)
    (a12 : PySem.W.nsIn K mainGlobals "_law_last" = some (some (.ref f12))) (l12 : K.lookup f12 = some ⟨oc12, od12, .func (PySem.W.fnOf "_law_last" "_law_last" (defArgs s_law_last) (defBody s_law_last) (defScope s_law_last) .none kv12 dc12 pm12 an12 cd12 ct12), sl12⟩) (c12 : PySem.W.codeIn K cd12 "_law_last" = true) (h12 : PySem.W.keepIn K (.ref f12) = true)
    (a13 : PySem.W.nsIn K mainGlobals "_law_right" = some (some (.ref f13))) (l13 : K.lookup f13 = some ⟨oc13, od13, .func (PySem.W.fnOf "_law_right" "_law_right" (defArgs s_law_right) (defBody s_law_right) (defScope s_law_right) .none kv13 dc13 pm13 an13 cd13 ct13), sl13⟩) (c13 : PySem.W.codeIn K cd13 "_law_right" = true) (h13 : PySem.W.keepIn K (.ref f13) = true)
    (a14 : PySem.W.nsIn K mainGlobals "_law_changes_right" = some (some (.ref f14))) (l14 : K.lookup f14 = some ⟨oc14, od14, .func (PySem.W.fnOf "_law_changes_right" "_law_changes_right" (defArgs s_law_changes_right) (defBody s_law_changes_right) (defScope s_law_changes_right) .none kv14 dc14 pm14 an14 cd14 ct14), sl14⟩) (c14 : PySem.W.codeIn K cd14 "_law_changes_right" = true) (h14 : PySem.W.keepIn K (.ref f14) = true)
    (a15 : PySem.W.nsIn K mainGlobals "law" = some (some (.ref f15))) (l15 : K.lookup f15 = some ⟨oc15, od15, .func (PySem.W.fnOf "law" "law" (defArgs s_law) (defBody s_law) (defScope s_law) .none kv15 dc15 pm15 an15 cd15 ct15), sl15⟩) (c15 : PySem.W.codeIn K cd15 "law" = true) (h15 : PySem.W.keepIn K (.ref f15) = true)
    (u0 : PySem.W.nsIn K mainGlobals "LETTERS" = some (some (.str "abcdefghijklmnopqrstuvwxyz" t0)))
    (u1 : PySem.W.nsIn K mainGlobals "MOST_LETTERS" = some (some (.int 8 t1)))
    (u2 : PySem.W.nsIn K mainGlobals "MOST_KEYS" = some (some (.int 60 t2)))
    (u3 : PySem.W.nsIn K mainGlobals "MOST_TRANSACTIONS" = some (some (.int 60 t3)))
    (u4 : PySem.W.nsIn K mainGlobals "MOST_IN_TRANSACTION" = some (some (.int 10 t4)))
    (z0 : PySem.W.nsIn K mainGlobals "len" = some none)
    (z1 : PySem.W.nsIn K mainGlobals "all" = some none)
    (z2 : PySem.W.nsIn K mainGlobals "any" = some none)
    (z3 : PySem.W.nsIn K mainGlobals "sum" = some none)
    (z4 : PySem.W.nsIn K mainGlobals "min" = some none)
    (z5 : PySem.W.nsIn K mainGlobals "max" = some none)
    (z6 : PySem.W.nsIn K mainGlobals "sorted" = some none)
    (z7 : PySem.W.nsIn K mainGlobals "abs" = some none)
    (z8 : PySem.W.nsIn K mainGlobals "int" = some none)
    (z9 : PySem.W.nsIn K mainGlobals "str" = some none)
    (z10 : PySem.W.nsIn K mainGlobals "repr" = some none)
    (z11 : PySem.W.nsIn K mainGlobals "list" = some none)
    (z12 : PySem.W.nsIn K mainGlobals "tuple" = some none)
    (z13 : PySem.W.nsIn K mainGlobals "dict" = some none)
    (z14 : PySem.W.nsIn K mainGlobals "bool" = some none)
    (z15 : PySem.W.nsIn K mainGlobals "range" = some none)
    (z16 : PySem.W.nsIn K mainGlobals "enumerate" = some none)
    (z17 : PySem.W.nsIn K mainGlobals "zip" = some none)
    (z18 : PySem.W.nsIn K mainGlobals "isinstance" = some none)
    (z19 : PySem.W.nsIn K mainGlobals "set" = some none)
    (z20 : PySem.W.nsIn K mainGlobals "reversed" = some none) :
    GOk K mg gl ∧ ∀ g e, tbl g = some e → ∃ (fa : Addr) (fd : FuncData) (name qual : Str) (params : Arguments) (body : List Stmt) (scope : Scope), mg g = some (.ref fa) ∧ PySem.W.keepIn K (.ref fa) = true ∧ Df K e.N e.sg fa name qual params body scope fd ∧
      mSs ⟨e.N, scope, e.lv, fun x => (tbl x).map (·.sg)⟩ e.sg.rl e.fd.body body = true ∧ fdOk e.N e.lv e.sg e.fd = true ∧ e.fd.lvs = (e.sg.muts.map fun j => e.sg.lvs.getD j 0) ∧
      (∀ (s : Shared) (us : List Value), us.length = e.sg.ps.length → BindsTo s fd ⟨us, []⟩ (e.sg.ps.zip us)) ∧
      (∀ p ∈ e.sg.kws, ∀ (s : Shared) (us : List Value), us.length = e.sg.ps.length → BindsTo s fd ⟨[], p.1.zip us⟩ (e.sg.ps.zip (p.2.map fun j => us.getD j .none))) := by
  refine ⟨⟨?_, fun x d hd => ?_⟩, fun g e he => ?_⟩
  · unfold bltNames
    refine List.forall_mem_cons.2 ⟨PySem.W.mg_none_of X G z0, ?_⟩
    refine List.forall_mem_cons.2 ⟨PySem.W.mg_none_of X G z1, ?_⟩
    refine List.forall_mem_cons.2 ⟨PySem.W.mg_none_of X G z2, ?_⟩
    refine List.forall_mem_cons.2 ⟨PySem.W.mg_none_of X G z3, ?_⟩
    refine List.forall_mem_cons.2 ⟨PySem.W.mg_none_of X G z4, ?_⟩
    refine List.forall_mem_cons.2 ⟨PySem.W.mg_none_of X G z5, ?_⟩
    refine List.forall_mem_cons.2 ⟨PySem.W.mg_none_of X G z6, ?_⟩
    refine List.forall_mem_cons.2 ⟨PySem.W.mg_none_of X G z7, ?_⟩
    refine List.forall_mem_cons.2 ⟨PySem.W.mg_none_of X G z8, ?_⟩
    refine List.forall_mem_cons.2 ⟨PySem.W.mg_none_of X G z9, ?_⟩
    refine List.forall_mem_cons.2 ⟨PySem.W.mg_none_of X G z10, ?_⟩
    refine List.forall_mem_cons.2 ⟨PySem.W.mg_none_of X G z11, ?_⟩
    refine List.forall_mem_cons.2 ⟨PySem.W.mg_none_of X G z12, ?_⟩
    refine List.forall_mem_cons.2 ⟨PySem.W.mg_none_of X G z13, ?_⟩
    refine List.forall_mem_cons.2 ⟨PySem.W.mg_none_of X G z14, ?_⟩
    refine List.forall_mem_cons.2 ⟨PySem.W.mg_none_of X G z15, ?_⟩
    refine List.forall_mem_cons.2 ⟨PySem.W.mg_none_of X G z16, ?_⟩
    refine List.forall_mem_cons.2 ⟨PySem.W.mg_none_of X G z17, ?_⟩
    refine List.forall_mem_cons.2 ⟨PySem.W.mg_none_of X G z18, ?_⟩
    refine List.forall_mem_cons.2 ⟨PySem.W.mg_none_of X G z19, ?_⟩
    refine List.forall_mem_cons.2 ⟨PySem.W.mg_none_of X G z20, ?_⟩
    exact fun _ z => nomatch z
  · unfold gl at hd
    split at hd
    · rename_i hx
      subst hx
      cases hd
      exact ⟨rfl, _, .str "abcdefghijklmnopqrstuvwxyz", PySem.W.mg_of X G u0, ⟨_, rfl⟩, fun _ _ => by simp only [Rp]⟩
    split at hd
    · rename_i hx
      subst hx
      cases hd
      exact ⟨rfl, _, .int 8, PySem.W.mg_of X G u1, ⟨_, rfl⟩, fun _ _ => by simp only [Rp]⟩
    split at hd
    · rename_i hx
      subst hx
      cases hd
      exact ⟨rfl, _, .int 60, PySem.W.mg_of X G u2, ⟨_, rfl⟩, fun _ _ => by simp only [Rp]⟩
    split at hd
    · rename_i hx
      subst hx
      cases hd
      exact ⟨rfl, _, .int 60, PySem.W.mg_of X G u3, ⟨_, rfl⟩, fun _ _ => by simp only [Rp]⟩
    split at hd
    · rename_i hx
      subst hx
      cases hd
      exact ⟨rfl, _, .int 10, PySem.W.mg_of X G u4, ⟨_, rfl⟩, fun _ _ => by simp only [Rp]⟩
    cases hd
  · unfold tbl at he
    by_cases hx : g = "is_key"
    · rw [if_pos hx] at he
      subst hx
      cases he
      exact ⟨f0, _, _, _, _, _, _, PySem.W.mg_of X G a0, h0, ⟨⟨_, _, _, _, _, _, _, _, _, _, rfl, l0, c0⟩, sc_is_key⟩, m_is_key, k_is_key, rfl, fun s us hl => (match us, hl with | [_], _ => .of_eq rfl), fun p hp => by cases hp⟩
    rw [if_neg hx] at he
    by_cases hx : g = "is_transaction"
    · rw [if_pos hx] at he
      subst hx
      cases he
      exact ⟨f1, _, _, _, _, _, _, PySem.W.mg_of X G a1, h1, ⟨⟨_, _, _, _, _, _, _, _, _, _, rfl, l1, c1⟩, sc_is_transaction⟩, m_is_transaction, k_is_transaction, rfl, fun s us hl => (match us, hl with | [_], _ => .of_eq rfl), fun p hp => by cases hp⟩
    rw [if_neg hx] at he
    by_cases hx : g = "last_in"
    · rw [if_pos hx] at he
      subst hx
      cases he
      exact ⟨f2, _, _, _, _, _, _, PySem.W.mg_of X G a2, h2, ⟨⟨_, _, _, _, _, _, _, _, _, _, rfl, l2, c2⟩, sc_last_in⟩, m_last_in, k_last_in, rfl, fun s us hl => (match us, hl with | [_], _ => .of_eq rfl), fun p hp => by cases hp⟩
    rw [if_neg hx] at he
    by_cases hx : g = "is_log"
    · rw [if_pos hx] at he
      subst hx
      cases he
      exact ⟨f3, _, _, _, _, _, _, PySem.W.mg_of X G a3, h3, ⟨⟨_, _, _, _, _, _, _, _, _, _, rfl, l3, c3⟩, sc_is_log⟩, m_is_log, k_is_log, rfl, fun s us hl => (match us, hl with | [_], _ => .of_eq rfl), fun p hp => by cases hp⟩
    rw [if_neg hx] at he
    by_cases hx : g = "last_writes"
    · rw [if_pos hx] at he
      subst hx
      cases he
      exact ⟨f4, _, _, _, _, _, _, PySem.W.mg_of X G a4, h4, ⟨⟨_, _, _, _, _, _, _, _, _, _, rfl, l4, c4⟩, sc_last_writes⟩, m_last_writes, k_last_writes, rfl, fun s us hl => (match us, hl with | [_], _ => .of_eq rfl), fun p hp s us hl => by
        have hl : us.length = 1 := hl
        rcases List.mem_cons.mp hp with rfl | hp
        · match us, hl with | [_], _ => exact .of_eq rfl
        · cases hp⟩
    rw [if_neg hx] at he
    by_cases hx : g = "_law_source"
    · rw [if_pos hx] at he
      subst hx
      cases he
      exact ⟨f5, _, _, _, _, _, _, PySem.W.mg_of X G a5, h5, ⟨⟨_, _, _, _, _, _, _, _, _, _, rfl, l5, c5⟩, sc_law_source⟩, m_law_source, k_law_source, rfl, fun s us hl => (match us, hl with | [_, _], _ => .of_eq rfl), fun p hp => by cases hp⟩
    rw [if_neg hx] at he
    by_cases hx : g = "_law_pick"
    · rw [if_pos hx] at he
      subst hx
      cases he
      exact ⟨f6, _, _, _, _, _, _, PySem.W.mg_of X G a6, h6, ⟨⟨_, _, _, _, _, _, _, _, _, _, rfl, l6, c6⟩, sc_law_pick⟩, m_law_pick, k_law_pick, rfl, fun s us hl => (match us, hl with | [_, _], _ => .of_eq rfl), fun p hp => by cases hp⟩
    rw [if_neg hx] at he
    by_cases hx : g = "_law_shuffled"
    · rw [if_pos hx] at he
      subst hx
      cases he
      exact ⟨f7, _, _, _, _, _, _, PySem.W.mg_of X G a7, h7, ⟨⟨_, _, _, _, _, _, _, _, _, _, rfl, l7, c7⟩, sc_law_shuffled⟩, m_law_shuffled, k_law_shuffled, rfl, fun s us hl => (match us, hl with | [_, _], _ => .of_eq rfl), fun p hp => by cases hp⟩
    rw [if_neg hx] at he
    by_cases hx : g = "_law_names"
    · rw [if_pos hx] at he
      subst hx
      cases he
      exact ⟨f8, _, _, _, _, _, _, PySem.W.mg_of X G a8, h8, ⟨⟨_, _, _, _, _, _, _, _, _, _, rfl, l8, c8⟩, sc_law_names⟩, m_law_names, k_law_names, rfl, fun s us hl => (match us, hl with | [_, _], _ => .of_eq rfl), fun p hp => by cases hp⟩
    rw [if_neg hx] at he
    by_cases hx : g = "_law_written"
    · rw [if_pos hx] at he
      subst hx
      cases he
      exact ⟨f9, _, _, _, _, _, _, PySem.W.mg_of X G a9, h9, ⟨⟨_, _, _, _, _, _, _, _, _, _, rfl, l9, c9⟩, sc_law_written⟩, m_law_written, k_law_written, rfl, fun s us hl => (match us, hl with | [_, _, _, _], _ => .of_eq rfl), fun p hp => by cases hp⟩
    rw [if_neg hx] at he
    by_cases hx : g = "_law_logs"
    · rw [if_pos hx] at he
      subst hx
      cases he
      exact ⟨f10, _, _, _, _, _, _, PySem.W.mg_of X G a10, h10, ⟨⟨_, _, _, _, _, _, _, _, _, _, rfl, l10, c10⟩, sc_law_logs⟩, m_law_logs, k_law_logs, rfl, fun s us hl => (match us, hl with | [_, _], _ => .of_eq rfl), fun p hp => by cases hp⟩
    rw [if_neg hx] at he
    by_cases hx : g = "_law_same"
    · rw [if_pos hx] at he
      subst hx
      cases he
      exact ⟨f11, _, _, _, _, _, _, PySem.W.mg_of X G a11, h11, ⟨⟨_, _, _, _, _, _, _, _, _, _, rfl, l11, c11⟩, sc_law_same⟩, m_law_same, k_law_same, rfl, fun s us hl => (match us, hl with | [_, _], _ => .of_eq rfl), fun p hp => by cases hp⟩
    rw [if_neg hx] at he
    by_cases hx : g = "_law_last"
    · rw [if_pos hx] at he
      subst hx
      cases he
      exact ⟨f12, _, _, _, _, _, _, PySem.W.mg_of X G a12, h12, ⟨⟨_, _, _, _, _, _, _, _, _, _, rfl, l12, c12⟩, sc_law_last⟩, m_law_last, k_law_last, rfl, fun s us hl => (match us, hl with | [_], _ => .of_eq rfl), fun p hp => by cases hp⟩
    rw [if_neg hx] at he
    by_cases hx : g = "_law_right"
    · rw [if_pos hx] at he
      subst hx
      cases he
      exact ⟨f13, _, _, _, _, _, _, PySem.W.mg_of X G a13, h13, ⟨⟨_, _, _, _, _, _, _, _, _, _, rfl, l13, c13⟩, sc_law_right⟩, m_law_right, k_law_right, rfl, fun s us hl => (match us, hl with | [_], _ => .of_eq rfl), fun p hp => by cases hp⟩
    rw [if_neg hx] at he
    by_cases hx : g = "_law_changes_right"
    · rw [if_pos hx] at he
      subst hx
      cases he
      exact ⟨f14, _, _, _, _, _, _, PySem.W.mg_of X G a14, h14, ⟨⟨_, _, _, _, _, _, _, _, _, _, rfl, l14, c14⟩, sc_law_changes_right⟩, m_law_changes_right, k_law_changes_right, rfl, fun s us hl => (match us, hl with | [_, _, _], _ => .of_eq rfl), fun p hp => by cases hp⟩
    rw [if_neg hx] at he
    by_cases hx : g = "law"
    · rw [if_pos hx] at he
      subst hx
      cases he
      exact ⟨f15, _, _, _, _, _, _, PySem.W.mg_of X G a15, h15, ⟨⟨_, _, _, _, _, _, _, _, _, _, rfl, l15, c15⟩, sc_law⟩, m_law, k_law, rfl, fun s us hl => (match us, hl with | [_], _ => .of_eq rfl), fun p hp => by cases hp⟩
    rw [if_neg hx] at he
    cases he
end Lw
end
section
namespace Lw
open PySem PySem.Spec PyProof.Rows L2 Pv
theorem law_fn {P : Program} {w : World} {K : Fg} {h : Heap} {mg : Str → Option Value} {fa : Addr} (X : K.In h) (G : h.Ns mainGlobals mg) (hfa : mg "law" = some (.ref fa))
    {f0 f1 f2 f3 f4 f5 f6 f7 f8 f9 f10 f11 f12 f13 f14 f15 : Addr} {od0 an0 od1 an1 od2 an2 od3 an3 od4 an4 od5 an5 od6 an6 od7 an7 od8 an8 od9 an9 od10 an10 od11 an11 od12 an12 od13 an13 od14 an14 od15 an15 : Option Addr} {sl0 sl1 sl2 sl3 sl4 sl5 sl6 sl7 sl8 sl9 sl10 sl11 sl12 sl13 sl14 sl15 : Array (Option Value)} {oc0 kv0 dc0 pm0 cd0 ct0 oc1 kv1 dc1 pm1 cd1 ct1 oc2 kv2 dc2 pm2 cd2 ct2 oc3 kv3 dc3 pm3 cd3 ct3 oc4 kv4 dc4 pm4 cd4 ct4 oc5 kv5 dc5 pm5 cd5 ct5 oc6 kv6 dc6 pm6 cd6 ct6 oc7 kv7 dc7 pm7 cd7 ct7 oc8 kv8 dc8 pm8 cd8 ct8 oc9 kv9 dc9 pm9 cd9 ct9 oc10 kv10 dc10 pm10 cd10 ct10 oc11 kv11 dc11 pm11 cd11 ct11 oc12 kv12 dc12 pm12 cd12 ct12 oc13 kv13 dc13 pm13 cd13 ct13 oc14 kv14 dc14 pm14 cd14 ct14 oc15 kv15 dc15 pm15 cd15 ct15 : Value}{t0 t1 t2 t3 t4 : Tok}
    (a0 : PySem.W.nsIn K mainGlobals "is_key" = some (some (.ref f0))) (l0 : K.lookup f0 = some ⟨oc0, od0, .func (PySem.W.fnOf "is_key" "is_key" (defArgs s_is_key) (defBody s_is_key) (defScope s_is_key) .none kv0 dc0 pm0 an0 cd0 ct0), sl0⟩) (c0 : PySem.W.codeIn K cd0 "is_key" = true) (h0 : PySem.W.keepIn K (.ref f0) = true)
    (a1 : PySem.W.nsIn K mainGlobals "is_transaction" = some (some (.ref f1))) (l1 : K.lookup f1 = some ⟨oc1, od1, .func (PySem.W.fnOf "is_transaction" "is_transaction" (defArgs s_is_transaction) (defBody s_is_transaction) (defScope s_is_transaction) .none kv1 dc1 pm1 an1 cd1 ct1), sl1⟩) (c1 : PySem.W.codeIn K cd1 "is_transaction" = true) (h1 : PySem.W.keepIn K (.ref f1) = true)
    (a2 : PySem.W.nsIn K mainGlobals "last_in" = some (some (.ref f2))) (l2 : K.lookup f2 = some ⟨oc2, od2, .func (PySem.W.fnOf "last_in" "last_in" (defArgs s_last_in) (defBody s_last_in) (defScope s_last_in) .none kv2 dc2 pm2 an2 cd2 ct2), sl2⟩) (c2 : PySem.W.codeIn K cd2 "last_in" = true) (h2 : PySem.W.keepIn K (.ref f2) = true)
    (a3 : PySem.W.nsIn K mainGlobals "is_log" = some (some (.ref f3))) (l3 : K.lookup f3 = some ⟨oc3, od3, .func (PySem.W.fnOf "is_log" "is_log" (defArgs s_is_log) (defBody s_is_log) (defScope s_is_log) .none kv3 dc3 pm3 an3 cd3 ct3), sl3⟩) (c3 : PySem.W.codeIn K cd3 "is_log" = true) (h3 : PySem.W.keepIn K (.ref f3) = true)
    (a4 : PySem.W.nsIn K mainGlobals "last_writes" = some (some (.ref f4))) (l4 : K.lookup f4 = some ⟨oc4, od4, .func (PySem.W.fnOf "last_writes" "last_writes" (defArgs s_last_writes) (defBody s_last_writes) (defScope s_last_writes) .none kv4 dc4 pm4 an4 cd4 ct4), sl4⟩) (c4 : PySem.W.codeIn K cd4 "last_writes" = true) (h4 : PySem.W.keepIn K (.ref f4) = true)
    (a5 : PySem.W.nsIn K mainGlobals "_law_source" = some (some (.ref f5))) (l5 : K.lookup f5 = some ⟨oc5, od5, .func (PySem.W.fnOf "_law_source" "_law_source" (defArgs s_law_source) (defBody s_law_source) (defScope s_law_source) .none kv5 dc5 pm5 an5 cd5 ct5), sl5⟩) (c5 : PySem.W.codeIn K cd5 "_law_source" = true) (h5 : PySem.W.keepIn K (.ref f5) = true)
    (a6 : PySem.W.nsIn K mainGlobals "_law_pick" = some (some (.ref f6))) (l6 : K.lookup f6 = some ⟨oc6, od6, .func (PySem.W.fnOf "_law_pick" "_law_pick" (defArgs s_law_pick) (defBody s_law_pick) (defScope s_law_pick) .none kv6 dc6 pm6 an6 cd6 ct6), sl6⟩) (c6 : PySem.W.codeIn K cd6 "_law_pick" = true) (h6 : PySem.W.keepIn K (.ref f6) = true)
    (a7 : PySem.W.nsIn K mainGlobals "_law_shuffled" = some (some (.ref f7))) (l7 : K.lookup f7 = some ⟨oc7, od7, .func (PySem.W.fnOf "_law_shuffled" "_law_shuffled" (defArgs s_law_shuffled) (defBody s_law_shuffled) (defScope s_law_shuffled) .none kv7 dc7 pm7 an7 cd7 ct7), sl7⟩) (c7 : PySem.W.codeIn K cd7 "_law_shuffled" = true) (h7 : PySem.W.keepIn K (.ref f7) = true)
    (a8 : PySem.W.nsIn K mainGlobals "_law_names" = some (some (.ref f8))) (l8 : K.lookup f8 = some ⟨oc8, od8, .func (PySem.W.fnOf "_law_names" "_law_names" (defArgs s_law_names) (defBody s_law_names) (defScope s_law_names) .none kv8 dc8 pm8 an8 cd8 ct8), sl8⟩) (c8 : PySem.W.codeIn K cd8 "_law_names" = true) (h8 : PySem.W.keepIn K (.ref f8) = true)
    (a9 : PySem.W.nsIn K mainGlobals "_law_written" = some (some (.ref f9))) (l9 : K.lookup f9 = some ⟨oc9, od9, .func (PySem.W.fnOf "_law_written" "_law_written" (defArgs s_law_written) (defBody s_law_written) (defScope s_law_written) .none kv9 dc9 pm9 an9 cd9 ct9), sl9⟩) (c9 : PySem.W.codeIn K cd9 "_law_written" = true) (h9 : PySem.W.keepIn K (.ref f9) = true)
    (a10 : PySem.W.nsIn K mainGlobals "_law_logs" = some (some (.ref f10))) (l10 : K.lookup f10 = some ⟨oc10, od10, .func (PySem.W.fnOf "_law_logs" "_law_logs" (defArgs s_law_logs) (defBody s_law_logs) (defScope s_law_logs) .none kv10 dc10 pm10 an10 cd10 ct10), sl10⟩) (c10 : PySem.W.codeIn K cd10 "_law_logs" = true) (h10 : PySem.W.keepIn K (.ref f10) = true)
    (a11 : PySem.W.nsIn K mainGlobals "_law_same" = some (some (.ref f11))) (l11 : K.lookup f11 = some ⟨oc11, od11, .func (PySem.W.fnOf "_law_same" "_law_same" (defArgs s_law_same) (defBody s_law_same) (defScope s_law_same) .none kv11 dc11 pm11 an11 cd11 ct11), sl11⟩) (c11 : PySem.W.codeIn K cd11 "_law_same" = true) (h11 : PySem.W.keepIn K (.ref f11) = true)
    (a12 : PySem.W.nsIn K mainGlobals "_law_last" = some (some (.ref f12))) (l12 : K.lookup f12 = some ⟨oc12, od12, .func (PySem.W.fnOf "_law_last" "_law_last" (defArgs s_law_last) (defBody s_law_last) (defScope s_law_last) .none kv12 dc12 pm12 an12 cd12 ct12), sl12⟩) (c12 : PySem.W.codeIn K cd12 "_law_last" = true) (h12 : PySem.W.keepIn K (.ref f12) = true)
    (a13 : PySem.W.nsIn K mainGlobals "_law_right" = some (some (.ref f13))) (l13 : K.lookup f13 = some ⟨oc13, od13, .func (PySem.W.fnOf "_law_right" "_law_right" (defArgs s_law_right) (defBody s_law_right) (defScope s_law_right) .none kv13 dc13 pm13 an13 cd13 ct13), sl13⟩) (c13 : PySem.W.codeIn K cd13 "_law_right" = true) (h13 : PySem.W.keepIn K (.ref f13) = true)
    (a14 : PySem.W.nsIn K mainGlobals "_law_changes_right" = some (some (.ref f14))) (l14 : K.lookup f14 = some ⟨oc14, od14, .func (PySem.W.fnOf "_law_changes_right" "_law_changes_right" (defArgs s_law_changes_right) (defBody s_law_changes_right) (defScope s_law_changes_right) .none kv14 dc14 pm14 an14 cd14 ct14), sl14⟩) (c14 : PySem.W.codeIn K cd14 "_law_changes_right" = true) (h14 : PySem.W.keepIn K (.ref f14) = true)
    (a15 : PySem.W.nsIn K mainGlobals "law" = some (some (.ref f15))) (l15 : K.lookup f15 = some ⟨oc15, od15, .func (PySem.W.fnOf "law" "law" (defArgs s_law) (defBody s_law) (defScope s_law) .none kv15 dc15 pm15 an15 cd15 ct15), sl15⟩) (c15 : PySem.W.codeIn K cd15 "law" = true) (h15 : PySem.W.keepIn K (.ref f15) = true)
    (u0 : PySem.W.nsIn K mainGlobals "LETTERS" = some (some (.str "abcdefghijklmnopqrstuvwxyz" t0)))
    (u1 : PySem.W.nsIn K mainGlobals "MOST_LETTERS" = some (some (.int 8 t1)))
    (u2 : PySem.W.nsIn K mainGlobals "MOST_KEYS" = some (some (.int 60 t2)))
    (u3 : PySem.W.nsIn K mainGlobals "MOST_TRANSACTIONS" = some (some (.int 60 t3)))
    (u4 : PySem.W.nsIn K mainGlobals "MOST_IN_TRANSACTION" = some (some (.int 10 t4)))
    (z0 : PySem.W.nsIn K mainGlobals "len" = some none)
    (z1 : PySem.W.nsIn K mainGlobals "all" = some none)
    (z2 : PySem.W.nsIn K mainGlobals "any" = some none)
    (z3 : PySem.W.nsIn K mainGlobals "sum" = some none)
    (z4 : PySem.W.nsIn K mainGlobals "min" = some none)
    (z5 : PySem.W.nsIn K mainGlobals "max" = some none)
    (z6 : PySem.W.nsIn K mainGlobals "sorted" = some none)
    (z7 : PySem.W.nsIn K mainGlobals "abs" = some none)
    (z8 : PySem.W.nsIn K mainGlobals "int" = some none)
    (z9 : PySem.W.nsIn K mainGlobals "str" = some none)
    (z10 : PySem.W.nsIn K mainGlobals "repr" = some none)
    (z11 : PySem.W.nsIn K mainGlobals "list" = some none)
    (z12 : PySem.W.nsIn K mainGlobals "tuple" = some none)
    (z13 : PySem.W.nsIn K mainGlobals "dict" = some none)
    (z14 : PySem.W.nsIn K mainGlobals "bool" = some none)
    (z15 : PySem.W.nsIn K mainGlobals "range" = some none)
    (z16 : PySem.W.nsIn K mainGlobals "enumerate" = some none)
    (z17 : PySem.W.nsIn K mainGlobals "zip" = some none)
    (z18 : PySem.W.nsIn K mainGlobals "isinstance" = some none)
    (z19 : PySem.W.nsIn K mainGlobals "set" = some none)
    (z20 : PySem.W.nsIn K mainGlobals "reversed" = some none) :
    ∃ fd : FuncData, (∀ (s : Shared) (u : Value), BindsTo s fd ⟨[u], []⟩ [("_law_script", u)]) ∧ ∀ base : Heap, K.In base → base.Ns mainGlobals mg → FnG P w K mg base 12 fa fd g_law (evOf tbl gl fuel 12 "law") := by
  obtain ⟨GO, hd⟩ := all_mk (P := P) (w := w) X G a0 l0 c0 h0 a1 l1 c1 h1 a2 l2 c2 h2 a3 l3 c3 h3 a4 l4 c4 h4 a5 l5 c5 h5 a6 l6 c6 h6 a7 l7 c7 h7 a8 l8 c8 h8 a9 l9 c9 h9 a10 l10 c10 h10 a11 l11 c11 h11 a12 l12 c12 h12 a13 l13 c13 h13 a14 l14 c14 h14 a15 l15 c15 h15 u0 u1 u2 u3 u4 z0 z1 z2 z3 z4 z5 z6 z7 z8 z9 z10 z11 z12 z13 z14 z15 z16 z17 z18 z19 z20
  obtain ⟨fa2, fd2, m2, b2, F2⟩ := law_of (P := P) (w := w) (fuel := fuel) GO hd (n := 11) (g := "law") (e := e_law) rfl
  rw [hfa] at m2
  cases m2
  exact ⟨fd2, fun s u => b2 s [u] rfl, fun base _ _ => F2 base⟩
end Lw
open PySem PySem.W PyProof.Rows
set_option maxHeartbeats 0 in
theorem PySem.Challenge.cw_mergewinners_k02_last_writes_holds : PySem.Challenge.rw_mergewinners_k02_last_writes.Holds := by
  w_on; o_law; k_head; (case hw => w_witness2)
  k_fill
  refine Pv.walk_ofG (l := PySem.Challenge.rw_mergewinners_k02_last_writes) (n := 63) (k := 12) (x := "_law_script") (sg := Lw.g_law) (ev := Pv.evOf Lw.tbl Lw.gl Lw.fuel 12 "law") rfl (by decide) rfl ⟨rfl, by decide, by decide⟩ rfl rfl rfl rfl (fun w h Y => PySem.W.kIn_of Y) ?F (fun ns h => Lw.law_true ns h)
  case F =>
    intro w mg fa h KX G hmg
    refine' Lw.law_fn KX G hmg ?a0 ?l0 ?c0 ?h0 ?a1 ?l1 ?c1 ?h1 ?a2 ?l2 ?c2 ?h2 ?a3 ?l3 ?c3 ?h3 ?a4 ?l4 ?c4 ?h4 ?a5 ?l5 ?c5 ?h5 ?a6 ?l6 ?c6 ?h6 ?a7 ?l7 ?c7 ?h7 ?a8 ?l8 ?c8 ?h8 ?a9 ?l9 ?c9 ?h9 ?a10 ?l10 ?c10 ?h10 ?a11 ?l11 ?c11 ?h11 ?a12 ?l12 ?c12 ?h12 ?a13 ?l13 ?c13 ?h13 ?a14 ?l14 ?c14 ?h14 ?a15 ?l15 ?c15 ?h15 ?u0 ?u1 ?u2 ?u3 ?u4 ?z0 ?z1 ?z2 ?z3 ?z4 ?z5 ?z6 ?z7 ?z8 ?z9 ?z10 ?z11 ?z12 ?z13 ?z14 ?z15 ?z16 ?z17 ?z18 ?z19 ?z20
    (case a0 => k_is); (case l0 => k_is); (case c0 => k_is); (case h0 => k_is); (case a1 => k_is); (case l1 => k_is); (case c1 => k_is); (case h1 => k_is); (case a2 => k_is); (case l2 => k_is); (case c2 => k_is); (case h2 => k_is); (case a3 => k_is); (case l3 => k_is); (case c3 => k_is); (case h3 => k_is); (case a4 => k_is); (case l4 => k_is); (case c4 => k_is); (case h4 => k_is); (case a5 => k_is); (case l5 => k_is); (case c5 => k_is); (case h5 => k_is); (case a6 => k_is); (case l6 => k_is); (case c6 => k_is); (case h6 => k_is); (case a7 => k_is); (case l7 => k_is); (case c7 => k_is); (case h7 => k_is); (case a8 => k_is); (case l8 => k_is); (case c8 => k_is); (case h8 => k_is); (case a9 => k_is); (case l9 => k_is); (case c9 => k_is); (case h9 => k_is); (case a10 => k_is); (case l10 => k_is); (case c10 => k_is); (case h10 => k_is); (case a11 => k_is); (case l11 => k_is); (case c11 => k_is); (case h11 => k_is); (case a12 => k_is); (case l12 => k_is); (case c12 => k_is); (case h12 => k_is); (case a13 => k_is); (case l13 => k_is); (case c13 => k_is); (case h13 => k_is); (case a14 => k_is); (case l14 => k_is); (case c14 => k_is); (case h14 => k_is); (case a15 => k_is); (case l15 => k_is); (case c15 => k_is); (case h15 => k_is); (case u0 => k_is); (case u1 => k_is); (case u2 => k_is); (case u3 => k_is); (case u4 => k_is); (case z0 => k_is); (case z1 => k_is); (case z2 => k_is); (case z3 => k_is); (case z4 => k_is); (case z5 => k_is); (case z6 => k_is); (case z7 => k_is); (case z8 => k_is); (case z9 => k_is); (case z10 => k_is); (case z11 => k_is); (case z12 => k_is); (case z13 => k_is); (case z14 => k_is); (case z15 => k_is); (case z16 => k_is); (case z17 => k_is); (case z18 => k_is); (case z19 => k_is); (case z20 => k_is)
end

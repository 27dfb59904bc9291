import PyProof.Rows.All
import Wide.All
import OpenK.AllK
import Wide.FinOn
import PySem.Challenge.RW_tanhall_k01_names_and_lots_of_names
import HandS.ForMost
import KE.LtData
import KE.SortData
import KE.DataMinMax
import KE.DataFind
import KE.KeyNested
import HandS.Wide
import HandS.WideBits
import PyProof.P3Eq
import PyProof.EqAt
import PyProof.EqKinds
import PyProof.StrOps2
import PyProof.NeKinds
import KE.DataCmp
import HandS.Style
import HandS.IsInst
import KE.KDictCopyH
import KE.GoesDict
import HandS.TupAny
import KE.KDictList
import PyProof.ListStr
import KE.KDictKeyed
import KE.KDictPairs
import HandS.Zip
set_option Elab.async false
section
set_option Elab.async false
set_option linter.all false
namespace TH
open PySem PyProof.Rows

/-! trees -/
abbrev D := PyData
inductive Own where
  | sh | top | fr | io
  deriving DecidableEq, Repr
inductive Slot where
  | un
  | lk
  | vl (k : Own) (d : D)
abbrev Ev := List Slot
/-- an outcome -/
inductive Res (α : Type) where
  | ok (a : α)
  | exc (c : Str) (d : D)
  | stk (w : String)
def Res.bind {α β : Type} : Res α → (α → Res β) → Res β
  | .ok a, f => f a
  | .exc c d, _ => .exc c d
  | .stk w, _ => .stk w
def optR {α : Type} : Option α → Res α
  | some a => .ok a
  | none => .stk "primitive"

mutual
/-- no list and no dict within -/
def imm : D → Bool
  | .list _ => false
  | .dict _ => false
  | .tuple xs => immL xs
  | _ => true
def immL : List D → Bool
  | [] => true
  | x :: xs => imm x && immL xs
end
def immKids : D → Bool
  | .list xs => immL xs
  | .dict kvs => immL (kvs.map (·.2))
  | .tuple xs => immL xs
  | _ => true

mutual
/-- == of trees -/
def eqD : D → D → Bool
  | .none, e => match e with | .none => true | _ => false
  | .bool a, e => match e with | .bool b => a == b | .int j => (if a then 1 else 0) == j | _ => false
  | .int i, e => match e with | .bool b => i == (if b then 1 else 0) | .int j => i == j | _ => false
  | .str x, e => match e with | .str y => x == y | _ => false
  | .list xs, e => match e with | .list ys => eqDs xs ys | _ => false
  | .tuple xs, e => match e with | .tuple ys => eqDs xs ys | _ => false
  | .dict kvs, e => match e with | .dict kws => kvs.length == kws.length && eqKv kvs kws | _ => false
def eqDs : List D → List D → Bool
  | [], ys => ys.isEmpty
  | x :: xs, ys => match ys with | y :: ys => eqD x y && eqDs xs ys | [] => false
def eqKv : List (D × D) → List (D × D) → Bool
  | [], _ => true
  | (k, v) :: r, kws => (match kws.find? (fun p => eqD k p.1) with | some p => eqD v p.2 | none => false) && eqKv r kws
end
mutual
/-- a key, as the library tells it -/
def nk : D → NestedKey
  | .bool b => .num (if b then 1 else 0)
  | .int i => .num i
  | .str x => .text x
  | .tuple xs => .tup (nks xs)
  | _ => .none
def nks : List D → List NestedKey
  | [] => []
  | x :: xs => nk x :: nks xs
end
/-- can be a key -/
def hashable (d : D) : Bool := imm d && decide ((nk d).depth ≤ 8)
def dGet (kvs : List (D × D)) (k : D) : Option D := (kvs.find? fun p => eqD k p.1).map (·.2)
def dHas (kvs : List (D × D)) (k : D) : Bool := (dGet kvs k).isSome
def dPut (kvs : List (D × D)) (k v : D) : List (D × D) :=
  if dHas kvs k then kvs.map fun p => if eqD k p.1 then (p.1, v) else p else kvs ++ [(k, v)]
def dDel (kvs : List (D × D)) (k : D) : List (D × D) := kvs.filter fun p => !eqD k p.1
def dMerge (kvs kws : List (D × D)) : List (D × D) := kws.foldl (fun a p => dPut a p.1 p.2) kvs

def truth : D → Bool
  | .none => false
  | .bool b => b
  | .int i => i != 0
  | .str x => x.length != 0
  | .list xs => !xs.isEmpty
  | .tuple xs => !xs.isEmpty
  | .dict kvs => !kvs.isEmpty

/-- a primitive: reads its arguments, gives an atom, a part, or something new -/
inductive P where
  | add | sub | mul | fdiv | mod | pow | neg | iadd | isub
  | eq | ne | lt | le | gt | ge | isin | notin
  | isNone | notNone | isTrue | notTrue | isFalse | notFalse
  | len | isi (t : String) | isi2 (t u : String) | repr | str | int | abs | max2 | min2 | max | min | sum | all | any
  | sorted | list | tuple | dict | bits
  | idx | slc (lo hi : Bool) | rev
  | sortset | lenset | truth | tup | lst | dct | range1 | range2 | zip | enum | items | values | get2 | get1 | index | count | join
  deriving DecidableEq, Repr

def intsD : List D → Option (List Int)
  | [] => some []
  | .int i :: r => (intsD r).map (i :: ·)
  | _ => none
def boolsD : List D → Option (List Bool)
  | [] => some []
  | .bool i :: r => (boolsD r).map (i :: ·)
  | _ => none
def strsD : List D → Option (List Str)
  | [] => some []
  | .str i :: r => (strsD r).map (i :: ·)
  | _ => none
/-- a walked thing's items -/
def seqOf : D → Option (List D)
  | .list xs => some xs
  | .tuple xs => some xs
  | .dict kvs => some (kvs.map (·.1))
  | .str x => some (x.cps.toList.map fun c => .str ⟨#[c]⟩)
  | _ => none
def pairsOf : List D → Option (List (D × D))
  | [] => some []
  | .tuple [a, b] :: r => (pairsOf r).map ((a, b) :: ·)
  | _ => none
def line (n : Nat) : Bool := decide (n ≤ sizeLine)
def ixAt (n : Nat) (i : Int) : Option Nat := if 0 ≤ i then (if i < n then some i.toNat else none) else if -(n : Int) ≤ i then some (i + n).toNat else none
def cut (xs : List α) (lo hi : Option Int) : List α := (xs.drop (HT.sIx xs.length 0 lo)).take (HT.sIx xs.length xs.length hi - HT.sIx xs.length 0 lo)
def alikeAllB (xs : List D) : Bool := xs.all fun x => xs.all fun y => PySem.W.alike x y
def sortable (xs : List D) : Bool := (xs.all fun d => match d with | .tuple (_ :: _) => true | _ => false) || (xs.all fun d => match d with | .tuple _ => false | .none => false | _ => true)
def sortD (xs : List D) : List D := xs.mergeSort fun a b => !PySem.W.dataLt b a
def isType (t : String) : D → Bool
  | .none => false
  | .bool _ => t == "bool" || t == "int"
  | .int _ => t == "int"
  | .str _ => t == "str"
  | .list _ => t == "list"
  | .tuple _ => t == "tuple"
  | .dict _ => t == "dict"
/-- unlike items, first ones -/
def firsts (xs : List D) : List D := xs.foldl (fun acc x => if acc.any (fun y => eqD x y) then acc else acc ++ [x]) []
def mkK (allfr : Bool) (d : D) : Own := if allfr || immKids d then .fr else .top
def okA (d : D) : Option (D × Own) := some (d, .fr)
def okN (d : D) : Option (D × Own) := some (d, mkK false d)
/-- a part, handed on -/
def okP (d : D) : Option (D × Own) := some (d, .sh)
/-- a tuple, new -/
def okT (xs : List D) : Option (D × Own) := some (.tuple xs, if immL xs then .fr else .sh)
/-- a number, a truth value as one -/
def numD : D → Option Int
  | .int i => some i
  | .bool b => some (if b then 1 else 0)
  | _ => none
def isNoneD : D → Bool
  | .none => true
  | _ => false
def shal (d : D) : Bool := decide (d.depth ≤ 64)
def ltD (a b : D) : Option Bool := if PySem.W.alike a b && !isNoneD a && shal a then some (PySem.W.dataLt a b) else none
def gtD (a b : D) : Option Bool := if PySem.W.alike a b && !isNoneD a && shal a then some (PySem.W.dataLt b a) else none
def addD : D → D → Option (D × Own)
  | .int i, .int j => okA (.int (i + j))
  | .str x, .str y => if line (x.length + y.length) then okA (.str (x ++ y)) else none
  | .list x, .list y => if line (x.length + y.length) then okN (.list (x ++ y)) else none
  | .tuple x, .tuple y => if line (x.length + y.length) && !x.isEmpty && !y.isEmpty then okT (x ++ y) else none
  | .int i, .bool b => okA (.int (i + if b then 1 else 0))
  | _, _ => none
def subD : D → D → Option (D × Own)
  | .int i, .int j => okA (.int (i - j))
  | _, _ => none
def iaddD : D → D → Option (D × Own)
  | .int i, .int j => okA (.int (i + j))
  | _, _ => none
def mulD : D → D → Option (D × Own)
  | .int i, .int j => if i.natAbs.log2 + j.natAbs.log2 < 1000000 then okA (.int (i * j)) else none
  | .str x, .int j => if line (x.length * j.toNat) && decide (-(2 ^ 63) ≤ j ∧ j < 2 ^ 63) then okA (.str ⟨(List.replicate j.toNat x.cps.toList).flatten.toArray⟩) else none
  | _, _ => none
def fdivD : D → D → Option (D × Own)
  | .int i, .int j => if j ≠ 0 ∧ j.natAbs.log2 < 9000 then okA (.int (i.fdiv j)) else none
  | _, _ => none
def modD : D → D → Option (D × Own)
  | .int i, .int j => if j ≠ 0 then okA (.int (i.fmod j)) else none
  | _, _ => none
def powD : D → D → Option (D × Own)
  | .int i, .int j => if 0 ≤ j ∧ j ≤ 100 ∧ i.natAbs.log2 < 5000 then okA (.int (i ^ j.toNat)) else none
  | _, _ => none
def negD : D → Option (D × Own)
  | .int i => okA (.int (-i))
  | _ => none
def okB (o : Option Bool) : Option (D × Own) := o.bind fun b => okA (.bool b)
mutual
def noD : D → Bool
  | .dict _ => false
  | .list xs => noDs xs
  | .tuple xs => noDs xs
  | _ => true
def noDs : List D → Bool
  | [] => true
  | x :: xs => noD x && noDs xs
end
def eqOk (a b : D) : Option Bool := if (shal a || shal b) && noD a && noD b then some (eqD a b) else none
def inD (a : D) : D → Option Bool
  | .dict kvs => if hashable a then some (dHas kvs a) else none
  | .str b => match a with | .str a => some (!(Builtin.Str.occurrences b a 0 b.length 1).isEmpty) | _ => none
  | .list xs => if shal a && noD a && noDs xs then some (xs.any fun x => eqD x a) else none
  | .tuple xs => if shal a && noD a && noDs xs then some (xs.any fun x => eqD x a) else none
  | _ => none
def lenD : D → Option Nat
  | .str x => if line x.length then some x.length else none
  | .list xs => some xs.length
  | .tuple xs => some xs.length
  | .dict xs => some xs.length
  | _ => none
def isBoolD (c : Bool) : D → Bool
  | .bool b => b == c
  | _ => false
def reprD (a : D) : Option (D × Own) := if a.showable && line a.shown.length && shal a then okA (.str a.shown) else none
def strD : D → Option (D × Own)
  | .int i => if i.natAbs.log2 < 1920 then okA (.str (toString i)) else none
  | _ => none
def intD : D → Option (D × Own)
  | .int i => okA (.int i)
  | .bool b => okA (.int (if b then 1 else 0))
  | _ => none
def absD : D → Option (D × Own)
  | .int i => okA (.int (if i < 0 then -i else i))
  | _ => none
def max2D : D → D → Option (D × Own)
  | .int i, .int j => okA (.int (if j > i then j else i))
  | _, _ => none
def min2D : D → D → Option (D × Own)
  | .int i, .int j => okA (.int (if j < i then j else i))
  | _, _ => none
def intsOf (a : D) : Option (List Int) := match a with
  | .list xs => intsD xs
  | _ => none
def boolsOf (a : D) : Option (List Bool) := match a with
  | .list xs => boolsD xs
  | _ => none
def strsOf (a : D) : Option (List Str) := match a with
  | .list xs => strsD xs
  | _ => none
def maxD (a : D) : Option (D × Own) := match intsOf a with
  | some (i :: r) => okA (.int (r.foldl (fun a b => if b > a then b else a) i))
  | _ => none
def minD (a : D) : Option (D × Own) := match intsOf a with
  | some (i :: r) => okA (.int (r.foldl (fun a b => if b < a then b else a) i))
  | _ => none
def sumD (a : D) : Option (D × Own) := (intsOf a).bind fun r => okA (.int r.sum)
def allD (a : D) : Option (D × Own) := (boolsOf a).bind fun r => okA (.bool (r.all id))
def anyD (a : D) : Option (D × Own) := (boolsOf a).bind fun r => okA (.bool (r.any id))
def sortedD (a : D) : Option (D × Own) := match a with
  | .list r => if alikeAllB r && sortable r && r.all shal then okN (.list (sortD r)) else none
  | _ => none
def listD (a : D) : Option (D × Own) := (seqOf a).bind fun r => if line r.length then okN (.list r) else none
def tupleD (a : D) : Option (D × Own) := match a with
  | .list r => okT r
  | .tuple r => okP (.tuple r)
  | _ => none
def dictD : D → Option (D × Own)
  | .list ps => (pairsOf ps).bind fun kvs => if kvs.all (fun p => hashable p.1) then okN (.dict (dMerge [] kvs)) else none
  | _ => none
def bitsD : D → Option (D × Own)
  | .int i => if 0 < i then okA (.int (i.natAbs.log2 + 1)) else none
  | _ => none
def idxD (a i : D) : Option (D × Own) := match a with
  | .list xs => (match i with | .int i => ((ixAt xs.length i).bind (xs[·]?)).bind okP | _ => none)
  | .tuple xs => (match i with | .int i => ((ixAt xs.length i).bind (xs[·]?)).bind okP | _ => none)
  | .str x => (match i with | .int i => if line x.length then ((ixAt x.length i).bind (x.cps.toList[·]?)).bind fun c => okA (.str ⟨#[c]⟩) else none | _ => none)
  | .dict kvs => if hashable i then (dGet kvs i).bind okP else none
  | _ => none
def cutD (a : D) (lo hi : Option Int) : Option (D × Own) := match a with
  | .list xs => okN (.list (cut xs lo hi))
  | .tuple xs => if (cut xs lo hi).length < xs.length then okT (cut xs lo hi) else okP (.tuple xs)
  | .str x => if line x.length then okA (.str ⟨(cut x.cps.toList lo hi).toArray⟩) else none
  | _ => none
def revD (a : D) : Option (D × Own) := match a with
  | .list xs => okN (.list xs.reverse)
  | _ => none
def rangeD (i j : Int) : Option (D × Own) := if -(2 ^ 62) ≤ i ∧ i < 2 ^ 62 ∧ -(2 ^ 62) ≤ j ∧ j < 2 ^ 62 then okP (.list ((List.range (j - i).toNat).map fun (k : Nat) => PyData.int (i + (k : Int)))) else none
def zipD : D → D → Option (D × Own)
  | .list x, .list y => okP (.list ((x.zip y).map fun p => .tuple [p.1, p.2]))
  | .tuple x, .tuple y => okP (.list ((x.zip y).map fun p => .tuple [p.1, p.2]))
  | _, _ => none
def enumD (a : D) : Option (D × Own) := (seqOf a).bind fun x => okP (.list (x.zipIdx.map fun p => .tuple [.int p.2, p.1]))
def itemsD : D → Option (D × Own)
  | .dict kvs => okP (.list (kvs.map fun p => .tuple [p.1, p.2]))
  | _ => none
def valuesD : D → Option (D × Own)
  | .dict kvs => okP (.list (kvs.map fun p => p.2))
  | _ => none
def getD (d k e : D) : Option (D × Own) := match d with
  | .dict kvs => if hashable k then okP ((dGet kvs k).getD e) else none
  | _ => none
def indexD (a b : D) : Option (D × Own) := (seqOf a).bind fun xs => (xs.findIdx? (fun x => eqD x b)).bind fun i => if shal b then okA (.int i) else none
def countD (a b : D) : Option (D × Own) := (seqOf a).bind fun xs => if shal b then okA (.int (xs.countP fun x => eqD x b)) else none
def joinD (a b : D) : Option (D × Own) := match a with
  | .str x => (strsOf b).bind fun ys => if line ((ys.map (·.length)).sum + ys.length * x.length) then okA (.str (Str.join x ys)) else none
  | _ => none
def sortsetD (a : D) : Option (D × Own) := (seqOf a).bind fun r => let q := firsts r; if r.all hashable && alikeAllB q && sortable q then okN (.list (sortD q)) else none
def lensetD (a : D) : Option (D × Own) := (seqOf a).bind fun r => if r.all hashable then okA (.int (firsts r).length) else none
def dctPairs : List D → Option (List (D × D))
  | [] => some []
  | k :: v :: r => (dctPairs r).map ((k, v) :: ·)
  | _ => none

def prim (p : P) (xs : List (D × Own)) : Option (D × Own) := match p with
  | .tup => if line xs.length then some (.tuple (xs.map (·.1)), if xs.all (fun x => x.2 == .fr) then .fr else .sh) else none
  | .lst => if line xs.length then some (.list (xs.map (·.1)), mkK (xs.all fun x => x.2 == .fr) (.list (xs.map (·.1)))) else none
  | .dct => (dctPairs (xs.map (·.1))).bind fun kvs => if kvs.all (fun p => hashable p.1) && line xs.length then some (.dict (dMerge [] kvs), mkK (xs.all fun x => x.2 == .fr) (.dict (dMerge [] kvs))) else none
  | p => match xs with
    | [a] => (match p with
      | .neg => negD a.1
      | .isNone => okA (.bool (isNoneD a.1))
      | .notNone => okA (.bool (!isNoneD a.1))
      | .isTrue => okA (.bool (isBoolD true a.1))
      | .notTrue => okA (.bool (!isBoolD true a.1))
      | .isFalse => okA (.bool (isBoolD false a.1))
      | .notFalse => okA (.bool (!isBoolD false a.1))
      | .truth => okA (.bool (truth a.1))
      | .len => (lenD a.1).bind fun n => okA (.int n)
      | .isi t => okA (.bool (isType t a.1))
      | .isi2 t u => okA (.bool (isType t a.1 || isType u a.1))
      | .repr => reprD a.1
      | .str => strD a.1
      | .int => intD a.1
      | .abs => absD a.1
      | .max => maxD a.1
      | .min => minD a.1
      | .sum => sumD a.1
      | .all => allD a.1
      | .any => anyD a.1
      | .sorted => sortedD a.1
      | .sortset => sortsetD a.1
      | .lenset => lensetD a.1
      | .list => listD a.1
      | .tuple => tupleD a.1
      | .dict => dictD a.1
      | .bits => bitsD a.1
      | .rev => revD a.1
      | .slc l h => if l || h then none else cutD a.1 none none
      | .range1 => (match a.1 with | .int j => rangeD 0 j | _ => none)
      | .enum => enumD a.1
      | .items => itemsD a.1
      | .values => valuesD a.1
      | _ => none)
    | [a, b] => (match p with
      | .add => addD a.1 b.1
      | .sub => subD a.1 b.1
      | .mul => mulD a.1 b.1
      | .fdiv => fdivD a.1 b.1
      | .mod => modD a.1 b.1
      | .pow => powD a.1 b.1
      | .eq => okB (eqOk a.1 b.1)
      | .ne => okB ((eqOk a.1 b.1).map (!·))
      | .lt => okB (ltD a.1 b.1)
      | .gt => okB (gtD a.1 b.1)
      | .le => okB ((gtD a.1 b.1).map (!·))
      | .ge => okB ((ltD a.1 b.1).map (!·))
      | .isin => okB (inD a.1 b.1)
      | .notin => okB ((inD a.1 b.1).map (!·))
      | .max2 => max2D a.1 b.1
      | .min2 => min2D a.1 b.1
      | .idx => idxD a.1 b.1
      | .slc l h => (match b.1 with
        | .int i => if l && !h then cutD a.1 (some i) none else if h && !l then cutD a.1 none (some i) else none
        | _ => none)
      | .range2 => (match a.1, b.1 with | .int i, .int j => rangeD i j | _, _ => none)
      | .zip => zipD a.1 b.1
      | .get1 => getD a.1 b.1 .none
      | .index => indexD a.1 b.1
      | .count => countD a.1 b.1
      | .join => joinD a.1 b.1
      | _ => none)
    | [a, b, c] => (match p with
      | .slc l h => (match b.1, c.1 with
        | .int i, .int j => if l && h then cutD a.1 (some i) (some j) else none
        | _, _ => none)
      | .get2 => getD a.1 b.1 c.1
      | _ => none)
    | _ => none

/-- a method that changes its list or dict -/
inductive M where
  | append | insert | pop0 | pop1 | update | setitem | extend
  deriving DecidableEq, Repr
/-- the answer, the thing behind it, whether it stays wholly own -/
def mutate : M → D → List (D × Own) → Option (D × Own × D × Bool)
  | .append, .list xs, [(a, k)] => if decide (xs.length < sizeLine) then some (.none, .fr, .list (xs ++ [a]), k == .fr || imm a) else none
  | .insert, .list xs, [(.int i, _), (a, k)] => if decide (xs.length < sizeLine) then
      some (.none, .fr, (let j := HT.sIx xs.length 0 (some i); .list (xs.take j ++ a :: xs.drop j)), k == .fr || imm a) else none
  | .pop0, .list xs, [] => (match xs.getLast? with | some a => some (a, .sh, .list xs.dropLast, imm a) | none => none)
  | .pop1, .list xs, [(.int i, _)] => (match ixAt xs.length i with
    | some j => (match xs[j]? with | some a => some (a, .sh, .list (xs.eraseIdx j), imm a) | none => none)
    | none => none)
  | .pop1, .dict kvs, [(k, _)] => if hashable k then (match dGet kvs k with
    | some a => some (a, .sh, .dict (dDel kvs k), imm a) | none => none) else none
  | .update, .dict kvs, [(.dict kws, k)] => if line (kvs.length + kws.length) then some (.none, .fr, .dict (dMerge kvs kws), k == .fr) else none
  | .setitem, .list xs, [(.int i, _), (a, k)] => (match ixAt xs.length i with | some j => some (.none, .fr, .list (xs.set j a), k == .fr || imm a) | none => none)
  | .extend, .list xs, [(.list ys, k)] => if line (xs.length + ys.length) then some (.none, .fr, .list (xs ++ ys), k == .fr) else none
  | _, _, _ => none

/-- targets -/
inductive T where
  | nm (i : Nat)
  | tp (ts : List T)
/-- code -/
inductive C where
  | lit (d : D)
  | var (i : Nat)
  | mv (i : Nat)
  | con (x : String)
  | op (p : P) (args : List C)
  | sq (p : P) (args : List C)
  | opS (p : P) (src : C)
  | and_ (a b : C)
  | or_ (a b : C)
  | not_ (a : C)
  | ite (c a b : C)
  | chain (p q : P) (a b c : C)
  | call (f : String) (args : List C) (perm : List Nat)
  | io (i : Nat)
  | iot (c : C)
  | pk (i : Nat)
  | pt (i : Nat)
  | mut (m : M) (i : Nat) (args : List C)
  | lc (src : C) (tgt : T) (own : List Nat) (ifs : List C) (elt : C)
  | lc2 (src : C) (tgt : T) (ifs : List C) (src2 : C) (tgt2 : T) (ifs2 : List C) (own : List Nat) (elt : C)
  | dc (src : C) (tgt : T) (own : List Nat) (ifs : List C) (k v : C)
inductive S where
  | ex (c : C)
  | asg (t : T) (c : C)
  | asgs (ts : List T) (cs : List C)
  | seti (i : Nat) (ix v : C)
  | ret (c : C)
  | retN
  | iff (c : C) (a b : List S)
  | for_ (t : T) (src : C) (body : List S)
  | while_ (c : C) (body : List S)
  | pass | brk | cont
  | raise (c : String) (args : List C)

/-- a def's meaning: modes (true: in-out), and what it gives: the answer and the in-out values behind it -/
structure Fn where
  modes : List Bool
  sem : List D → Res (D × Own × List D)
structure Glob where
  con : String → Option D
  fn : String → Option Fn

def getS (ρ : Ev) (i : Nat) : Slot := (ρ[i]?).getD .un
def setS (ρ : Ev) (i : Nat) (s : Slot) : Ev := ρ.set i s
def wipeS (ρ : Ev) (own : List Nat) : Ev := own.foldl (fun r i => setS r i .un) ρ
def backS (ρ old : Ev) (own : List Nat) : Ev := own.foldl (fun r i => setS r i (getS old i)) ρ
mutual
/-- a target takes an item -/
def bindT : T → D → Own → Ev → Res Ev
  | .nm i, d, k, ρ => (match getS ρ i with
    | .vl .io _ => .stk "an in-out parameter is stored"
    | .lk => .stk "a walked thing's name is stored"
    | _ => .ok (setS ρ i (.vl k d)))
  | .tp ts, d, k, ρ => match d with
    | .tuple ds => bindTs ts ds ρ
    | _ => .stk "unpack"
def bindTs : List T → List D → Ev → Res Ev
  | [], [], ρ => .ok ρ
  | t :: ts, d :: ds, ρ => (bindT t d .sh ρ).bind fun ρ => bindTs ts ds ρ
  | _, _, _ => .stk "unpack"
end
def permute (xs : List α) : List Nat → Option (List α)
  | [] => some []
  | i :: r => match xs[i]?, permute xs r with | some x, some l => some (x :: l) | _, _ => none

/-- the slots of in-out arguments (none: a thing that nobody holds) -/
def ioSlots : List C → List (Option Nat)
  | [] => []
  | .io i :: r => some i :: ioSlots r
  | .iot _ :: r => none :: ioSlots r
  | _ :: r => ioSlots r
def putOuts : Ev → List (Option Nat) → List D → Option Ev
  | ρ, [], [] => some ρ
  | ρ, some i :: r, d :: ds => match getS ρ i with
    | .vl k _ => putOuts (setS ρ i (.vl k d)) r ds
    | _ => none
  | ρ, none :: r, _ :: ds => putOuts ρ r ds
  | _, _, _ => none

/-- primitives that hand nothing on -/
def scalarP : P → Bool
  | .eq | .ne | .lt | .le | .gt | .ge | .isin | .notin | .isNone | .notNone | .isTrue | .notTrue | .isFalse | .notFalse
  | .len | .isi _ | .isi2 _ _ | .repr | .str | .int | .abs | .max2 | .min2 | .max | .min | .sum | .all | .any | .bits | .truth | .lenset | .index | .count | .join
  | .sub | .fdiv | .mod | .pow | .neg | .iadd | .isub => true
  | _ => false
/-- a wholly own thing whose parts are handed on -/
def topK : D → Own
  | .list _ => .top
  | .dict _ => .top
  | _ => .sh
def mutK (k : Own) (whole : Bool) : Own := match k with
  | .fr => if whole then .fr else .top
  | k => k
def noExc : Res α → Res α
  | .exc _ _ => .stk "an exception within a comprehension"
  | r => r
/-- a slot looked at: its tree, the slots (a wholly own thing whose parts are handed on is own at its top alone) -/
def peek (parts : Bool) (ρ : Ev) (i : Nat) : Res (D × Own × Ev) :=
  match getS ρ i with
  | .vl .fr d => if parts then (if immKids d then .ok (d, .sh, ρ) else .ok (d, .sh, setS ρ i (.vl (topK d) d))) else .ok (d, .io, ρ)
  | .vl _ d => .ok (d, if parts then .sh else .io, ρ)
  | _ => .stk "unbound"
def tyN : D → String
  | .none => "NoneType"
  | .bool _ => "bool"
  | .int _ => "int"
  | .str _ => "str"
  | .list _ => "list"
  | .tuple _ => "tuple"
  | .dict _ => "dict"
def tyOf : Slot → Res String
  | .vl _ d => .ok (tyN d)
  | _ => .stk "unbound"
def boxD : D → Bool
  | .list _ => true
  | .dict _ => true
  | _ => false
/-- a source's items -/
def walkR : Option (List D) → Ev → Res (List D × Ev)
  | some l, ρ => .ok (l, ρ)
  | none, _ => .stk "walk"
def bound (ρ : Ev) (i : Nat) : Bool := match getS ρ i with | .vl _ _ => true | _ => false
/-- the slot that a walk hides -/
def hides : C → List Nat
  | .pt i => [i]
  | _ => []
section
variable (G : Glob)
def loop {α : Type} (f : D → α → Ev → Res (α × Ev)) : List D → α → Ev → Res (α × Ev)
  | [], a, ρ => .ok (a, ρ)
  | x :: xs, a, ρ => (f x a ρ).bind fun r => loop f xs r.1 r.2
def isLk : Slot → Bool
  | .lk => true
  | _ => false
/-- one turn of a list comprehension -/
def lcF (bd : D → Ev → Res Ev) (test : Ev → Res (Bool × Ev)) (elt : Ev → Res (D × Own × Ev)) (hs : List Nat) : D → List D × Bool → Ev → Res ((List D × Bool) × Ev) := fun x acc ρ =>
  (bd x ρ).bind fun ρ => (test ρ).bind fun t => if t.1 then (elt t.2).bind fun r => .ok ((acc.1 ++ [r.1], acc.2 && (r.2.1 == .fr || imm r.1)), wipeS r.2.2 hs) else .ok (acc, wipeS t.2 hs)
def shareS (ρ : Ev) (own : List Nat) : Ev := own.foldl (fun r i => match getS r i with | .vl _ d => setS r i (.vl .sh d) | _ => r) ρ
def ownOk (ρ : Ev) (own hs : List Nat) : Bool := decide hs.Nodup && (own.all fun i => match getS ρ i with | .vl .io _ => false | _ => true) && (hs.all fun i => !isLk (getS ρ i) && decide (i < ρ.length))
/-- its block: the slots hs hidden, the block's own ones among them -/
def lcRun (hs own : List Nat) (ρ : Ev) (f : Ev → Res ((List D × Bool) × Ev)) : Res (D × Own × Ev) :=
  if ownOk ρ own hs then (noExc (f (shareS ρ own))).bind fun r => if line r.1.1.length then .ok (.list r.1.1, mkK r.1.2 (.list r.1.1), backS r.2 (shareS ρ own) hs) else .stk "line" else .stk "a comprehension's names"
mutual
def evE : C → Ev → Res (D × Own × Ev)
  | .lit d, ρ => .ok (d, .fr, ρ)
  | .var i, ρ => match getS ρ i with
    | .vl .sh d => .ok (d, .sh, ρ)
    | .vl .io _ => .stk "an in-out thing is handed on"
    | .vl _ d => if imm d then .ok (d, .sh, ρ) else .ok (d, .sh, setS ρ i (.vl .sh d))
    | _ => .stk "unbound"
  | .mv i, ρ => match getS ρ i with
    | .vl .io _ => .stk "an in-out thing is handed on"
    | .vl k d => .ok (d, k, setS ρ i .un)
    | _ => .stk "unbound"
  | .io _, _ => .stk "in-out"
  | .iot _, _ => .stk "in-out"
  | .pk _, _ => .stk "peek"
  | .pt _, _ => .stk "peek"
  | .sq _ _, _ => .stk "a source as a value"
  | .con x, ρ => match G.con x with
    | some d => .ok (d, .sh, ρ)
    | none => .stk ("constant " ++ x)
  | .op p args, ρ => (evL args ρ).bind fun r => if scalarP p || r.1.all (fun x => x.2 != .io) then (optR (prim p r.1)).bind fun q => .ok (q.1, q.2, r.2) else .stk "a peek is handed on"
  | .opS p s, ρ => (evSrc s ρ).bind fun r => (optR (prim p [(.list r.1, .sh)])).bind fun q => .ok (q.1, q.2, r.2)
  | .and_ a b, ρ => (evE a ρ).bind fun r => if truth r.1 then evE b r.2.2 else .ok r
  | .or_ a b, ρ => (evE a ρ).bind fun r => if truth r.1 then .ok r else evE b r.2.2
  | .not_ a, ρ => (evE a ρ).bind fun r => .ok (.bool (!truth r.1), .fr, r.2.2)
  | .ite c a b, ρ => (evE c ρ).bind fun r => if truth r.1 then evE a r.2.2 else evE b r.2.2
  | .chain p q a b c, ρ => (evE a ρ).bind fun x => (evE b x.2.2).bind fun y => (optR (prim p [(x.1, .sh), (y.1, .sh)])).bind fun z =>
      if truth z.1 then (evE c y.2.2).bind fun u => (optR (prim q [(y.1, .sh), (u.1, .sh)])).bind fun v => .ok (v.1, v.2, u.2.2) else .ok (z.1, z.2, y.2.2)
  | .call f args perm, ρ => (evA args ρ).bind fun r => match G.fn f with
    | none => .stk ("function " ++ f)
    | some F => match permute r.1 perm with
      | none => .stk "arguments"
      | some ds => (F.sem ds).bind fun q => if q.2.1 == .io then .stk "io" else match putOuts r.2 (ioSlots args) q.2.2 with
        | some ρ => .ok (q.1, q.2.1, ρ)
        | none => .stk "outs"
  | .mut m i args, ρ => (tyOf (getS ρ i)).bind fun ty => (evL args ρ).bind fun r => match getS r.2 i with
    | .vl .sh _ => .stk "a shared thing would be changed"
    | .vl k d => if r.1.all (fun x => x.2 != .io) && tyN d == ty then (optR (mutate m d r.1)).bind fun q => .ok (q.1, q.2.1, setS r.2 i (.vl (mutK k q.2.2.2) q.2.2.1)) else .stk "a peek is handed on"
    | _ => .stk "unbound"
  | .lc src tgt own ifs elt, ρ => (evSrc src ρ).bind fun s => lcRun (hides src ++ own) own s.2 fun ρs =>
      loop (lcF (fun x ρ => bindT tgt x .sh ρ) (fun ρ => evT ifs ρ) (fun ρ => evE elt ρ) (hides src ++ own)) s.1 ([], true) (wipeS ρs (hides src ++ own))
  | .lc2 src tgt ifs src2 tgt2 ifs2 own elt, ρ => (evSrc src ρ).bind fun s => noExc ((loop (fun x (acc : List D × Bool) ρ => (bindT tgt x .sh ρ).bind fun ρ => (evT ifs ρ).bind fun t =>
        if t.1 then (evSrc src2 t.2).bind fun s2 => (loop (fun x (acc : List D × Bool) ρ => (bindT tgt2 x .sh ρ).bind fun ρ => (evT ifs2 ρ).bind fun t =>
              if t.1 then (evE elt t.2).bind fun r => .ok ((acc.1 ++ [r.1], acc.2 && r.2.1 == .fr), r.2.2) else .ok (acc, t.2)) s2.1 acc s2.2).bind
              fun r => .ok (r.1, wipeS r.2 own)
        else .ok (acc, wipeS t.2 own)) s.1 ([], true) (wipeS s.2 (hides src ++ own))).bind
        fun r => if line r.1.1.length then .ok (.list r.1.1, mkK r.1.2 (.list r.1.1), backS r.2 s.2 (hides src ++ own)) else .stk "line")
  | .dc src tgt own ifs k v, ρ => (evSrc src ρ).bind fun s => noExc ((loop (fun x (acc : List (D × D) × Bool) ρ => (bindT tgt x .sh ρ).bind fun ρ => (evT ifs ρ).bind fun t =>
        if t.1 then (evE k t.2).bind fun r => (evE v r.2.2).bind fun q => if hashable r.1 then .ok ((dPut acc.1 r.1 q.1, acc.2 && q.2.1 == .fr), wipeS q.2.2 own) else .stk "hash"
        else .ok (acc, wipeS t.2 own)) s.1 ([], true) (wipeS s.2 (hides src ++ own))).bind
        fun r => if line r.1.1.length then .ok (.dict r.1.1, mkK r.1.2 (.dict r.1.1), backS r.2 s.2 (hides src ++ own)) else .stk "line")
/-- arguments of a primitive -/
def evL : List C → Ev → Res (List (D × Own) × Ev)
  | [], ρ => .ok ([], ρ)
  | c :: cs, ρ => match c with
    | .pk i => if bound ρ i then (evL cs ρ).bind fun q => (peek false q.2 i).bind fun r => .ok ((r.1, r.2.1) :: q.1, r.2.2) else .stk "unbound"
    | .pt i => if bound ρ i then (evL cs ρ).bind fun q => (peek true q.2 i).bind fun r => .ok ((r.1, r.2.1) :: q.1, r.2.2) else .stk "unbound"
    | c => (evE c ρ).bind fun r => (evL cs r.2.2).bind fun q => .ok ((r.1, r.2.1) :: q.1, q.2)
/-- arguments of a def -/
def evA : List C → Ev → Res (List D × Ev)
  | [], ρ => .ok ([], ρ)
  | c :: cs, ρ => match c with
    | .io i => if bound ρ i then (evA cs ρ).bind fun q => match getS q.2 i with
        | .vl .sh _ => .stk "in-out of a shared thing"
        | .vl k d => if boxD d then .ok (d :: q.1, setS q.2 i (.vl (if k == .io then .io else .top) d)) else .stk "in-out of no list"
        | _ => .stk "unbound"
      else .stk "unbound"
    | .iot c => (evE c ρ).bind fun r => if r.2.1 == .sh || !boxD r.1 then .stk "in-out of a shared thing" else (evA cs r.2.2).bind fun q => .ok (r.1 :: q.1, q.2)
    | c => (evE c ρ).bind fun r => (evA cs r.2.2).bind fun q => .ok (r.1 :: q.1, q.2)
/-- what is walked: its items -/
def evSrc : C → Ev → Res (List D × Ev)
  | .pt i, ρ => (peek true ρ i).bind fun r => walkR (seqOf r.1) r.2.2
  | .sq p args, ρ => (evL args ρ).bind fun r => if r.1.all (fun x => x.2 != .io) then (optR (prim p r.1)).bind fun q => match q.1 with | .list l => .ok (l, r.2) | _ => .stk "walk" else .stk "a peek is handed on"
  | c, ρ => (evE c ρ).bind fun r => walkR (seqOf r.1) r.2.2
/-- all tests, from the left -/
def evT : List C → Ev → Res (Bool × Ev)
  | [], ρ => .ok (true, ρ)
  | c :: cs, ρ => (evE c ρ).bind fun r => if truth r.1 then evT cs r.2.2 else .ok (false, r.2.2)
end

inductive Fl where
  | next (ρ : Ev)
  | ret (d : D) (k : Own) (ρ : Ev)
  | brk (ρ : Ev)
  | cont (ρ : Ev)
def forLoop (f : D → Ev → Res Fl) : List D → Ev → Res Fl
  | [], ρ => .ok (.next ρ)
  | x :: xs, ρ => (f x ρ).bind fun r => match r with
    | .next ρ => forLoop f xs ρ
    | .cont ρ => forLoop f xs ρ
    | .brk ρ => .ok (.next ρ)
    | .ret d k ρ => .ok (.ret d k ρ)
/-- the slot that a loop locks: an own thing's that is walked -/
def lockOf (src : C) (ρ : Ev) : Option Nat := match src with
  | .pt i => (match getS ρ i with
    | .vl .sh _ => none
    | .vl _ _ => some i
    | _ => none)
  | _ => none
def unlock (i : Nat) (old : Slot) : Fl → Res Fl
  | .next ρ => if isLk (getS ρ i) then .ok (.next (setS ρ i old)) else .stk "unlock"
  | .ret d k ρ => if isLk (getS ρ i) then .ok (.ret d k (setS ρ i old)) else .stk "unlock"
  | _ => .stk "unlock"
def whileLoop (c : Ev → Res (Bool × Ev)) (f : Ev → Res Fl) : Nat → Ev → Res Fl
  | 0, _ => .stk "fuel"
  | n + 1, ρ => (c ρ).bind fun t => if t.1 then (f t.2).bind fun r => match r with
      | .next ρ => whileLoop c f n ρ
      | .cont ρ => whileLoop c f n ρ
      | .brk ρ => .ok (.next ρ)
      | .ret d k ρ => .ok (.ret d k ρ)
    else .ok (.next t.2)
/-- several targets, one after another -/
def bindEach : List T → List (D × Own) → Ev → Res Ev
  | [], [], ρ => .ok ρ
  | t :: ts, d :: ds, ρ => (bindT t d.1 d.2 ρ).bind fun ρ => bindEach ts ds ρ
  | _, _, _ => .stk "unpack"
mutual
def evS (fuel : Nat) : S → Ev → Res Fl
  | .ex c, ρ => (evE G c ρ).bind fun r => .ok (.next r.2.2)
  | .asg t c, ρ => (evE G c ρ).bind fun r => (bindT t r.1 r.2.1 r.2.2).bind fun ρ => .ok (.next ρ)
  | .asgs ts cs, ρ => (evL G cs ρ).bind fun r => if r.1.all (fun x => x.2 != .io) then (bindEach ts r.1 r.2).bind fun ρ => .ok (.next ρ) else .stk "a peek is handed on"
  | .seti i ix v, ρ => (evE G v ρ).bind fun r => if bound r.2.2 i then (evE G ix r.2.2).bind fun q => match getS q.2.2 i with
    | .vl .sh _ => .stk "a shared thing would be changed"
    | .vl k d => (optR (mutate .setitem d [(q.1, q.2.1), (r.1, r.2.1)])).bind fun z => .ok (.next (setS q.2.2 i (.vl (mutK k z.2.2.2) z.2.2.1)))
    | _ => .stk "unbound"
    else .stk "unbound"
  | .ret c, ρ => (evE G c ρ).bind fun r => .ok (.ret r.1 r.2.1 r.2.2)
  | .retN, ρ => .ok (.ret .none .fr ρ)
  | .iff c a b, ρ => (evE G c ρ).bind fun r => if truth r.1 then evSs fuel a r.2.2 else evSs fuel b r.2.2
  | .for_ t src body, ρ => (evSrc G src ρ).bind fun s => match lockOf src s.2 with
    | none => forLoop (fun x ρ => (bindT t x .sh ρ).bind fun ρ => evSs fuel body ρ) s.1 s.2
    | some i => (forLoop (fun x ρ => (bindT t x .sh ρ).bind fun ρ => evSs fuel body ρ) s.1 (setS s.2 i .lk)).bind fun q => unlock i (getS s.2 i) q
  | .while_ c body, ρ => whileLoop (fun ρ => (evE G c ρ).bind fun r => .ok (truth r.1, r.2.2)) (fun ρ => evSs fuel body ρ) fuel ρ
  | .pass, ρ => .ok (.next ρ)
  | .brk, ρ => .ok (.brk ρ)
  | .cont, ρ => .ok (.cont ρ)
  | .raise c args, ρ => (evL G args ρ).bind fun r => match r.1 with
    | [(d, _)] => .exc (Str.ofString c) d
    | _ => .stk "raise"
def evSs (fuel : Nat) : List S → Ev → Res Fl
  | [], ρ => .ok (.next ρ)
  | s :: r, ρ => (evS fuel s ρ).bind fun q => match q with
    | .next ρ => evSs fuel r ρ
    | .brk ρ => .ok (.brk ρ)
    | .cont ρ => .ok (.cont ρ)
    | .ret d k ρ => .ok (.ret d k ρ)
end
/-- the in-out values behind a body -/
def outsOf : List Bool → Ev → Option (List D)
  | [], _ => some []
  | false :: ms, _ :: ρ => outsOf ms ρ
  | true :: ms, .vl .io d :: ρ => (outsOf ms ρ).map (d :: ·)
  | _, _ => none
def startS (modes : List Bool) (ds : List D) (n : Nat) : Ev := (modes.zip ds).map (fun p => .vl (if p.1 then .io else .sh) p.2) ++ List.replicate (n - ds.length) .un
def runBody (modes : List Bool) (n fuel : Nat) (body : List S) (ds : List D) : Res (D × Own × List D) :=
  if ds.length == modes.length then
    (evSs G fuel body (startS modes ds n)).bind fun r => match r with
      | .ret d k ρ => (match outsOf modes ρ with | some os => .ok (d, k, os) | none => .stk "an in-out thing was let go")
      | .next ρ => (match outsOf modes ρ with | some os => .ok (.none, .fr, os) | none => .stk "an in-out thing was let go")
      | _ => .stk "flow"
  else .stk "arity"
end
end TH
end
section
set_option Elab.async false
set_option linter.all false
namespace TH
open PySem PyProof.Rows

/-- what is known of the module's names -/
structure Sig where
  funs : List (Str × String × List Str × List Bool)
  cons : List (Str × String)
structure Cc where
  sig : Sig
  N : List Str
  sc : Scope
def ixOf (N : List Str) (x : Str) : Option Nat := N.findIdx? (· == x)
def kindIs (k : NameKind) : Option NameKind → Bool
  | some j => match k, j with
    | .local, .local => true
    | .cell, .cell => true
    | .free, .free => true
    | .globalImplicit, .globalImplicit => true
    | _, _ => false
  | none => false
def visB (sc : Scope) (x : Str) : Bool := kindIs .local (sc.names.lookup x) || kindIs .cell (sc.names.lookup x) || kindIs .free (sc.names.lookup x)
def locB (sc : Scope) (x : Str) : Bool := kindIs .local (sc.names.lookup x) || kindIs .cell (sc.names.lookup x)
def glB (sc : Scope) (x : Str) : Bool := kindIs .globalImplicit (sc.names.lookup x)
def slotOf (E : Cc) (x : Str) : Option Nat := if visB E.sc x then ixOf E.N x else none
def mapO (f : α → Option β) : List α → Option (List β)
  | [] => some []
  | x :: xs => match f x, mapO f xs with | some y, some ys => some (y :: ys) | _, _ => none

mutual
def usesC (i : Nat) : C → Bool
  | .lit _ | .con _ => false
  | .var j | .mv j | .io j | .pk j | .pt j => i == j
  | .op _ as => usesL i as
  | .sq _ as => usesL i as
  | .opS _ s => usesC i s
  | .and_ a b | .or_ a b => usesC i a || usesC i b
  | .not_ a | .iot a => usesC i a
  | .ite c a b => usesC i c || usesC i a || usesC i b
  | .chain _ _ a b c => usesC i a || usesC i b || usesC i c
  | .call _ as _ => usesL i as
  | .mut _ j as => i == j || usesL i as
  | .lc s _ _ fs e => usesC i s || usesL i fs || usesC i e
  | .lc2 s _ fs s2 _ fs2 _ e => usesC i s || usesL i fs || usesC i s2 || usesL i fs2 || usesC i e
  | .dc s _ _ fs k v => usesC i s || usesL i fs || usesC i k || usesC i v
def usesL (i : Nat) : List C → Bool
  | [] => false
  | c :: cs => usesC i c || usesL i cs
end
mutual
def usesS (i : Nat) : S → Bool
  | .ex c | .asg _ c | .ret c => usesC i c
  | .asgs _ cs => usesL i cs
  | .seti j a b => i == j || usesC i a || usesC i b
  | .iff c a b => usesC i c || usesSs i a || usesSs i b
  | .for_ _ s b => usesC i s || usesSs i b
  | .while_ c b => usesC i c || usesSs i b
  | .raise _ as => usesL i as
  | _ => false
def usesSs (i : Nat) : List S → Bool
  | [] => false
  | c :: cs => usesS i c || usesSs i cs
end

def binP : Operator → Option P
  | .Add => some .add | .Sub => some .sub | .Mult => some .mul | .FloorDiv => some .fdiv | .Mod => some .mod | .Pow => some .pow | _ => none
def cmpP : CmpOp → Option P
  | .Eq => some .eq | .NotEq => some .ne | .Lt => some .lt | .LtE => some .le | .Gt => some .gt | .GtE => some .ge | .In => some .isin | .NotIn => some .notin | _ => none
def isP (neg : Bool) : Expr → Option P
  | .Constant .none _ _ => some (if neg then .notNone else .isNone)
  | .Constant (.bool true) _ _ => some (if neg then .notTrue else .isTrue)
  | .Constant (.bool false) _ _ => some (if neg then .notFalse else .isFalse)
  | _ => none
/-- parts may be handed on -/
def partsP : P → Bool
  | .add | .mul | .sorted | .sortset | .list | .tuple | .dict | .idx | .slc _ _ | .rev | .zip | .enum | .items | .values | .get1 | .get2 | .max | .min | .max2 | .min2 => true
  | _ => false
/-- an argument of a primitive: a slot is looked at -/
def argOf (p : P) : C → C
  | .var i => if partsP p then .pt i else .pk i
  | c => c
def srcP : P → Bool
  | .range1 | .range2 | .zip | .enum | .items | .values => true
  | _ => false
def opA (p : P) (as : List C) : C := if srcP p then .sq p as else match p, as with
  | .tup, as => .op p as
  | .lst, as => .op p as
  | .dct, as => .op p as
  | p, [.sq q bs] => .opS p (.sq q bs)
  | p, as => .op p (as.map (argOf p))
def srcOf (body : Nat → Bool) : C → C
  | .var i => if body i then .var i else .pt i
  | c => c
/-- built-ins by name and number of arguments -/
def bltP (x : Str) (n : Nat) : Option P :=
  if n == 1 then
    if x == "len" then some .len else if x == "repr" then some .repr else if x == "str" then some .str else if x == "int" then some .int else if x == "abs" then some .abs
    else if x == "max" then some .max else if x == "min" then some .min else if x == "sum" then some .sum else if x == "all" then some .all else if x == "any" then some .any
    else if x == "sorted" then some .sorted else if x == "list" then some .list else if x == "tuple" then some .tuple else if x == "dict" then some .dict
    else if x == "range" then some .range1 else if x == "enumerate" then some .enum else none
  else if n == 2 then
    if x == "max" then some .max2 else if x == "min" then some .min2 else if x == "range" then some .range2 else if x == "zip" then some .zip else none
  else none
def methP (x : Str) (n : Nat) : Option P :=
  if n == 0 then if x == "bit_length" then some .bits else if x == "items" then some .items else if x == "values" then some .values else none
  else if n == 1 then if x == "get" then some .get1 else if x == "index" then some .index else if x == "count" then some .count else if x == "join" then some .join else none
  else if n == 2 then if x == "get" then some .get2 else none
  else none
def methM (x : Str) (n : Nat) : Option M :=
  if x == "append" && n == 1 then some .append else if x == "insert" && n == 2 then some .insert else if x == "pop" && n == 0 then some .pop0 else if x == "pop" && n == 1 then some .pop1
  else if x == "update" && n == 1 then some .update else if x == "extend" && n == 1 then some .extend else none
def tyName : Expr → Option String
  | .Name x _ => if x == "int" then some "int" else if x == "bool" then some "bool" else if x == "str" then some "str" else if x == "list" then some "list" else if x == "tuple" then some "tuple" else if x == "dict" then some "dict" else none
  | _ => none
def permOf (ps ks : List Str) (n : Nat) : Option (List Nat) :=
  mapO (fun i => if i < n then some i else match ps[i]? with | some p => (ks.findIdx? (· == p)).map (· + n) | none => none) (List.range ps.length)
def argIo : Bool → C → Option C
  | true, .var i => some (.io i)
  | true, c => some (.iot c)
  | false, c => some c
def ioArgs : List (Bool × C) → Option (List C)
  | [] => some []
  | (m, c) :: r => match argIo m c, ioArgs r with | some a, some l => some (a :: l) | _, _ => none

def compT (n : Nat) (N : List Str) (sc : Scope) : Expr → Option T := match n with
  | 0 => fun _ => none
  | n + 1 => fun e => match e with
    | .Name x _ => if locB sc x then (ixOf N x).map .nm else none
    | .Tuple es _ _ => (mapO (compT n N sc) es).map .tp
    | _ => none
def dictC : List (Option C) → List C → Option (List C)
  | [], [] => some []
  | some k :: ks, v :: vs => (dictC ks vs).map fun r => k :: v :: r
  | _, _ => none
def ownOf (N : List Str) (scope : Scope) : List Nat := scope.names.filterMap fun y => if kindIs .local (some y.2) || kindIs .cell (some y.2) then ixOf N y.1 else none

def comp : Nat → Cc → Expr → Option C
  | 0, _, _ => none
  | n + 1, E, e => match e with
    | .Constant .none _ _ => some (.lit .none)
    | .Constant (.bool b) _ _ => some (.lit (.bool b))
    | .Constant (.int i) _ _ => some (.lit (.int i))
    | .Constant (.str x) _ _ => some (.lit (.str x))
    | .Name x _ => match slotOf E x with
      | some i => some (.var i)
      | none => if glB E.sc x then (E.sig.cons.lookup x).map .con else none
    | .BinOp a op b _ => match binP op, comp n E a, comp n E b with | some p, some ca, some cb => some (opA p [ca, cb]) | _, _, _ => none
    | .UnaryOp .USub a _ => (comp n E a).map fun c => opA .neg [c]
    | .UnaryOp .Not a _ => (comp n E a).map fun c => .not_ (match c with | .var i => opA .truth [.var i] | c => c)
    | .BoolOp op es _ => match mapO (comp n E) es with
      | some cs => (let rec go : List C → Option C
        | [] => none
        | [c] => some c
        | c :: r => (go r).map fun d => match op with | .And => .and_ (tst c) d | .Or => .or_ (tst c) d
        go cs)
      | none => none
    | .IfExp c a b _ => match comp n E c, comp n E a, comp n E b with | some x, some y, some z => some (.ite (tst x) y z) | _, _, _ => none
    | .Compare a [.Is] [b] _ => match isP false b, comp n E a with | some p, some c => some (opA p [c]) | _, _ => none
    | .Compare a [.IsNot] [b] _ => match isP true b, comp n E a with | some p, some c => some (opA p [c]) | _, _ => none
    | .Compare a [op] [b] _ => match cmpP op, comp n E a, comp n E b with | some p, some x, some y => some (opA p [x, y]) | _, _, _ => none
    | .Compare a [op, op'] [b, c] _ => match cmpP op, cmpP op', comp n E a, comp n E b, comp n E c with | some p, some q, some x, some y, some z => some (.chain p q x y z) | _, _, _, _, _ => none
    | .Tuple es _ _ => (mapO (comp n E) es).map (opA .tup)
    | .List es _ => (mapO (comp n E) es).map (opA .lst)
    | .Dict ks vs _ => match mapO (fun k => match k with | some k => (comp n E k).map some | none => none) ks, mapO (comp n E) vs with
      | some ks, some vs => (dictC ks vs).map (opA .dct)
      | _, _ => none
    | .Subscript a (.Slice none none (some (.UnaryOp .USub (.Constant (.int 1) _ _) _)) _) _ => (comp n E a).map fun c => opA .rev [c]
    | .Subscript a (.Slice lo hi none _) _ => match comp n E a, (match lo with | none => some [] | some e => (comp n E e).map ([·])), (match hi with | none => some [] | some e => (comp n E e).map ([·])) with
      | some c, some l, some h => some (opA (.slc (!l.isEmpty) (!h.isEmpty)) (c :: (l ++ h)))
      | _, _, _ => none
    | .Subscript _ (.Slice ..) _ => none
    | .Subscript a i _ => match comp n E a, comp n E i with | some x, some y => some (opA .idx [x, y]) | _, _ => none
    | .Call (.Name f _) as kws _ => match slotOf E f with
      | some _ => none
      | none => if !glB E.sc f then none else match E.sig.funs.lookup f with
        | some (fn, ps, modes) => match mapO (comp n E) as, mapO (fun k => match k with | ⟨some nm, e, _⟩ => (comp n E e).map fun c => (nm, c) | _ => none) kws with
          | some ca, some ck => match permOf ps (ck.map (·.1)) ca.length with
            | some pm =>
              let cs := ca ++ ck.map (·.2)
              match ioArgs ((List.range cs.length).filterMap fun j => cs[j]?.map fun c => ((modes[(pm.findIdx? (· == j)).getD 0]?).getD false, c)) with
              | some cs => if cs.length == ps.length then some (.call fn cs pm) else none
              | none => none
            | none => none
          | _, _ => none
        | none => if !kws.isEmpty then none else match as with
          | [a, t] => if f == "isinstance" then (match t with
              | .Tuple [t, u] _ _ => match tyName t, tyName u, comp n E a with | some t, some u, some c => some (opA (.isi2 t u) [c]) | _, _, _ => none
              | t => match tyName t, comp n E a with | some t, some c => some (opA (.isi t) [c]) | _, _ => none)
            else match bltP f 2, comp n E a, comp n E t with | some p, some x, some y => some (opA p [x, y]) | _, _, _ => none
          | [.Call (.Name g _) [a] [] _] => if g == "set" && glB E.sc g && (slotOf E g).isNone && (E.sig.funs.lookup g).isNone then (match (if f == "sorted" then some P.sortset else if f == "len" then some P.lenset else none), comp n E a with
              | some p, some c => some (opA p [c])
              | _, _ => none)
            else match bltP f 1, comp n E (.Call (.Name g default) [a] [] default) with | some p, some x => some (opA p [x]) | _, _ => none
          | [a] => match bltP f 1, comp n E a with | some p, some x => some (opA p [x]) | _, _ => none
          | _ => none
    | .Call (.Attribute o m _) as [] _ => match mapO (comp n E) as with
      | none => none
      | some cs => match methP m cs.length, comp n E o with
        | some p, some c => some (opA p (c :: cs))
        | none, some (.var i) => (methM m cs.length).map fun k => .mut k i cs
        | _, _ => none
    | .ListComp elt [⟨tg, it, ifs, 0⟩] scope _ =>
      let F : Cc := { E with sc := L2.relS scope E.sc }
      match comp n E it, compT n E.N F.sc tg, mapO (comp n F) ifs, comp n F elt with
      | some s, some t, some fs, some c =>
        some (.lc (srcOf (fun i => usesL i fs || usesC i c) s) t (ownOf E.N scope) (fs.map tst) c)
      | _, _, _, _ => none
    | .ListComp elt [⟨tg, it, ifs, 0⟩, ⟨tg2, it2, ifs2, 0⟩] scope _ =>
      let F : Cc := { E with sc := L2.relS scope E.sc }
      match comp n E it, compT n E.N F.sc tg, mapO (comp n F) ifs, comp n F it2, compT n E.N F.sc tg2, mapO (comp n F) ifs2, comp n F elt with
      | some s, some t, some fs, some s2, some t2, some fs2, some c =>
        some (.lc2 (srcOf (fun i => usesL i fs || usesC i c || usesC i s2 || usesL i fs2) s) t (fs.map tst) s2 t2 (fs2.map tst) (ownOf E.N scope) c)
      | _, _, _, _, _, _, _ => none
    | .DictComp k v [⟨tg, it, ifs, 0⟩] scope _ =>
      let F : Cc := { E with sc := L2.relS scope E.sc }
      match comp n E it, compT n E.N F.sc tg, mapO (comp n F) ifs, comp n F k, comp n F v with
      | some s, some t, some fs, some ck, some cv =>
        some (.dc (srcOf (fun i => usesL i fs || usesC i ck || usesC i cv) s) t (ownOf E.N scope) (fs.map tst) ck cv)
      | _, _, _, _, _ => none
    | _ => none
where
  tst : C → C
    | .var i => .op .truth [.pk i]
    | c => c
def tst : C → C := comp.tst
def uniq (c : C) : Bool := match c with | .mv _ => false | _ => true
def raiseOf : Expr → Option (Str × List Expr)
  | .Call (.Name x _) as [] _ => some (x, as)
  | _ => none
def compS : Nat → Cc → Stmt → Option S
  | 0, _, _ => none
  | n + 1, E, s => match s with
    | .Return none _ => some .retN
    | .Return (some e) _ => (comp (n + 1) E e).map fun c => .ret (match c with | .var i => .mv i | c => c)
    | .Assign [.Subscript (.Name x _) i _] v _ => match slotOf E x, comp (n + 1) E i, comp (n + 1) E v with
      | some j, some a, some b => some (.seti j a b)
      | _, _, _ => none
    | .Assign [.Tuple ts _ _] (.Tuple es _ _) _ => match mapO (compT (n + 1) E.N E.sc) ts, mapO (comp (n + 1) E) es with
      | some ts, some cs => if ts.length == cs.length then some (.asgs ts cs) else none
      | _, _ => none
    | .Assign [t] v _ => match compT (n + 1) E.N E.sc t, comp (n + 1) E v with
      | some t, some c => some (.asg t (match t, c with
        | .nm i, .op .add [.pt j, b] => if i == j && !usesC i b then .op .add [.mv i, b] else c
        | _, c => c))
      | _, _ => none
    | .AugAssign (.Name x p) op v _ => match slotOf E x, (match op with | .Add => some P.iadd | .Sub => some P.isub | _ => none), comp (n + 1) E v with
      | some i, some p, some c => some (.asg (.nm i) (opA p [.var i, c]))
      | _, _, _ => none
    | .Expr (.Constant (.str _) _ _) _ => some .pass
    | .Expr e _ => (comp (n + 1) E e).map .ex
    | .If c a b _ => match comp (n + 1) E c, mapO (compS n E) a, mapO (compS n E) b with
      | some c, some a, some b => some (.iff (tst c) a b)
      | _, _, _ => none
    | .For t it body [] _ => match compT (n + 1) E.N E.sc t, comp (n + 1) E it, mapO (compS n E) body with
      | some t, some s, some b => some (.for_ t (srcOf (fun i => usesSs i b) s) b)
      | _, _, _ => none
    | .While c body [] _ => match comp (n + 1) E c, mapO (compS n E) body with
      | some c, some b => some (.while_ (tst c) b)
      | _, _ => none
    | .Pass _ => some .pass
    | .Break _ => some .brk
    | .Continue _ => some .cont
    | .Raise (some e) none _ => match raiseOf e with
      | some (x, as) => (mapO (comp (n + 1) E) as).map fun cs => .raise (String.ofList (x.cps.toList.map Char.ofNat)) cs
      | none => none
    | _ => none

/-! names -/
def scopesE : Nat → Expr → List Scope
  | 0, _ => []
  | n + 1, e =>
    let R := scopesE n
    match e with
    | .BoolOp _ es _ => es.flatMap R
    | .BinOp a _ b _ => R a ++ R b
    | .UnaryOp _ a _ => R a
    | .IfExp a b c _ => R a ++ R b ++ R c
    | .Dict ks vs _ => ks.flatMap (fun k => match k with | some k => R k | none => []) ++ vs.flatMap R
    | .ListComp e gs sc _ => sc :: (R e ++ gs.flatMap fun g => R g.iter ++ g.ifs.flatMap R)
    | .DictComp k v gs sc _ => sc :: (R k ++ R v ++ gs.flatMap fun g => R g.iter ++ g.ifs.flatMap R)
    | .Compare a _ bs _ => R a ++ bs.flatMap R
    | .Call f as ks _ => R f ++ as.flatMap R ++ ks.flatMap fun k => R k.value
    | .Attribute a _ _ => R a
    | .Subscript a b _ => R a ++ R b
    | .List es _ => es.flatMap R
    | .Tuple es _ _ => es.flatMap R
    | .Slice a b c _ => (a.map R).getD [] ++ (b.map R).getD [] ++ (c.map R).getD []
    | _ => []
def scopesS : Nat → Stmt → List Scope
  | 0, _ => []
  | n + 1, s =>
    let R := scopesE n
    match s with
    | .Return (some e) _ => R e
    | .Assign ts e _ => ts.flatMap R ++ R e
    | .AugAssign t _ e _ => R t ++ R e
    | .For t e b _ _ => R t ++ R e ++ b.flatMap (scopesS n)
    | .While e b _ _ => R e ++ b.flatMap (scopesS n)
    | .If e a b _ => R e ++ a.flatMap (scopesS n) ++ b.flatMap (scopesS n)
    | .Expr e _ => R e
    | .Raise (some e) _ _ => R e
    | _ => []
def namesOf (sc : Scope) : List Str := sc.names.filterMap fun y => if kindIs .local (some y.2) || kindIs .cell (some y.2) then some y.1 else none
def dedup : List Str → List Str → List Str
  | acc, [] => acc.reverse
  | acc, x :: xs => dedup (if acc.contains x then acc else x :: acc) xs
def allNames (params : List Str) (sc : Scope) (body : List Stmt) : List Str := dedup [] (params ++ namesOf sc ++ (body.flatMap (scopesS 60)).flatMap namesOf)

structure Def where
  name : String
  N : List Str
  ps : List Str
  modes : List Bool
  body : Option (List S)
def sOf (x : Str) : String := String.ofList (x.cps.toList.map Char.ofNat)
def defsOf (ioNames : List Str) (body : List Stmt) : Sig × List Def :=
  let fs := body.filterMap fun s => match s with | .FunctionDef nm as _ _ _ _ _ _ _ _ => some (nm, sOf nm, as.args.map (·.arg), as.args.map fun a => ioNames.contains a.arg) | _ => none
  let cs := body.filterMap fun s => match s with | .Assign [.Name x _] _ _ => some (x, sOf x) | _ => none
  let sig : Sig := ⟨fs, cs⟩
  (sig, body.filterMap fun s => match s with
    | .FunctionDef nm as b _ _ _ sc _ _ _ =>
      let ps := as.args.map (·.arg)
      let N := allNames ps sc b
      some ⟨sOf nm, N, ps, ps.map (ioNames.contains ·), mapO (compS 40 ⟨sig, N, sc⟩) b⟩
    | _ => none)
/-- for trying out: every def by its body -/
def globOf (cons : List (String × D)) (ds : List Def) (fuel : Nat) : Nat → Glob
  | 0 => ⟨fun x => cons.lookup x, fun _ => none⟩
  | n + 1 => ⟨fun x => cons.lookup x, fun f => (ds.find? fun d => d.name == f).bind fun d => d.body.map fun b => ⟨d.modes, fun args => runBody (globOf cons ds fuel n) d.modes d.N.length fuel b args⟩⟩
def consOf (sig : Sig) (body : List Stmt) : List (String × D) :=
  body.foldl (fun acc s => match s with
    | .Assign [.Name x _] e _ => match (comp 40 ⟨sig, [], ⟨.module, [(x, .globalImplicit)] ++ sig.cons.map (fun p => (p.1, .globalImplicit)), false, false, []⟩⟩ e) with
      | some c => (match evE ⟨fun y => acc.lookup y, fun _ => none⟩ c [] with | .ok r => (sOf x, r.1) :: acc | _ => acc)
      | none => acc
    | _ => acc) []
def runLaw (body : List Stmt) (script : List Int) (io : List Str := ["generator"]) : String :=
  let (sig, ds) := defsOf io body
  let cons := consOf sig body
  let bad := ds.filter fun d => d.body.isNone
  if !bad.isEmpty then "NOT COMPILED: " ++ toString (bad.map (·.name)) else
  match (globOf cons ds 100000 200).fn "law" with
  | none => "no law"
  | some F => match F.sem [.list (script.map .int)] with
    | Res.ok (d, _, _) => "ok " ++ sOf d.shown
    | Res.exc c d => "raise " ++ sOf c
    | Res.stk w => "STUCK " ++ w
end TH
end
section
set_option Elab.async false
set_option linter.all false
set_option maxRecDepth 100000
namespace TH
open PySem PySem.Spec PyProof.Rows L2

/-! how a value stands for a tree -/
def isObj (a : Addr) (o : Obj) : Heap → Prop := fun h => h.get? a = some o
abbrev dO (es : Array DictEntry) (ep : Nat) : Obj := { cls := .type "dict", data := .dict es ep }
theorem hashable_imm {d : D} (h : hashable d = true) : imm d = true := by
  unfold hashable at h
  exact (Bool.and_eq_true_iff.mp h).1
theorem hashable_depth {d : D} (h : hashable d = true) : (nk d).depth ≤ 8 := by
  unfold hashable at h
  exact of_decide_eq_true (Bool.and_eq_true_iff.mp h).2
def Distinct (kvs : List (D × D)) : Prop := kvs.Pairwise fun p q => eqD p.1 q.1 = false
/-- a locked list, or one of the module's -/
def SqF (K : PySem.W.Frag) (H : Hp) (a : Addr) (xs : List V) : Prop :=
  (∃ o, H a = some (.frz o (.lst xs))) ∨
    ∃ (o : Obj) (its : Array Value) (n : Nat), K.lookup a = some o ∧ o.cls = .type "list" ∧ o.dict = none ∧ o.data = .seq its n ∧ its.size ≤ sizeLine ∧ Vals xs its.toList
theorem SqF.sql {K : PySem.W.Frag} {H : Hp} {a : Addr} {xs : List V} (h : SqF K H a xs) : SqL K H a xs := h.elim (fun ⟨o, e⟩ => .inl (.inr ⟨o, e⟩)) .inr

section
variable (w : World) (K : PySem.W.Frag) (H : Hp) (c : Bool)
mutual
/-- c: locked lists and the module's lists and dicts may be within -/
inductive DRep : V → D → List Addr → Prop
  | none : DRep .non .none []
  | bool (b : Bool) : DRep (.bl b) (.bool b) []
  | int (i : Int) : DRep (.int i) (.int i) []
  | str (x : Str) (h : x.length ≤ sizeLine) : DRep (.str x) (.str x) []
  | list {a vs ds as} : H a = some (.lst vs) → DAll vs ds as → DRep (.ref a) (.list ds) (a :: as)
  | listF {a vs ds as} : c = true → SqF K H a vs → DAll vs ds as → DRep (.ref a) (.list ds) as
  | tup {a vs ds as} : SqT K H a vs → DAll vs ds as → DRep (.ref a) (.tuple ds) as
  | dict {a es ep kvs as} : H a = some (.ext (isObj a (dO es ep))) → a ≠ sysModules → es.size ≤ sizeLine → DEnts es.toList kvs as → Distinct kvs → DRep (.ref a) (.dict kvs) (a :: as)
  | dictF {a o es ep kvs as} : c = true → K.lookup a = some o → o.ExactDict → o.data = .dict es ep → a ≠ sysModules → es.size ≤ sizeLine → DEnts es.toList kvs as → Distinct kvs → DRep (.ref a) (.dict kvs) as
inductive DAll : List V → List D → List Addr → Prop
  | nil : DAll [] [] []
  | cons {v vs d ds as bs} : DRep v d as → DAll vs ds bs → DAll (v :: vs) (d :: ds) (as ++ bs)
inductive DEnts : List DictEntry → List (D × D) → List Addr → Prop
  | nil : DEnts [] [] []
  | cons {e es k d kv vv as bs kvs} : RelV kv e.key → DRep kv k [] → hashable k = true → e.hash = (nk k).hash w → RelV vv e.val → DRep vv d as → DEnts es kvs bs → DEnts (e :: es) ((k, d) :: kvs) (as ++ bs)
end
end

/-- what may be changed -/
def OwnA (H : Hp) (a : Addr) : Prop := (∃ vs, H a = some (.lst vs)) ∨ ∃ o, H a = some (.ext (isObj a o))
def Off (as bs : List Addr) : Prop := ∀ a ∈ as, a ∉ bs

section
variable {w : World} {K : PySem.W.Frag} {H H' : Hp} {c : Bool}
theorem OwnA.not_tup {a : Addr} {xs : List V} (h : OwnA H a) (e : H a = some (.tup xs)) : False := by
  rcases h with ⟨vs, q⟩ | ⟨o, q⟩ <;> rw [q] at e <;> cases e
theorem OwnA.not_frz {a : Addr} {o : Obj} {u : HO} (h : OwnA H a) (e : H a = some (.frz o u)) : False := by
  rcases h with ⟨vs, q⟩ | ⟨o', q⟩ <;> rw [q] at e <;> cases e
theorem OwnA.some {a : Addr} (h : OwnA H a) : H a ≠ none := by
  rcases h with ⟨vs, q⟩ | ⟨o', q⟩ <;> rw [q] <;> simp
theorem OwnA.mut {a : Addr} (h : OwnA H a) : Mut (H a) := by
  rcases h with ⟨vs, q⟩ | ⟨o', q⟩ <;> rw [q] <;> trivial

mutual
/-- the addresses of a tree are there, and may be changed -/
theorem DRep.own : ∀ {v : V} {d : D} {as : List Addr}, DRep w K H c v d as → ∀ a ∈ as, OwnA H a
  | _, _, _, .none, a, h => by simp at h
  | _, _, _, .bool _, a, h => by simp at h
  | _, _, _, .int _, a, h => by simp at h
  | _, _, _, .str _ _, a, h => by simp at h
  | _, _, _, .list e r, a, h => by
    rcases List.mem_cons.mp h with rfl | h
    · exact .inl ⟨_, e⟩
    · exact r.own a h
  | _, _, _, .listF _ e r, a, h => r.own a h
  | _, _, _, .tup e r, a, h => r.own a h
  | _, _, _, .dict e _ _ r _, a, h => by
    rcases List.mem_cons.mp h with rfl | h
    · exact .inr ⟨_, e⟩
    · exact r.own a h
  | _, _, _, .dictF _ _ _ _ _ _ r _, a, h => r.own a h
theorem DAll.own : ∀ {vs : List V} {ds : List D} {as : List Addr}, DAll w K H c vs ds as → ∀ a ∈ as, OwnA H a
  | _, _, _, .nil, a, h => by simp at h
  | _, _, _, .cons r rs, a, h => (List.mem_append.mp h).elim (r.own a) (rs.own a)
theorem DEnts.own : ∀ {es : List DictEntry} {kvs : List (D × D)} {as : List Addr}, DEnts w K H c es kvs as → ∀ a ∈ as, OwnA H a
  | _, _, _, .nil, a, h => by simp at h
  | _, _, _, .cons _ _ _ _ _ r rs, a, h => (List.mem_append.mp h).elim (r.own a) (rs.own a)
end

/-- the heap has changed at S alone -/
def KeepBut (S : List Addr) (H H' : Hp) : Prop := ∀ a o, H a = some o → a ∉ S → H' a = some o
theorem KeepBut.refl {S : List Addr} : KeepBut S H H := fun _ _ e _ => e
theorem KeepBut.trans {S : List Addr} {H1 H2 H3 : Hp} (a : KeepBut S H1 H2) (b : KeepBut S H2 H3) : KeepBut S H1 H3 := fun x o e n => b x o (a x o e n) n
theorem KeepBut.mono {S T : List Addr} (k : KeepBut S H H') (h : ∀ a ∈ S, a ∈ T) : KeepBut T H H' := fun a o e n => k a o e fun z => n (h a z)
theorem KeepBut.new {S : List Addr} {p : Addr} {o : HO} (h : H p = none) : KeepBut S H (upd H p o) := fun a x e _ => by rw [upd_ne (ne_of_none e h)]; exact e
theorem KeepBut.at {p : Addr} {o : HO} : KeepBut [p] H (upd H p o) := fun a x e n => by rw [upd_ne (by simpa using n)]; exact e
theorem SqT.keep {S : List Addr} {a : Addr} {xs : List V} (h : SqT K H a xs) (k : KeepBut S H H') (o : ∀ x ∈ S, OwnA H x) : SqT K H' a xs := by
  rcases h with (h | ⟨u, h⟩) | h
  · exact .inl (.inl (k a _ h fun z => (o a z).not_tup h))
  · exact .inl (.inr ⟨u, k a _ h fun z => (o a z).not_frz h⟩)
  · exact .inr h
theorem SqF.keep {S : List Addr} {a : Addr} {xs : List V} (h : SqF K H a xs) (k : KeepBut S H H') (o : ∀ x ∈ S, OwnA H x) : SqF K H' a xs := by
  rcases h with ⟨u, h⟩ | h
  · exact .inl ⟨u, k a _ h fun z => (o a z).not_frz h⟩
  · exact .inr h
mutual
theorem DRep.keep {S : List Addr} (k : KeepBut S H H') (o : ∀ x ∈ S, OwnA H x) : ∀ {v : V} {d : D} {as : List Addr}, DRep w K H c v d as → Off as S → DRep w K H' c v d as
  | _, _, _, .none, _ => .none
  | _, _, _, .bool b, _ => .bool b
  | _, _, _, .int i, _ => .int i
  | _, _, _, .str x hx, _ => .str x hx
  | _, _, _, .list e r, n => .list (k _ _ e (n _ (.head _))) (DAll.keep k o r fun a h => n a (.tail _ h))
  | _, _, _, .listF q e r, n => .listF q (SqF.keep e k o) (DAll.keep k o r n)
  | _, _, _, .tup e r, n => .tup (SqT.keep e k o) (DAll.keep k o r n)
  | _, _, _, .dict e h1 h2 r h3, n => .dict (k _ _ e (n _ (.head _))) h1 h2 (DEnts.keep k o r fun a h => n a (.tail _ h)) h3
  | _, _, _, .dictF q e c' d h1 h2 r h3, n => .dictF q e c' d h1 h2 (DEnts.keep k o r n) h3
theorem DAll.keep {S : List Addr} (k : KeepBut S H H') (o : ∀ x ∈ S, OwnA H x) : ∀ {vs : List V} {ds : List D} {as : List Addr}, DAll w K H c vs ds as → Off as S → DAll w K H' c vs ds as
  | _, _, _, .nil, _ => .nil
  | _, _, _, .cons r rs, n => .cons (DRep.keep k o r fun a h => n a (List.mem_append_left _ h)) (DAll.keep k o rs fun a h => n a (List.mem_append_right _ h))
theorem DEnts.keep {S : List Addr} (k : KeepBut S H H') (o : ∀ x ∈ S, OwnA H x) : ∀ {es : List DictEntry} {kvs : List (D × D)} {as : List Addr}, DEnts w K H c es kvs as → Off as S → DEnts w K H' c es kvs as
  | _, _, _, .nil, _ => .nil
  | _, _, _, .cons h1 r1 h2 h3 h4 r rs, n => .cons h1 (DRep.keep k o r1 fun a h => by simp at h) h2 h3 h4 (DRep.keep k o r fun a h => n a (List.mem_append_left _ h)) (DEnts.keep k o rs fun a h => n a (List.mem_append_right _ h))
end
theorem DAll.length : ∀ {vs : List V} {ds : List D} {as : List Addr}, DAll w K H c vs ds as → vs.length = ds.length
  | _, _, _, .nil => rfl
  | _, _, _, .cons _ rs => by simp [rs.length]
theorem DEnts.length : ∀ {es : List DictEntry} {kvs : List (D × D)} {as : List Addr}, DEnts w K H c es kvs as → es.length = kvs.length
  | _, _, _, .nil => rfl
  | _, _, _, .cons _ _ _ _ _ _ rs => by simp [rs.length]
theorem DAll.get : ∀ {vs : List V} {ds : List D} {as : List Addr} {i : Nat} {d : D}, DAll w K H c vs ds as → ds[i]? = some d → ∃ v bs, vs[i]? = some v ∧ DRep w K H c v d bs ∧ ∀ a ∈ bs, a ∈ as
  | _, _, _, _, _, .nil, e => by simp at e
  | _, _, _, 0, _, .cons r rs, e => by
    simp at e; subst e
    exact ⟨_, _, rfl, r, fun a h => List.mem_append_left _ h⟩
  | _, _, _, i + 1, _, .cons r rs, e => by
    obtain ⟨v, bs, h1, h2, h3⟩ := rs.get (i := i) (by simpa using e)
    exact ⟨v, bs, by simpa using h1, h2, fun a h => List.mem_append_right _ (h3 a h)⟩
theorem DAll.append : ∀ {vs us : List V} {ds es : List D} {as bs : List Addr}, DAll w K H c vs ds as → DAll w K H c us es bs → DAll w K H c (vs ++ us) (ds ++ es) (as ++ bs)
  | _, _, _, _, _, _, .nil, s => s
  | _, _, _, _, _, _, .cons r rs, s => by rw [List.append_assoc]; exact .cons r (rs.append s)
theorem DAll.split : ∀ {vs : List V} {d1 d2 : List D} {as : List Addr}, DAll w K H c vs (d1 ++ d2) as → ∃ v1 v2 a1 a2, vs = v1 ++ v2 ∧ as = a1 ++ a2 ∧ DAll w K H c v1 d1 a1 ∧ DAll w K H c v2 d2 a2
  | vs, [], d2, as, h => ⟨[], vs, [], as, rfl, rfl, .nil, h⟩
  | _, d :: d1, d2, _, .cons r rs => by
    obtain ⟨v1, v2, a1, a2, e1, e2, r1, r2⟩ := rs.split
    exact ⟨_ :: v1, v2, _ ++ a1, a2, by rw [e1]; rfl, by rw [e2, List.append_assoc], .cons r r1, r2⟩
/-- some of the items, in any order, with repetition: their addresses are among -/
def Sub (vs : List V) (ds : List D) (as : List Addr) (w : World) (K : PySem.W.Frag) (H : Hp) (c : Bool) : Prop := ∃ bs, DAll w K H c vs ds bs ∧ ∀ a ∈ bs, a ∈ as
theorem DAll.sub {vs : List V} {ds : List D} {as : List Addr} (h : DAll w K H c vs ds as) : Sub vs ds as w K H c := ⟨as, h, fun _ x => x⟩
theorem DAll.take {vs : List V} {ds : List D} {as : List Addr} (h : DAll w K H c vs ds as) (n : Nat) : ∃ bs, DAll w K H c (vs.take n) (ds.take n) bs ∧ ∀ a ∈ bs, a ∈ as := by
  induction n generalizing vs ds as with
  | zero => exact ⟨[], .nil, by simp⟩
  | succ n ih =>
    cases h with
    | nil => exact ⟨[], .nil, by simp⟩
    | cons r rs =>
      obtain ⟨bs, h1, h2⟩ := ih rs
      refine ⟨_ ++ bs, .cons r h1, fun a h => ?_⟩
      rcases List.mem_append.mp h with h | h
      · exact List.mem_append_left _ h
      · exact List.mem_append_right _ (h2 a h)
theorem DAll.drop {vs : List V} {ds : List D} {as : List Addr} (h : DAll w K H c vs ds as) (n : Nat) : ∃ bs, DAll w K H c (vs.drop n) (ds.drop n) bs ∧ ∀ a ∈ bs, a ∈ as := by
  induction n generalizing vs ds as with
  | zero => exact ⟨as, h, fun _ x => x⟩
  | succ n ih =>
    cases h with
    | nil => exact ⟨[], .nil, by simp⟩
    | cons r rs =>
      obtain ⟨bs, h1, h2⟩ := ih rs
      exact ⟨bs, h1, fun a h => List.mem_append_right _ (h2 a h)⟩
mutual
theorem DRep.all : ∀ {v : V} {d : D} {as : List Addr}, DRep w K H c v d as → DRep w K H true v d as
  | _, _, _, .none => .none
  | _, _, _, .bool b => .bool b
  | _, _, _, .int i => .int i
  | _, _, _, .str x hx => .str x hx
  | _, _, _, .list e r => .list e (DAll.all r)
  | _, _, _, .listF _ e r => .listF rfl e (DAll.all r)
  | _, _, _, .tup e r => .tup e (DAll.all r)
  | _, _, _, .dict e h1 h2 r h3 => .dict e h1 h2 (DEnts.all r) h3
  | _, _, _, .dictF _ e q d h1 h2 r h3 => .dictF rfl e q d h1 h2 (DEnts.all r) h3
theorem DAll.all : ∀ {vs : List V} {ds : List D} {as : List Addr}, DAll w K H c vs ds as → DAll w K H true vs ds as
  | _, _, _, .nil => .nil
  | _, _, _, .cons r rs => .cons r.all rs.all
theorem DEnts.all : ∀ {es : List DictEntry} {kvs : List (D × D)} {as : List Addr}, DEnts w K H c es kvs as → DEnts w K H true es kvs as
  | _, _, _, .nil => .nil
  | _, _, _, .cons h1 r1 h2 h3 h4 r rs => .cons h1 r1.all h2 h3 h4 r.all rs.all
end
mutual
/-- what has no list and no dict within is there in either way -/
theorem DRep.imm_any : ∀ {v : V} {d : D} {as : List Addr} (c' : Bool), DRep w K H c v d as → imm d = true → DRep w K H c' v d as
  | _, _, _, _, .none, _ => .none
  | _, _, _, _, .bool b, _ => .bool b
  | _, _, _, _, .int i, _ => .int i
  | _, _, _, _, .str x hx, _ => .str x hx
  | _, _, _, _, .list _ _, h => by simp [imm] at h
  | _, _, _, _, .listF _ _ _, h => by simp [imm] at h
  | _, _, _, c', .tup e r, h => .tup e (DAll.imm_any c' r (by simpa [imm] using h))
  | _, _, _, _, .dict _ _ _ _ _, h => by simp [imm] at h
  | _, _, _, _, .dictF _ _ _ _ _ _ _ _, h => by simp [imm] at h
theorem DAll.imm_any : ∀ {vs : List V} {ds : List D} {as : List Addr} (c' : Bool), DAll w K H c vs ds as → immL ds = true → DAll w K H c' vs ds as
  | _, _, _, _, .nil, _ => .nil
  | _, _, _, c', .cons r rs, h => by
    simp [immL] at h
    exact .cons (r.imm_any c' h.1) (rs.imm_any c' h.2)
end
mutual
/-- no list, no dict within: no address -/
theorem DRep.imm_nil : ∀ {v : V} {d : D} {as : List Addr}, DRep w K H c v d as → imm d = true → as = []
  | _, _, _, .none, _ => rfl
  | _, _, _, .bool _, _ => rfl
  | _, _, _, .int _, _ => rfl
  | _, _, _, .str _ _, _ => rfl
  | _, _, _, .list _ _, h => by simp [imm] at h
  | _, _, _, .listF _ _ _, h => by simp [imm] at h
  | _, _, _, .tup _ r, h => r.imm_nil (by simpa [imm] using h)
  | _, _, _, .dict _ _ _ _ _, h => by simp [imm] at h
  | _, _, _, .dictF _ _ _ _ _ _ _ _, h => by simp [imm] at h
theorem DAll.imm_nil : ∀ {vs : List V} {ds : List D} {as : List Addr}, DAll w K H c vs ds as → immL ds = true → as = []
  | _, _, _, .nil, _ => rfl
  | _, _, _, .cons r rs, h => by
    simp [immL] at h
    rw [r.imm_nil h.1, rs.imm_nil h.2]
    rfl
end
theorem DEnts.imm_nil : ∀ {es : List DictEntry} {kvs : List (D × D)} {as : List Addr}, DEnts w K H c es kvs as → immL (kvs.map (·.2)) = true → as = []
  | _, _, _, .nil, _ => rfl
  | _, _, _, .cons _ _ _ _ _ r rs, h => by
    simp [immL] at h
    rw [r.imm_nil h.1, rs.imm_nil h.2]
    rfl

theorem DEnts.imm_any : ∀ {es : List DictEntry} {kvs : List (D × D)} {as : List Addr} (c' : Bool), DEnts w K H c es kvs as → immL (kvs.map (·.2)) = true → DEnts w K H c' es kvs as
  | _, _, _, _, .nil, _ => .nil
  | _, _, _, c', .cons h1 r1 h2 h3 h4 r rs, h => by
    simp [immL] at h
    exact .cons h1 (r1.imm_any c' (hashable_imm h2)) h2 h3 h4 (r.imm_any c' h.1) (rs.imm_any c' (by simpa using h.2))

/-- a list or a dict that may be changed at its top -/
def TRep (w : World) (K : PySem.W.Frag) (H : Hp) (v : V) (d : D) (as : List Addr) : Prop := ∃ a as', v = .ref a ∧ as = a :: as' ∧ a ∉ as' ∧
  ((∃ vs ds, d = .list ds ∧ H a = some (.lst vs) ∧ DAll w K H true vs ds as') ∨
    ∃ es ep kvs, d = .dict kvs ∧ H a = some (.ext (isObj a (dO es ep))) ∧ a ≠ sysModules ∧ es.size ≤ sizeLine ∧ DEnts w K H true es.toList kvs as' ∧ Distinct kvs)
theorem TRep.rep {v : V} {d : D} {as : List Addr} (h : TRep w K H v d as) : DRep w K H true v d as := by
  obtain ⟨a, as', rfl, rfl, _, h | h⟩ := h
  · obtain ⟨vs, ds, rfl, e, r⟩ := h
    exact .list e r
  · obtain ⟨es, ep, kvs, rfl, e, h1, h2, r, h3⟩ := h
    exact .dict e h1 h2 r h3
theorem TRep.own {v : V} {d : D} {as : List Addr} (h : TRep w K H v d as) : ∃ a as', v = .ref a ∧ as = a :: as' ∧ a ∉ as' ∧ OwnA H a := by
  obtain ⟨a, as', e1, e2, n, h | h⟩ := h
  · obtain ⟨vs, ds, _, e, r⟩ := h
    exact ⟨a, as', e1, e2, n, .inl ⟨_, e⟩⟩
  · obtain ⟨es, ep, kvs, _, e, _⟩ := h
    exact ⟨a, as', e1, e2, n, .inr ⟨_, e⟩⟩
theorem TRep.keep {S : List Addr} (k : KeepBut S H H') (o : ∀ x ∈ S, OwnA H x) {v : V} {d : D} {as : List Addr} (h : TRep w K H v d as) (n : Off as S) : TRep w K H' v d as := by
  obtain ⟨a, as', rfl, rfl, na, h | h⟩ := h
  · obtain ⟨vs, ds, rfl, e, r⟩ := h
    exact ⟨a, as', rfl, rfl, na, .inl ⟨vs, ds, rfl, k _ _ e (n _ (.head _)), DAll.keep k o r fun b hb => n b (.tail _ hb)⟩⟩
  · obtain ⟨es, ep, kvs, rfl, e, h1, h2, r, h3⟩ := h
    exact ⟨a, as', rfl, rfl, na, .inr ⟨es, ep, kvs, rfl, k _ _ e (n _ (.head _)), h1, h2, DEnts.keep k o r fun b hb => n b (.tail _ hb), h3⟩⟩
/-- of a wholly own one -/
theorem DRep.trep {v : V} {d : D} {as : List Addr} (r : DRep w K H false v d as) (nd : as.Nodup) (hb : ∀ x, (d ≠ .none ∧ d ≠ .bool x) → True) (hl : (∃ ds, d = .list ds) ∨ ∃ kvs, d = .dict kvs) : TRep w K H v d as := by
  cases r with
  | list e r => exact ⟨_, _, rfl, rfl, (List.nodup_cons.mp nd).1, .inl ⟨_, _, rfl, e, r.all⟩⟩
  | dict e h1 h2 r h3 => exact ⟨_, _, rfl, rfl, (List.nodup_cons.mp nd).1, .inr ⟨_, _, _, rfl, e, h1, h2, r.all, h3⟩⟩
  | listF h => cases h
  | dictF h => cases h
  | none => rcases hl with ⟨_, h⟩ | ⟨_, h⟩ <;> cases h
  | bool => rcases hl with ⟨_, h⟩ | ⟨_, h⟩ <;> cases h
  | int => rcases hl with ⟨_, h⟩ | ⟨_, h⟩ <;> cases h
  | str => rcases hl with ⟨_, h⟩ | ⟨_, h⟩ <;> cases h
  | tup => rcases hl with ⟨_, h⟩ | ⟨_, h⟩ <;> cases h

/-! the state of a body -/
/-- what stands fast while a body runs: the heap at its entry, what it may change, what is others' -/
structure Cf where
  w : World
  K : PySem.W.Frag
  He : Hp
  Lio : List Addr
  B : List Addr
  hid : Nat → Option V
  ia : V

/-- as: a thing's addresses; ow: those that are its slot's own -/
def KOwn (ia : V) (w : World) (K : PySem.W.Frag) (H : Hp) (v : V) (d : D) (as ow : List Addr) : Own → Prop
  | .sh => ow = []
  | .fr => ow = as ∧ as.Nodup
  | .top => TRep w K H v d as ∧ ∃ a, v = .ref a ∧ ow = [a]
  | .io => (TRep w K H v d as ∧ ∃ a, v = .ref a ∧ ow = [a]) ∧ v = ia
/-- a slot: its addresses, its own -/
def SlotOk (Z : Cf) (H : Hp) (as ow : List Addr) (o : Option V) : Slot → Prop
  | .un => as = [] ∧ ow = []
  | .lk => as = [] ∧ ow = []
  | .vl k d => ∃ v, o = some v ∧ DRep Z.w Z.K H (k != .fr) v d as ∧ KOwn Z.ia Z.w Z.K H v d as ow k ∧ Off as Z.B
structure OkW (Z : Cf) (σ : L2.St) (ρ : Ev) (H : Hp) (foot own : Nat → List Addr) : Prop where
  len : σ.length = ρ.length
  slot : ∀ i o s, σ[i]? = some o → ρ[i]? = some s → SlotOk Z H (foot i) (own i) o s
  nil : ∀ i : Nat, ρ.length ≤ i → foot i = [] ∧ own i = []
  sep : ∀ i j a, a ∈ foot i → a ∈ own j → i = j
  mine : ∀ i a, a ∈ own i → a ∈ foot i ∧ (a ∈ Z.Lio ∨ Z.He a = none)
  keep : KeepBut Z.Lio Z.He H
  io : ∀ a ∈ Z.Lio, OwnA H a
  oth : ∀ b ∈ Z.B, Z.He b ≠ none ∧ b ∉ Z.Lio
  lk : ∀ i : Nat, ρ[i]? = some .lk → σ[i]? = some (Z.hid i)
def Ok (Z : Cf) (σ : L2.St) (ρ : Ev) (H : Hp) : Prop := ∃ foot own, OkW Z σ ρ H foot own
end
end TH
end
section
set_option Elab.async false
set_option linter.all false
set_option maxRecDepth 100000
namespace TH
open PySem PySem.Spec PyProof.Rows L2

theorem get_of_snoc {α : Type} {l : List α} {x y : α} {i : Nat} (h : (l ++ [x])[i]? = some y) : (i < l.length ∧ l[i]? = some y) ∨ (i = l.length ∧ y = x) := by
  rcases Nat.lt_trichotomy i l.length with q | q | q
  · exact .inl ⟨q, by rw [List.getElem?_append_left q] at h; exact h⟩
  · subst q; simp at h; exact .inr ⟨rfl, h.symm⟩
  · rw [List.getElem?_append_right (Nat.le_of_lt q)] at h
    obtain ⟨k, hk⟩ : ∃ k, i - l.length = k + 1 := ⟨i - l.length - 1, by omega⟩
    rw [hk] at h; simp at h
theorem lt_of_get {α : Type} {l : List α} {y : α} {i : Nat} (h : l[i]? = some y) : i < l.length := (List.getElem?_eq_some_iff.mp h).1
theorem OwnA.keep {H H' : Hp} {a : Addr} {S : List Addr} (h : OwnA H a) (k : KeepBut S H H') (n : a ∉ S) : OwnA H' a :=
  h.elim (fun ⟨vs, z⟩ => .inl ⟨vs, k _ _ z n⟩) fun ⟨x, z⟩ => .inr ⟨x, k _ _ z n⟩
theorem KOwn.keep {ia : V} {w : World} {K : PySem.W.Frag} {H H' : Hp} {v : V} {d : D} {as ow S : List Addr} {k : Own} (h : KOwn ia w K H v d as ow k) (kp : KeepBut S H H') (hS : ∀ x ∈ S, OwnA H x) (n : Off as S) : KOwn ia w K H' v d as ow k := by
  cases k with
  | sh => exact h
  | fr => exact h
  | top => exact ⟨h.1.keep kp hS n, h.2⟩
  | io => exact ⟨⟨h.1.1.keep kp hS n, h.1.2⟩, h.2⟩
theorem KOwn.five {w : World} {K : PySem.W.Frag} {H : Hp} {v : V} {d : D} {as ow : List Addr} (h : TRep w K H v d as ∧ ∃ a, v = .ref a ∧ ow = [a]) : ∃ a as', v = .ref a ∧ as = a :: as' ∧ a ∉ as' ∧ ow = [a] ∧ OwnA H a := by
  obtain ⟨t, b, e, ew⟩ := h
  obtain ⟨a, as', e1, e2, n, o⟩ := t.own
  rw [e] at e1; cases e1
  exact ⟨b, as', e, e2, n, ew, o⟩

section
variable {Z : Cf} {σ : L2.St} {ρ : Ev} {H H' : Hp} {foot own : Nat → List Addr}

theorem getS_at {i : Nat} {k : Own} {d : D} (h : getS ρ i = .vl k d) : ρ[i]? = some (.vl k d) := by
  unfold getS at h
  cases e : ρ[i]? with
  | none => rw [e] at h; cases h
  | some s => rw [e] at h; exact congrArg some h
theorem OkW.at (o : OkW Z σ ρ H foot own) {i : Nat} {k : Own} {d : D} (h : ρ[i]? = some (.vl k d)) :
    ∃ v, σ[i]? = some (some v) ∧ DRep Z.w Z.K H (k != .fr) v d (foot i) ∧ KOwn Z.ia Z.w Z.K H v d (foot i) (own i) k ∧ Off (foot i) Z.B := by
  have hi := lt_of_get h
  have hs : i < σ.length := by rw [o.len]; exact hi
  obtain ⟨v, e, r⟩ := o.slot i _ _ (List.getElem?_eq_getElem hs) h
  exact ⟨v, by rw [List.getElem?_eq_getElem hs, e], r⟩
/-- the addresses of a slot may be changed things -/
theorem OkW.footOwn (o : OkW Z σ ρ H foot own) {i : Nat} {a : Addr} (h : a ∈ foot i) : OwnA H a := by
  by_cases hi : i < ρ.length
  · have hs : i < σ.length := by rw [o.len]; exact hi
    have z := o.slot i _ _ (List.getElem?_eq_getElem hs) (List.getElem?_eq_getElem hi)
    cases e : ρ[i] with
    | un => rw [e] at z; rw [z.1] at h; simp at h
    | lk => rw [e] at z; rw [z.1] at h; simp at h
    | vl k d =>
      rw [e] at z
      obtain ⟨v, _, r, _⟩ := z
      exact r.own a h
  · rw [(o.nil i (by omega)).1] at h; simp at h
theorem OkW.ownB (o : OkW Z σ ρ H foot own) {i : Nat} {a : Addr} (h : a ∈ own i) : a ∉ Z.B := by
  have hf := (o.mine i a h).1
  by_cases hi : i < ρ.length
  · have hs : i < σ.length := by rw [o.len]; exact hi
    have z := o.slot i _ _ (List.getElem?_eq_getElem hs) (List.getElem?_eq_getElem hi)
    cases e : ρ[i] with
    | un => rw [e] at z; rw [z.1] at hf; simp at hf
    | lk => rw [e] at z; rw [z.1] at hf; simp at hf
    | vl k d =>
      rw [e] at z
      obtain ⟨v, _, r, _, b⟩ := z
      exact b a hf
  · rw [(o.nil i (by omega)).1] at hf; simp at hf
/-- another heap, changed at S, where no slot looks -/
theorem OkW.heap {S : List Addr} (o : OkW Z σ ρ H foot own) (k : KeepBut S H H') (hS : ∀ x ∈ S, OwnA H x) (n : ∀ i, Off (foot i) S) (hL : ∀ a ∈ S, a ∈ Z.Lio ∨ Z.He a = none) (hio : ∀ a ∈ Z.Lio, a ∈ S → OwnA H' a) : OkW Z σ ρ H' foot own where
  len := o.len
  slot := fun i ov s e1 e2 => by
    have h := o.slot i ov s e1 e2
    cases s with
    | un => exact h
    | lk => exact h
    | vl kk d =>
      obtain ⟨v, e, r, h1, h2⟩ := h
      exact ⟨v, e, r.keep k hS (n i), h1.keep k hS (n i), h2⟩
  nil := o.nil
  sep := o.sep
  mine := o.mine
  keep := fun a x e h => k a x (o.keep a x e h) fun z => by
    rcases hL a z with q | q
    · exact h q
    · rw [q] at e; cases e
  io := fun a h => by
    by_cases z : a ∈ S
    · exact hio a h z
    · exact (o.io a h).keep k z
  oth := o.oth
  lk := o.lk
theorem OkW.notB (o : OkW Z σ ρ H foot own) {p : Addr} (h : H p = none) : p ∉ Z.B := fun z => by
  obtain ⟨h1, h2⟩ := o.oth p z
  cases q : Z.He p with
  | none => exact h1 q
  | some y => have := o.keep p y q h2; rw [h] at this; cases this
theorem OkW.alloc (o : OkW Z σ ρ H foot own) {p : Addr} {x : HO} (h : H p = none) : OkW Z σ ρ (upd H p x) foot own :=
  o.heap (S := []) (KeepBut.new h) (by simp) (fun _ _ _ z => by simp at z) (by simp) (by simp)

/-- addresses that are nobody's own -/
def Shr (Z : Cf) (own : Nat → List Addr) (as : List Addr) : Prop := (∀ a ∈ as, ∀ j, a ∉ own j) ∧ Off as Z.B
theorem Shr.nil : Shr Z own [] := ⟨fun _ h => by simp at h, fun _ h => by simp at h⟩
theorem Shr.sub {as bs : List Addr} (h : Shr Z own as) (s : ∀ a ∈ bs, a ∈ as) : Shr Z own bs := ⟨fun a q => h.1 a (s a q), fun a q => h.2 a (s a q)⟩
theorem Shr.append {as bs : List Addr} (h : Shr Z own as) (g : Shr Z own bs) : Shr Z own (as ++ bs) :=
  ⟨fun a q => (List.mem_append.mp q).elim (h.1 a) (g.1 a), fun a q => (List.mem_append.mp q).elim (h.2 a) (g.2 a)⟩

def put (f : Nat → List Addr) (n : Nat) (l : List Addr) : Nat → List Addr := fun i => if i = n then l else f i
theorem put_same {f : Nat → List Addr} {n : Nat} {l : List Addr} : put f n l n = l := by unfold put; rw [if_pos rfl]
theorem put_ne {f : Nat → List Addr} {n i : Nat} {l : List Addr} (h : i ≠ n) : put f n l i = f i := by unfold put; rw [if_neg h]

/-- one thing more, at the end -/
theorem OkW.push (o : OkW Z σ ρ H foot own) {v : V} {k : Own} {d : D} {as ow : List Addr} (r : DRep Z.w Z.K H (k != .fr) v d as)
    (h1 : Shr Z own as) (hs : ∀ a ∈ ow, a ∈ as ∧ (a ∈ Z.Lio ∨ Z.He a = none)) (hf : ∀ i, Off (foot i) ow) (h3 : KOwn Z.ia Z.w Z.K H v d as ow k) :
    OkW Z (σ ++ [some v]) (ρ ++ [.vl k d]) H (put foot ρ.length as) (put own ρ.length ow) where
  len := by simp [o.len]
  slot := fun i ov s e1 e2 => by
    rcases get_of_snoc e2 with ⟨q1, q2⟩ | ⟨q1, q2⟩
    · rw [List.getElem?_append_left (by rw [o.len]; exact q1)] at e1
      rw [put_ne (Nat.ne_of_lt q1), put_ne (Nat.ne_of_lt q1)]
      exact o.slot i ov s e1 q2
    · subst q1 q2
      rw [← o.len] at e1
      rw [put_same, put_same]
      simp at e1
      exact ⟨v, e1.symm, r, h3, h1.2⟩
  nil := fun i h => by
    simp at h
    rw [put_ne (by omega), put_ne (by omega)]
    exact o.nil i (by omega)
  sep := fun i j a ha hb => by
    by_cases hi : i = ρ.length
    · by_cases hj : j = ρ.length
      · rw [hi, hj]
      · rw [hi, put_same] at ha
        rw [put_ne hj] at hb
        exact absurd hb (h1.1 a ha j)
    · rw [put_ne hi] at ha
      by_cases hj : j = ρ.length
      · rw [hj, put_same] at hb
        exact absurd hb (hf i a ha)
      · rw [put_ne hj] at hb
        exact o.sep i j a ha hb
  mine := fun i a h => by
    by_cases hi : i = ρ.length
    · subst hi
      rw [put_same] at h ⊢
      exact hs a h
    · rw [put_ne hi] at h ⊢
      exact o.mine i a h
  keep := o.keep
  io := o.io
  oth := o.oth
  lk := fun i e => by
    rcases get_of_snoc e with ⟨q1, q2⟩ | ⟨q1, q2⟩
    · rw [List.getElem?_append_left (by rw [o.len]; exact q1)]
      exact o.lk i q2
    · cases q2
theorem OkW.pushSh (o : OkW Z σ ρ H foot own) {v : V} {d : D} {as : List Addr} (r : DRep Z.w Z.K H true v d as) (h1 : Shr Z own as) : Ok Z (σ ++ [some v]) (ρ ++ [.vl .sh d]) H :=
  ⟨_, _, o.push (k := .sh) (ow := []) r h1 (by simp) (fun _ _ _ z => by simp at z) rfl⟩
theorem OkW.pushAtom (o : OkW Z σ ρ H foot own) {v : V} {d : D} (r : DRep Z.w Z.K H false v d []) : Ok Z (σ ++ [some v]) (ρ ++ [.vl .fr d]) H :=
  ⟨_, _, o.push (k := .fr) (ow := []) r .nil (by simp) (fun _ _ _ z => by simp at z) ⟨rfl, .nil⟩⟩
/-- something new, its parts shared -/
theorem OkW.pushTop (o : OkW Z σ ρ H foot own) {p : Addr} {d : D} {as : List Addr} {x : HO} (hn : H p = none) (t : TRep Z.w Z.K (upd H p x) (.ref p) d (p :: as)) (h1 : Shr Z own as) (hm : ∀ a ∈ as, OwnA H a) :
    Ok Z (σ ++ [some (.ref p)]) (ρ ++ [.vl .top d]) (upd H p x) := by
  have np : ∀ {a}, OwnA H a → a ≠ p := fun h e => h.some (e ▸ hn)
  refine ⟨_, _, (o.alloc hn).push (k := .top) (ow := [p]) t.rep ⟨fun a ha j hb => ?_, fun a ha => ?_⟩ (fun a ha => ?_) (fun i a ha hb => ?_) ⟨t, p, rfl, rfl⟩⟩
  · rcases List.mem_cons.mp ha with rfl | ha
    · exact np (o.footOwn (o.mine j _ hb).1) rfl
    · exact h1.1 a ha j hb
  · rcases List.mem_cons.mp ha with rfl | ha
    · exact o.notB hn
    · exact h1.2 a ha
  · have e : a = p := by simpa using ha
    subst e
    refine ⟨by simp, .inr ?_⟩
    cases q : Z.He a with
    | none => rfl
    | some y =>
      by_cases z : a ∈ Z.Lio
      · exact absurd hn (o.io a z).some
      · have := o.keep a y q z
        rw [hn] at this; cases this
  · have e : a = p := by simpa using hb
    exact np (o.footOwn ha) e
theorem Shr.frame (o : OkW Z σ ρ H foot own) {as : List Addr} (h : Shr Z own as) : Shr Z own as := h

/-- the last thing is dropped -/
theorem OkW.pop {x : Option V} {s : Slot} (o : OkW Z (σ ++ [x]) (ρ ++ [s]) H foot own) : OkW Z σ ρ H (put foot ρ.length []) (put own ρ.length []) := by
  have hl : σ.length = ρ.length := by have := o.len; simp at this; exact this
  refine ⟨hl, fun i ov t e1 e2 => ?_, fun i h => ?_, fun i j a ha hb => ?_, fun i a h => ?_, o.keep, o.io, o.oth, fun i e => by
    have hi := lt_of_get e
    have := o.lk i (by rw [List.getElem?_append_left hi]; exact e)
    rw [List.getElem?_append_left (by rw [hl]; exact hi)] at this
    exact this⟩
  · have hi := lt_of_get e2
    rw [put_ne (Nat.ne_of_lt hi), put_ne (Nat.ne_of_lt hi)]
    exact o.slot i ov t (by rw [List.getElem?_append_left (by rw [hl]; exact hi)]; exact e1) (by rw [List.getElem?_append_left hi]; exact e2)
  · by_cases hi : i = ρ.length
    · subst hi; rw [put_same, put_same]; exact ⟨rfl, rfl⟩
    · rw [put_ne hi, put_ne hi]
      exact o.nil i (by simp; omega)
  · by_cases hi : i = ρ.length
    · rw [hi, put_same] at ha; simp at ha
    · by_cases hj : j = ρ.length
      · rw [hj, put_same] at hb; simp at hb
      · rw [put_ne hi] at ha; rw [put_ne hj] at hb
        exact o.sep i j a ha hb
  · by_cases hi : i = ρ.length
    · rw [hi, put_same] at h; simp at h
    · rw [put_ne hi] at h ⊢
      exact o.mine i a h
/-- .. and was this -/
theorem OkW.last {x : Option V} {k : Own} {d : D} (o : OkW Z (σ ++ [x]) (ρ ++ [.vl k d]) H foot own) :
    ∃ v, x = some v ∧ DRep Z.w Z.K H (k != .fr) v d (foot ρ.length) ∧ KOwn Z.ia Z.w Z.K H v d (foot ρ.length) (own ρ.length) k ∧ Off (foot ρ.length) Z.B ∧ Shr Z (put own ρ.length []) (foot ρ.length) := by
  have hl : σ.length = ρ.length := by have := o.len; simp at this; exact this
  obtain ⟨v, e, r⟩ := o.slot ρ.length x (.vl k d) (by rw [← hl]; simp) (by simp)
  refine ⟨v, e, r.1, r.2.1, r.2.2, fun a ha j hb => ?_, r.2.2⟩
  by_cases hj : j = ρ.length
  · rw [hj, put_same] at hb; simp at hb
  · rw [put_ne hj] at hb
    exact hj (o.sep _ _ _ ha hb).symm
theorem Ok.pop {x : Option V} {s : Slot} (o : Ok Z (σ ++ [x]) (ρ ++ [s]) H) : Ok Z σ ρ H := let ⟨_, _, q⟩ := o; ⟨_, _, q.pop⟩

theorem k_true {k : Own} {v : V} {d : D} {as : List Addr} (r : DRep Z.w Z.K H (k != .fr) v d as) : DRep Z.w Z.K H true v d as := r.all
theorem getS_lt {i : Nat} {k : Own} {d : D} (h : getS ρ i = .vl k d) : i < ρ.length := lt_of_get (getS_at h)
/-- a slot's kind is another, of its own less is left -/
theorem OkW.reslot (o : OkW Z σ ρ H foot own) {i : Nat} {k k' : Own} {d : D} {v : V} {ow : List Addr} (h : ρ[i]? = some (.vl k d)) (hv : σ[i]? = some (some v)) (hk : KOwn Z.ia Z.w Z.K H v d (foot i) ow k') (hr : k' = .fr → k = .fr) (hs : ∀ a ∈ ow, a ∈ own i) :
    OkW Z σ (ρ.set i (.vl k' d)) H foot (put own i ow) := by
  have hi := lt_of_get h
  obtain ⟨v', e', r, _, hb⟩ := o.at h
  rw [hv] at e'; cases e'
  refine ⟨by simpa using o.len, fun j ov s e1 e2 => ?_, fun j hj => ?_, fun j l a ha hb' => ?_, fun j a ha => ?_, o.keep, o.io, o.oth, fun j e => by
    by_cases hj : j = i
    · subst hj; rw [List.getElem?_set_self hi] at e; cases e
    · rw [List.getElem?_set_ne (Ne.symm hj)] at e; exact o.lk j e⟩
  · by_cases hj : j = i
    · subst hj
      rw [List.getElem?_set_self hi] at e2
      cases e2
      rw [put_same]
      rw [hv] at e1; cases e1
      refine ⟨v, rfl, ?_, hk, hb⟩
      cases k' with
      | fr => rw [hr rfl] at r; exact r
      | _ => exact k_true r
    · rw [List.getElem?_set_ne (Ne.symm hj)] at e2
      rw [put_ne hj]
      exact o.slot j ov s e1 e2
  · rw [List.length_set] at hj
    rw [put_ne (by omega)]
    exact o.nil j hj
  · by_cases hl : l = i
    · subst hl
      rw [put_same] at hb'
      exact o.sep _ _ a ha (hs a hb')
    · rw [put_ne hl] at hb'
      exact o.sep _ _ a ha hb'
  · by_cases hj : j = i
    · subst hj
      rw [put_same] at ha
      exact o.mine j a (hs a ha)
    · rw [put_ne hj] at ha
      exact o.mine j a ha
theorem Ok.share (o : Ok Z σ ρ H) {i : Nat} {k : Own} {d : D} (h : ρ[i]? = some (.vl k d)) : Ok Z σ (ρ.set i (.vl .sh d)) H := by
  obtain ⟨foot, own, q⟩ := o
  obtain ⟨v, e, _⟩ := q.at h
  exact ⟨_, _, q.reslot (k' := .sh) (ow := []) h e rfl (fun z => by cases z) (by simp)⟩
/-- a wholly own list or dict: its top is one of its addresses -/
theorem DRep.box {w : World} {K : PySem.W.Frag} {v : V} {d : D} {as : List Addr} (r : DRep w K H false v d as) (hb : boxD d = true) : ∃ a as', v = .ref a ∧ as = a :: as' ∧ OwnA H a := by
  cases r with
  | list e r => exact ⟨_, _, rfl, rfl, .inl ⟨_, e⟩⟩
  | dict e _ _ _ _ => exact ⟨_, _, rfl, rfl, .inr ⟨_, e⟩⟩
  | listF h => cases h
  | dictF h => cases h
  | none => cases hb
  | bool => cases hb
  | int => cases hb
  | str => cases hb
  | tup => cases hb
theorem KOwn.box {ia : V} {w : World} {K : PySem.W.Frag} {v : V} {d : D} {as ow : List Addr} {k : Own} (r : DRep w K H (k != .fr) v d as) (ko : KOwn ia w K H v d as ow k) (hk : k ≠ .sh) (hb : boxD d = true) : ∃ a as', v = .ref a ∧ as = a :: as' ∧ a ∉ as' ∧ a ∈ ow ∧ OwnA H a := by
  cases k with
  | sh => exact absurd rfl hk
  | top => obtain ⟨a, as', q1, q2, q3, q4, q5⟩ := KOwn.five ko; exact ⟨a, as', q1, q2, q3, by rw [q4]; simp, q5⟩
  | io => obtain ⟨a, as', q1, q2, q3, q4, q5⟩ := KOwn.five ko.1; exact ⟨a, as', q1, q2, q3, by rw [q4]; simp, q5⟩
  | fr =>
    obtain ⟨q1, q2⟩ := ko
    obtain ⟨a, as', e1, e2, e3⟩ := DRep.box r hb
    subst e2
    exact ⟨a, as', e1, rfl, (List.nodup_cons.mp q2).1, by rw [q1]; simp, e3⟩
/-- own at its top alone -/
theorem Ok.topOnly (o : Ok Z σ ρ H) {i : Nat} {d : D} (h : ρ[i]? = some (.vl .fr d)) (hb : boxD d = true) : Ok Z σ (ρ.set i (.vl .top d)) H := by
  obtain ⟨foot, own, q⟩ := o
  obtain ⟨v, e, r, ko, _⟩ := q.at h
  obtain ⟨a, as', e1, e2, e3, e4, e5⟩ := KOwn.box r ko (by decide) hb
  have ht : TRep Z.w Z.K H v d (foot i) := DRep.trep r ko.2 (fun _ _ => trivial) (by cases d <;> first | exact .inl ⟨_, rfl⟩ | exact .inr ⟨_, rfl⟩ | cases hb)
  exact ⟨_, _, q.reslot (k' := .top) (ow := [a]) h e ⟨ht, a, e1, rfl⟩ (fun z => by cases z) (fun x hx => by simp at hx; subst hx; exact e4)⟩
theorem Ok.topK (o : Ok Z σ ρ H) {i : Nat} {d : D} (h : ρ[i]? = some (.vl .fr d)) : Ok Z σ (ρ.set i (.vl (topK d) d)) H := by
  cases hd : d with
  | list xs => subst hd; exact o.topOnly h rfl
  | dict xs => subst hd; exact o.topOnly h rfl
  | none => subst hd; exact o.share h
  | bool => subst hd; exact o.share h
  | int => subst hd; exact o.share h
  | str => subst hd; exact o.share h
  | tuple => subst hd; exact o.share h
end
end TH
end
section
set_option Elab.async false
set_option linter.all false
set_option maxRecDepth 100000
namespace TH
open PySem PySem.Spec PyProof.Rows L2

def OutR {α : Type} (okP : α → Prop) (Ex : Str → D → Prop) : Res α → Prop
  | .ok a => okP a
  | .exc c d => Ex c d
  | .stk _ => False
theorem OutR.bind {α β : Type} {r : Res α} {f : α → Res β} {okP : β → Prop} {Ex : Str → D → Prop} (h : OutR okP Ex (r.bind f)) : OutR (fun a => OutR okP Ex (f a)) Ex r := by
  cases r <;> exact h
theorem OutR.mono {α : Type} {r : Res α} {p q : α → Prop} {Ex : Str → D → Prop} (h : OutR p Ex r) (g : ∀ a, p a → q a) : OutR q Ex r := by
  cases r with
  | ok a => exact g a h
  | exc => exact h
  | stk => exact h

/-- the state of a body, with things at hand behind its slots -/
structure Sta (Z : Cf) (σ : L2.St) (ρ : Ev) (tv : L2.St) (ts : Ev) (H : Hp) : Prop where
  len : ρ.length = σ.length
  ok : Ok Z (σ ++ tv) (ρ ++ ts) H
section
variable {Z : Cf} {σ tv : L2.St} {ρ ts : Ev} {H : Hp}
theorem Sta.get (s : Sta Z σ ρ tv ts H) {i : Nat} {k : Own} {d : D} (h : getS ρ i = .vl k d) : (ρ ++ ts)[i]? = some (.vl k d) := by
  rw [List.getElem?_append_left (getS_lt h)]; exact getS_at h
theorem Sta.set (s : Sta Z σ ρ tv ts H) {i : Nat} {x : Slot} (hi : i < ρ.length) (h : Ok Z (σ ++ tv) ((ρ ++ ts).set i x) H) : Sta Z σ (setS ρ i x) tv ts H := by
  refine ⟨by unfold setS; rw [List.length_set]; exact s.len, ?_⟩
  rw [List.set_append_left _ _ hi] at h
  exact h
theorem Sta.val (s : Sta Z σ ρ tv ts H) {i : Nat} {k : Own} {d : D} (h : getS ρ i = .vl k d) : ∃ v, σ[i]? = some (some v) := by
  obtain ⟨foot, own, o⟩ := s.ok
  obtain ⟨v, e, _⟩ := o.at (s.get h)
  rw [List.getElem?_append_left (by rw [← s.len]; exact getS_lt h)] at e
  exact ⟨v, e⟩
end

section
variable (G : Glob) (Z : Cf) (Ex : Str → D → Prop)
def tE (c : C) : TE := fun σ H Q => ∃ ρ tv ts, Sta Z σ ρ tv ts H ∧
  OutR (fun r => ∀ v H', Sta Z σ r.2.2 (tv ++ [some v]) (ts ++ [.vl r.2.1 r.1]) H' → Q v H') Ex (evE G c ρ)
def peekOf : C → Option Nat
  | .pk i => some i
  | .pt i => some i
  | _ => none
def argT (c : C) : TE := match peekOf c with
  | some i => tVar i
  | none => tE G Z Ex c
def argsT : List C → TA
  | [] => tNil
  | c :: cs => tCons (argT G Z Ex c) (argsT cs)
end
theorem evL_cons {G : Glob} {c : C} {cs : List C} {ρ : Ev} (h : peekOf c = none) :
    evL G (c :: cs) ρ = (evE G c ρ).bind fun r => (evL G cs r.2.2).bind fun q => .ok ((r.1, r.2.1) :: q.1, q.2) := by
  cases c <;> first | (simp only [evL]; done) | (cases h)

/-- arguments and what is at hand of them: values, trees with kinds, the things behind the slots -/
inductive AS (σ : L2.St) (ρ : Ev) : List C → List V → List (D × Own) → L2.St → Ev → Prop
  | nil : AS σ ρ [] [] [] [] []
  | pk {i v d k cs vs dks tv ts} : σ[i]? = some (some v) → ρ[i]? = some (.vl k d) → AS σ ρ cs vs dks tv ts → AS σ ρ (.pk i :: cs) (v :: vs) ((d, .io) :: dks) tv ts
  | pt {i v d k cs vs dks tv ts} : σ[i]? = some (some v) → ρ[i]? = some (.vl k d) → (k = .fr → immKids d = true) → AS σ ρ cs vs dks tv ts → AS σ ρ (.pt i :: cs) (v :: vs) ((d, .sh) :: dks) tv ts
  | val {c v d k cs vs dks tv ts} : peekOf c = none → AS σ ρ cs vs dks tv ts → AS σ ρ (c :: cs) (v :: vs) ((d, k) :: dks) (some v :: tv) (.vl k d :: ts)
theorem AS.reslot {σ : L2.St} {ρ : Ev} {i : Nat} {k0 : Own} {d0 : D} (h : ρ[i]? = some (.vl .fr d0)) (hk : k0 ≠ .fr) : ∀ {cs vs dks tv ts}, AS σ ρ cs vs dks tv ts → AS σ (ρ.set i (.vl k0 d0)) cs vs dks tv ts
  | _, _, _, _, _, .nil => .nil
  | _, _, _, _, _, .pk (i := j) e1 e2 r => by
    by_cases hj : j = i
    · subst hj
      rw [h] at e2; cases e2
      exact .pk e1 (by rw [List.getElem?_set_self (lt_of_get h)]) (r.reslot h hk)
    · exact .pk e1 (by rw [List.getElem?_set_ne (Ne.symm hj)]; exact e2) (r.reslot h hk)
  | _, _, _, _, _, .pt (i := j) e1 e2 e3 r => by
    by_cases hj : j = i
    · subst hj
      rw [h] at e2; cases e2
      exact .pt e1 (by rw [List.getElem?_set_self (lt_of_get h)]) (fun z => absurd z hk) (r.reslot h hk)
    · exact .pt e1 (by rw [List.getElem?_set_ne (Ne.symm hj)]; exact e2) e3 (r.reslot h hk)
  | _, _, _, _, _, .val e r => .val e (r.reslot h hk)
theorem topK_ne {d : D} : topK d ≠ .fr := by cases d <;> simp [topK]

section
variable {G : Glob} {Z : Cf} {Ex : Str → D → Prop}
theorem args_run : ∀ (cs : List C) {σ : L2.St} {ρ : Ev} {tv : L2.St} {ts : Ev} {H : Hp} {Q : List V → Hp → Prop}, Sta Z σ ρ tv ts H →
    OutR (fun r => ∀ vs H' tvs tss, AS σ r.2 cs vs r.1 tvs tss → Sta Z σ r.2 (tv ++ tvs) (ts ++ tss) H' → Q vs H') Ex (evL G cs ρ) → argsT G Z Ex cs σ H Q
  | [], σ, ρ, tv, ts, H, Q, s, h => by
    simp only [evL, OutR] at h
    exact h [] H [] [] .nil (by simpa using s)
  | c :: cs, σ, ρ, tv, ts, H, Q, s, h => by
    show argT G Z Ex c σ H fun x H1 => argsT G Z Ex cs σ H1 fun xs H2 => Q (x :: xs) H2
    cases hp : peekOf c with
    | none =>
      rw [evL_cons hp] at h
      have e : argT G Z Ex c = tE G Z Ex c := by unfold argT; rw [hp]
      rw [e]
      refine ⟨ρ, tv, ts, s, h.bind.mono fun r hr v H' s1 => ?_⟩
      refine args_run cs s1 (hr.bind.mono fun q hq vs H2 tvs tss as s2 => ?_)
      refine hq (v :: vs) H2 (some v :: tvs) (.vl r.2.1 r.1 :: tss) (.val hp as) ?_
      simpa using s2
    | some i =>
      have e : argT G Z Ex c = tVar i := by unfold argT; rw [hp]
      rw [e]
      cases c with
      | pk j =>
        cases hp
        simp only [evL] at h
        cases hb : getS ρ i with
        | un => simp [bound, hb] at h; exact h.elim
        | lk => simp [bound, hb] at h; exact h.elim
        | vl k d =>
          simp only [bound, hb, if_true] at h
          obtain ⟨v, hv⟩ := s.val hb
          refine ⟨v, hv, args_run cs s (h.bind.mono fun q hq vs H2 tvs tss as s2 => ?_)⟩
          unfold peek at hq
          cases hg : getS q.2 i with
          | un => simp [hg, Res.bind] at hq; exact hq.elim
          | lk => simp [hg, Res.bind] at hq; exact hq.elim
          | vl k' d' =>
            have hq' : ∀ vs H' tvs tss, AS σ q.2 (.pk i :: cs) vs ((d', .io) :: q.1) tvs tss → Sta Z σ q.2 (tv ++ tvs) (ts ++ tss) H' → Q vs H' := by
              cases k' <;> simpa [hg, Res.bind, OutR] using hq
            exact hq' (v :: vs) H2 tvs tss (.pk hv (getS_at hg) as) s2
      | pt j =>
        cases hp
        simp only [evL] at h
        cases hb : getS ρ i with
        | un => simp [bound, hb] at h; exact h.elim
        | lk => simp [bound, hb] at h; exact h.elim
        | vl k d =>
          simp only [bound, hb, if_true] at h
          obtain ⟨v, hv⟩ := s.val hb
          refine ⟨v, hv, args_run cs s (h.bind.mono fun q hq vs H2 tvs tss as s2 => ?_)⟩
          unfold peek at hq
          cases hg : getS q.2 i with
          | un => simp [hg, Res.bind] at hq; exact hq.elim
          | lk => simp [hg, Res.bind] at hq; exact hq.elim
          | vl k' d' =>
            by_cases hf : k' = .fr ∧ immKids d' = false
            · obtain ⟨rfl, hi⟩ := hf
              have hq' : ∀ vs H' tvs tss, AS σ (setS q.2 i (.vl (topK d') d')) (.pt i :: cs) vs ((d', .sh) :: q.1) tvs tss → Sta Z σ (setS q.2 i (.vl (topK d') d')) (tv ++ tvs) (ts ++ tss) H' → Q vs H' := by
                simpa [hg, hi, Res.bind, OutR] using hq
              refine hq' (v :: vs) H2 tvs tss (.pt (k := topK d') hv ?_ (fun z => absurd z topK_ne) (as.reslot (getS_at hg) topK_ne)) (s2.set (getS_lt hg) (s2.ok.topK (s2.get hg)))
              unfold setS
              rw [List.getElem?_set_self (getS_lt hg)]
            · have hq' : ∀ vs H' tvs tss, AS σ q.2 (.pt i :: cs) vs ((d', .sh) :: q.1) tvs tss → Sta Z σ q.2 (tv ++ tvs) (ts ++ tss) H' → Q vs H' := by
                cases k' with
                | fr =>
                  have hi : immKids d' = true := by
                    cases hi : immKids d' with
                    | true => rfl
                    | false => exact absurd ⟨rfl, hi⟩ hf
                  simpa [hg, hi, Res.bind, OutR] using hq
                | _ => simpa [hg, Res.bind, OutR] using hq
              exact hq' (v :: vs) H2 tvs tss (.pt hv (getS_at hg) (fun z => by
                subst z
                cases hi : immKids d' with
                | true => rfl
                | false => exact absurd ⟨rfl, hi⟩ hf) as) s2
      | _ => cases hp
end
end TH
end
section
set_option Elab.async false
set_option linter.all false
set_option maxRecDepth 100000
namespace TH
open PySem PySem.Spec PyProof.Rows L2

def Arg0 (Z : Cf) (H : Hp) (v : V) (d : D) : Prop := ∃ as, DRep Z.w Z.K H true v d as
def Arg1 (Z : Cf) (H : Hp) (own : Nat → List Addr) (v : V) (d : D) : Prop :=
  ∃ as, DRep Z.w Z.K H true v d as ∧ (Shr Z own as ∨ ∃ a as', v = .ref a ∧ as = a :: as' ∧ TRep Z.w Z.K H v d as ∧ Shr Z own as')
def ArgsOk (Z : Cf) (H : Hp) (own : Nat → List Addr) : List V → List (D × Own) → Prop
  | [], [] => True
  | v :: vs, d :: ds => Arg0 Z H v d.1 ∧ (d.2 ≠ .io → Arg1 Z H own v d.1) ∧ ArgsOk Z H own vs ds
  | _, _ => False
section
variable {Z : Cf} {H : Hp} {own own' : Nat → List Addr} {foot : Nat → List Addr}
theorem Shr.less {as : List Addr} (h : Shr Z own as) (s : ∀ j a, a ∈ own' j → a ∈ own j) : Shr Z own' as := ⟨fun a ha j hb => h.1 a ha j (s j a hb), h.2⟩
theorem put_less {n : Nat} : ∀ j a, a ∈ put own n [] j → a ∈ own j := fun j a h => by
  by_cases hj : j = n
  · rw [hj, put_same] at h; simp at h
  · rw [put_ne hj] at h; exact h
theorem Arg1.less {v : V} {d : D} (h : Arg1 Z H own v d) (s : ∀ j a, a ∈ own' j → a ∈ own j) : Arg1 Z H own' v d := by
  obtain ⟨as, r, q | ⟨a, as', q1, q2, q3, q4⟩⟩ := h
  · exact ⟨as, r, .inl (q.less s)⟩
  · exact ⟨as, r, .inr ⟨a, as', q1, q2, q3, q4.less s⟩⟩
theorem ArgsOk.less (s : ∀ j a, a ∈ own' j → a ∈ own j) : ∀ {vs : List V} {ds : List (D × Own)}, ArgsOk Z H own vs ds → ArgsOk Z H own' vs ds
  | [], [], _ => trivial
  | _ :: _, _ :: _, ⟨h1, h2, h3⟩ => ⟨h1, fun n => (h2 n).less s, h3.less s⟩
  | [], _ :: _, h => h.elim
  | _ :: _, [], h => h.elim
/-- a slot's thing, looked at -/
theorem OkW.arg0 {σ : L2.St} {ρ : Ev} (o : OkW Z σ ρ H foot own) {i : Nat} {k : Own} {d : D} {v : V} (h : ρ[i]? = some (.vl k d)) (hv : σ[i]? = some (some v)) : Arg0 Z H v d := by
  obtain ⟨v', e, r, _⟩ := o.at h
  rw [hv] at e; cases e
  exact ⟨_, k_true r⟩
theorem kids_nil {w : World} {K : PySem.W.Frag} {c : Bool} {v : V} {d : D} {as : List Addr} (r : DRep w K H c v d as) (hc : c = false) (h : immKids d = true) : as = [] ∨ ∃ a, v = .ref a ∧ as = [a] ∧ TRep w K H v d as := by
  cases r with
  | none => exact .inl rfl
  | bool => exact .inl rfl
  | int => exact .inl rfl
  | str => exact .inl rfl
  | list e r =>
    have hn := r.imm_nil (by simpa [immKids] using h)
    subst hn
    exact .inr ⟨_, rfl, rfl, _, [], rfl, rfl, by simp, .inl ⟨_, _, rfl, e, r.all⟩⟩
  | listF z => rw [hc] at z; cases z
  | tup _ r => exact .inl (r.imm_nil (by simpa [immKids] using h))
  | dict e h1 h2 r h3 =>
    have hn := r.imm_nil (by simpa [immKids] using h)
    subst hn
    exact .inr ⟨_, rfl, rfl, _, [], rfl, rfl, by simp, .inr ⟨_, _, _, rfl, e, h1, h2, r.all, h3⟩⟩
  | dictF z => rw [hc] at z; cases z
theorem OkW.arg1 {σ : L2.St} {ρ : Ev} (o : OkW Z σ ρ H foot own) {i : Nat} {k : Own} {d : D} {v : V} (h : ρ[i]? = some (.vl k d)) (hv : σ[i]? = some (some v)) (hk : k = .fr → immKids d = true) : Arg1 Z H own v d := by
  obtain ⟨v', e, r, ko, hb⟩ := o.at h
  rw [hv] at e; cases e
  have box : ∀ a as', v = .ref a → foot i = a :: as' → a ∉ as' → own i = [a] → TRep Z.w Z.K H v d (foot i) → Arg1 Z H own v d := fun a as' q1 q2 q3 q4 q5 => by
    refine ⟨foot i, k_true r, .inr ⟨a, as', q1, q2, q5, fun x hx j hj => ?_, fun x hx => hb x (by rw [q2]; exact List.mem_cons_of_mem _ hx)⟩⟩
    have e := o.sep i j x (by rw [q2]; exact List.mem_cons_of_mem _ hx) hj
    subst e
    rw [q4] at hj
    have : x = a := by simpa using hj
    exact q3 (this ▸ hx)
  cases k with
  | sh => exact ⟨foot i, r, .inl ⟨fun a ha j hj => by
      have e := o.sep i j a ha hj
      subst e
      rw [show own i = [] from ko] at hj
      simp at hj, hb⟩⟩
  | top => obtain ⟨a, as', q1, q2, q3, q4, q5⟩ := KOwn.five ko; exact box a as' q1 q2 q3 q4 ko.1
  | io => obtain ⟨a, as', q1, q2, q3, q4, q5⟩ := KOwn.five ko.1; exact box a as' q1 q2 q3 q4 ko.1.1
  | fr =>
    rcases kids_nil r rfl (hk rfl) with e | ⟨a, q1, q2, q3⟩
    · exact ⟨foot i, k_true r, .inl (by rw [e]; exact .nil)⟩
    · exact ⟨foot i, k_true r, .inr ⟨a, [], q1, q2, q3, .nil⟩⟩
/-- what is at hand is used up -/
theorem AS.consume {σ : L2.St} {ρ : Ev} : ∀ {cs vs dks tvs tss}, AS σ ρ cs vs dks tvs tss → ∀ {Y : L2.St} {R : Ev} {foot own : Nat → List Addr}, (∀ (i : Nat) x, σ[i]? = some x → Y[i]? = some x) → (∀ (i : Nat) x, ρ[i]? = some x → R[i]? = some x) →
    OkW Z (Y ++ tvs) (R ++ tss) H foot own → ∃ foot' own', OkW Z Y R H foot' own' ∧ ArgsOk Z H own' vs dks
  | _, _, _, _, _, .nil, Y, R, foot, own, _, _, o => ⟨foot, own, by simpa using o, trivial⟩
  | _, _, _, _, _, .pk e1 e2 r, Y, R, foot, own, h1, h2, o => by
    obtain ⟨f, w, o', a'⟩ := r.consume h1 h2 o
    exact ⟨f, w, o', o'.arg0 (h2 _ _ e2) (h1 _ _ e1), fun z => absurd rfl z, a'⟩
  | _, _, _, _, _, .pt e1 e2 e3 r, Y, R, foot, own, h1, h2, o => by
    obtain ⟨f, w, o', a'⟩ := r.consume h1 h2 o
    exact ⟨f, w, o', o'.arg0 (h2 _ _ e2) (h1 _ _ e1), fun _ => o'.arg1 (h2 _ _ e2) (h1 _ _ e1) e3, a'⟩
  | _, _, _, _, _, .val (v := v) (d := d) (k := k) e r, Y, R, foot, own, h1, h2, o => by
    obtain ⟨f, w, o', a'⟩ := r.consume (Y := Y ++ [some v]) (R := R ++ [.vl k d]) (fun i x e => by
      rw [List.getElem?_append_left (lt_of_get (h1 i x e))]; exact h1 i x e) (fun i x e => by
      rw [List.getElem?_append_left (lt_of_get (h2 i x e))]; exact h2 i x e) (by simpa using o)
    obtain ⟨v', e', r', _, _, sh⟩ := o'.last
    cases e'
    exact ⟨_, _, o'.pop, ⟨_, k_true r'⟩, fun _ => ⟨_, k_true r', .inl sh⟩, a'.less put_less⟩
/-- .. values alone -/
theorem OkW.useSh : ∀ (vs : List V) (dks : List (D × Own)) {Y : L2.St} {R : Ev} {foot own : Nat → List Addr}, vs.length = dks.length → OkW Z (Y ++ vs.map some) (R ++ dks.map fun x => .vl x.2 x.1) H foot own →
    ∃ foot' own' as, OkW Z Y R H foot' own' ∧ DAll Z.w Z.K H true vs (dks.map (·.1)) as ∧ Shr Z own' as
  | [], [], Y, R, foot, own, _, o => ⟨foot, own, [], by simpa using o, .nil, .nil⟩
  | v :: vs, dk :: dks, Y, R, foot, own, hl, o => by
    obtain ⟨f, w, as, o', a', s'⟩ := OkW.useSh vs dks (Y := Y ++ [some v]) (R := R ++ [.vl dk.2 dk.1]) (by simpa using hl) (by simpa using o)
    obtain ⟨v', e', r', _, _, sh⟩ := o'.last
    cases e'
    exact ⟨_, _, _, o'.pop, .cons (k_true r') a', sh.append (s'.less put_less)⟩
  | [], _ :: _, _, _, _, _, hl, _ => by simp at hl
  | _ :: _, [], _, _, _, _, hl, _ => by simp at hl
/-- .. wholly own ones -/
theorem OkW.useFr : ∀ (vs : List V) (ds : List D) {Y : L2.St} {R : Ev} {foot own : Nat → List Addr}, vs.length = ds.length → OkW Z (Y ++ vs.map some) (R ++ ds.map fun x => .vl .fr x) H foot own →
    ∃ foot' own' as, OkW Z Y R H foot' own' ∧ DAll Z.w Z.K H false vs ds as ∧ Shr Z own' as ∧ as.Nodup ∧ ∀ a ∈ as, (a ∈ Z.Lio ∨ Z.He a = none) ∧ ∀ i, a ∉ foot' i
  | [], [], Y, R, foot, own, _, o => ⟨foot, own, [], by simpa using o, .nil, .nil, .nil, by simp⟩
  | v :: vs, d :: ds, Y, R, foot, own, hl, o => by
    obtain ⟨f, w, as, o', a', s', nd, fr⟩ := OkW.useFr vs ds (Y := Y ++ [some v]) (R := R ++ [.vl .fr d]) (by simpa using hl) (by simpa using o)
    obtain ⟨v', e', r', ko, _, sh⟩ := o'.last
    cases e'
    obtain ⟨k1, k2⟩ := ko
    refine ⟨_, _, _, o'.pop, .cons r' a', sh.append (s'.less put_less), ?_, ?_⟩
    · rw [List.nodup_append]
      exact ⟨k2, nd, fun a ha b hb e => (fr b hb).2 R.length (e ▸ ha)⟩
    · intro a ha
      rcases List.mem_append.mp ha with ha | ha
      · refine ⟨(o'.mine R.length a (by rw [k1]; exact ha)).2, fun i => ?_⟩
        by_cases hi : i = R.length
        · rw [hi, put_same]; simp
        · rw [put_ne hi]
          intro z
          exact hi (o'.sep i R.length a z (by rw [k1]; exact ha))
      · refine ⟨(fr a ha).1, fun i => ?_⟩
        by_cases hi : i = R.length
        · rw [hi, put_same]; simp
        · rw [put_ne hi]; exact (fr a ha).2 i
  | [], _ :: _, _, _, _, _, hl, _ => by simp at hl
  | _ :: _, [], _, _, _, _, hl, _ => by simp at hl
end

/-- a primitive's last step, by values -/
def PrimT (Z : Cf) (p : P) : List V → Hp → VK → Prop := fun vs H Q => ∃ (Y : L2.St) (R : Ev) (foot own : Nat → List Addr) (dks : List (D × Own)) (d : D) (k : Own), OkW Z Y R H foot own ∧ ArgsOk Z H own vs dks ∧
  (scalarP p = true ∨ ∀ x ∈ dks, x.2 ≠ .io) ∧ prim p dks = some (d, k) ∧ ∀ v H', Ok Z (Y ++ [some v]) (R ++ [.vl k d]) H' → Q v H'
/-- a display's -/
def DispT (Z : Cf) (p : P) : List V → Hp → VK → Prop := fun vs H Q => ∃ (Y : L2.St) (R : Ev) (dks : List (D × Own)) (d : D) (k : Own), vs.length = dks.length ∧ Ok Z (Y ++ vs.map some) (R ++ dks.map fun x => .vl x.2 x.1) H ∧
  prim p dks = some (d, k) ∧ ∀ v H', Ok Z (Y ++ [some v]) (R ++ [.vl k d]) H' → Q v H'
theorem AS.vals {σ : L2.St} {ρ : Ev} : ∀ {cs vs dks tvs tss}, AS σ ρ cs vs dks tvs tss → (∀ c ∈ cs, peekOf c = none) → tvs = vs.map some ∧ tss = dks.map (fun x => .vl x.2 x.1) ∧ vs.length = dks.length
  | _, _, _, _, _, .nil, _ => ⟨rfl, rfl, rfl⟩
  | _, _, _, _, _, .pk _ _ r, h => by have := h _ (.head _); cases this
  | _, _, _, _, _, .pt _ _ _ r, h => by have := h _ (.head _); cases this
  | _, _, _, _, _, .val _ r, h => by
    obtain ⟨h1, h2, h3⟩ := r.vals fun c hc => h c (.tail _ hc)
    exact ⟨by rw [h1]; rfl, by rw [h2]; rfl, by simp [h3]⟩
section
variable {G : Glob} {Z : Cf} {Ex : Str → D → Prop}
theorem op_red {p : P} {cs : List C} {σ : L2.St} {H : Hp} {Q : VK} (h : tE G Z Ex (.op p cs) σ H Q) : argsT G Z Ex cs σ H fun vs H1 => PrimT Z p vs H1 Q := by
  obtain ⟨ρ, tv, ts, s, h⟩ := h
  simp only [evE] at h
  refine args_run cs s (h.bind.mono fun r hr vs H' tvs tss as s2 => ?_)
  by_cases hg : (scalarP p || r.1.all fun x => x.2 != .io) = true
  · rw [if_pos hg] at hr
    obtain ⟨foot, own, o⟩ := s2.ok
    obtain ⟨f, w, o', a'⟩ := as.consume (Y := σ ++ tv) (R := r.2 ++ ts) (fun i x e => by rw [List.getElem?_append_left (lt_of_get e)]; exact e) (fun i x e => by rw [List.getElem?_append_left (lt_of_get e)]; exact e) (by simpa using o)
    cases e : prim p r.1 with
    | none => rw [e] at hr; exact hr.elim
    | some q =>
      rw [e] at hr
      refine ⟨_, _, f, w, r.1, q.1, q.2, o', a', ?_, e, fun v H2 ok2 => hr v H2 ⟨s2.len, by simpa using ok2⟩⟩
      rcases Bool.or_eq_true_iff.mp hg with g | g
      · exact .inl g
      · exact .inr fun x hx => by
          have := List.all_eq_true.mp g x hx
          simpa using this
  · rw [if_neg hg] at hr
    exact hr.elim
theorem disp_red {p : P} {cs : List C} {σ : L2.St} {H : Hp} {Q : VK} (hc : ∀ c ∈ cs, peekOf c = none) (h : tE G Z Ex (.op p cs) σ H Q) : argsT G Z Ex cs σ H fun vs H1 => DispT Z p vs H1 Q := by
  obtain ⟨ρ, tv, ts, s, h⟩ := h
  simp only [evE] at h
  refine args_run cs s (h.bind.mono fun r hr vs H' tvs tss as s2 => ?_)
  obtain ⟨rfl, rfl, hl⟩ := as.vals hc
  by_cases hg : (scalarP p || r.1.all fun x => x.2 != .io) = true
  · rw [if_pos hg] at hr
    cases e : prim p r.1 with
    | none => rw [e] at hr; exact hr.elim
    | some q =>
      rw [e] at hr
      exact ⟨σ ++ tv, r.2 ++ ts, r.1, q.1, q.2, hl, by simpa using s2.ok, e, fun v H2 ok2 => hr v H2 ⟨s2.len, by simpa using ok2⟩⟩
  · rw [if_neg hg] at hr
    exact hr.elim
end
end TH
end
section
set_option Elab.async false
set_option linter.all false
set_option maxRecDepth 100000
namespace TH
open PySem PySem.Spec PyProof.Rows L2

theorem knone {X : Cx} {pins : List (Addr × Obj)} {σ : L2.St} {H : Hp} {s : Shared} (I : Inv X pins σ H s) : ∀ a o, X.K.lookup a = some o → H a = none := fun a o e => (I.bs a o (I.mod.kin a o e)).2
/-- what X and Z share -/
structure ZX (Z : Cf) (X : Cx) : Prop where
  K : Z.K = X.K
  w : Z.w = X.w

section
variable {Z : Cf} {H : Hp} {own : Nat → List Addr} {v : V} {w : World} {K : PySem.W.Frag} {c : Bool} {as : List Addr}
theorem DRep.int_inv {i : Int} (r : DRep w K H c v (.int i) as) : v = .int i := by cases r; rfl
theorem DRep.bool_inv {b : Bool} (r : DRep w K H c v (.bool b) as) : v = .bl b := by cases r; rfl
theorem DRep.str_inv {x : Str} (r : DRep w K H c v (.str x) as) : v = .str x := by cases r; rfl
theorem DRep.none_inv (r : DRep w K H c v .none as) : v = .non := by cases r; rfl
theorem Arg0.int {i : Int} (h : Arg0 Z H v (.int i)) : v = .int i := let ⟨_, r⟩ := h; r.int_inv
theorem Arg0.bool {b : Bool} (h : Arg0 Z H v (.bool b)) : v = .bl b := let ⟨_, r⟩ := h; r.bool_inv
theorem Arg0.str {x : Str} (h : Arg0 Z H v (.str x)) : v = .str x := let ⟨_, r⟩ := h; r.str_inv
theorem Arg0.strLen {x : Str} (h : Arg0 Z H v (.str x)) : x.length ≤ sizeLine := by
  obtain ⟨_, r⟩ := h
  cases r with
  | str _ h => exact h
theorem Arg0.none (h : Arg0 Z H v .none) : v = .non := let ⟨_, r⟩ := h; r.none_inv
theorem Arg0.list {ds : List D} (h : Arg0 Z H v (.list ds)) : ∃ a vs as, v = .ref a ∧ SqL Z.K H a vs ∧ DAll Z.w Z.K H true vs ds as := by
  obtain ⟨as, r⟩ := h
  cases r with
  | list e r => exact ⟨_, _, _, rfl, SqL.of e, r⟩
  | listF _ e r => exact ⟨_, _, _, rfl, e.sql, r⟩
theorem Arg0.tuple {ds : List D} (h : Arg0 Z H v (.tuple ds)) : ∃ a vs as, v = .ref a ∧ SqT Z.K H a vs ∧ DAll Z.w Z.K H true vs ds as := by
  obtain ⟨as, r⟩ := h
  cases r with
  | tup e r => exact ⟨_, _, _, rfl, e, r⟩
theorem Arg1.zero (h : Arg1 Z H own v d) : Arg0 Z H v d := let ⟨as, r, _⟩ := h; ⟨as, r⟩
theorem Arg1.list {ds : List D} (kn : True) (h : Arg1 Z H own v (.list ds)) : ∃ a vs as, v = .ref a ∧ SqL Z.K H a vs ∧ DAll Z.w Z.K H true vs ds as ∧ Shr Z own as := by
  obtain ⟨as, r, sh | ⟨a, as', e1, e2, t, sh⟩⟩ := h
  · cases r with
    | list e r => exact ⟨_, _, _, rfl, SqL.of e, r, sh.sub fun x hx => List.mem_cons_of_mem _ hx⟩
    | listF _ e r => exact ⟨_, _, _, rfl, e.sql, r, sh⟩
  · obtain ⟨b, bs, q1, q2, _, t | ⟨_, _, _, t, _⟩⟩ := t
    · obtain ⟨vs, ds', e, q, r⟩ := t
      cases e
      rw [e2] at q2; cases q2
      exact ⟨_, _, _, q1, SqL.of q, r, sh⟩
    · cases t
theorem Arg1.tuple {ds : List D} (kn : True) (h : Arg1 Z H own v (.tuple ds)) : ∃ a vs as, v = .ref a ∧ SqT Z.K H a vs ∧ DAll Z.w Z.K H true vs ds as ∧ (Shr Z own as) := by
  obtain ⟨as, r, sh | ⟨a, as', e1, e2, t, sh⟩⟩ := h
  · cases r with
    | tup e r => exact ⟨_, _, _, rfl, e, r, sh⟩
  · obtain ⟨b, bs, q1, q2, _, ⟨_, _, t, _⟩ | ⟨_, _, _, t, _⟩⟩ := t <;> cases t
theorem PrimT.two {p : P} {x y : V} {Q : VK} (h : PrimT Z p [x, y] H Q) : ∃ (Y : L2.St) (R : Ev) (foot own : Nat → List Addr) (a b : D × Own) (d : D) (k : Own), OkW Z Y R H foot own ∧ Arg0 Z H x a.1 ∧ Arg0 Z H y b.1 ∧
    (scalarP p = false → Arg1 Z H own x a.1 ∧ Arg1 Z H own y b.1) ∧ prim p [a, b] = some (d, k) ∧ ∀ v H', Ok Z (Y ++ [some v]) (R ++ [.vl k d]) H' → Q v H' := by
  obtain ⟨Y, R, foot, own, dks, d, k, o, ar, g, e, fin⟩ := h
  match dks, ar with
  | [a, b], ⟨h1, h2, h3, h4, _⟩ =>
    refine ⟨Y, R, foot, own, a, b, d, k, o, h1, h3, fun hs => ?_, e, fin⟩
    rcases g with g | g
    · rw [hs] at g; cases g
    · exact ⟨h2 (g a (by simp)), h4 (g b (by simp))⟩
theorem PrimT.one {p : P} {x : V} {Q : VK} (h : PrimT Z p [x] H Q) : ∃ (Y : L2.St) (R : Ev) (foot own : Nat → List Addr) (a : D × Own) (d : D) (k : Own), OkW Z Y R H foot own ∧ Arg0 Z H x a.1 ∧
    (scalarP p = false → Arg1 Z H own x a.1) ∧ prim p [a] = some (d, k) ∧ ∀ v H', Ok Z (Y ++ [some v]) (R ++ [.vl k d]) H' → Q v H' := by
  obtain ⟨Y, R, foot, own, dks, d, k, o, ar, g, e, fin⟩ := h
  match dks, ar with
  | [a], ⟨h1, h2, _⟩ =>
    refine ⟨Y, R, foot, own, a, d, k, o, h1, fun hs => ?_, e, fin⟩
    rcases g with g | g
    · rw [hs] at g; cases g
    · exact h2 (g a (by simp))
end

section
variable {X : Cx} {Z : Cf}
/-- an atom, given -/
theorem give_atom {Y : L2.St} {R : Ev} {foot own : Nat → List Addr} {H : Hp} {d d' : D} {k : Own} {v : V} {Q : VK} (o : OkW Z Y R H foot own) (e : okA d' = some (d, k)) (r : DRep Z.w Z.K H false v d' []) (fin : ∀ v H', Ok Z (Y ++ [some v]) (R ++ [.vl k d]) H' → Q v H') : Q v H := by
  cases e
  exact fin v H (o.pushAtom r)
/-- the form of a two-place rule's proof: the cases that give nothing are closed -/
theorem pr_sub : OpR X (binaryOp .Sub) (fun x y H Q => PrimT Z .sub [x, y] H Q) := by
  intro pins s σ H x y v u Q I rx ry h
  obtain ⟨Y, R, foot, own, ⟨a, ka⟩, ⟨b, kb⟩, d, k, o, h1, h2, h3, e, fin⟩ := h.two
  have e : subD a b = some (d, k) := e
  cases a <;> cases b <;> first
    | (cases e; done)
    | (have e1 := h1.int; have e2 := h2.int; subst e1 e2
       exact op_sub pins s σ H _ _ v u Q I rx ry ⟨_, _, rfl, rfl, give_atom o e (.int _) fin⟩)
theorem some_if {α : Type} {c : Prop} [Decidable c] {x : Option α} {y : α} (h : (if c then x else none) = some y) : c ∧ x = some y := by
  by_cases hc : c
  · rw [if_pos hc] at h; exact ⟨hc, h⟩
  · rw [if_neg hc] at h; cases h
theorem line_le {n : Nat} (h : line n = true) : n ≤ sizeLine := of_decide_eq_true h
theorem pr_fdiv : OpR X (binaryOp .FloorDiv) (fun x y H Q => PrimT Z .fdiv [x, y] H Q) := by
  intro pins s σ H x y v u Q I rx ry h
  obtain ⟨Y, R, foot, own, ⟨a, ka⟩, ⟨b, kb⟩, d, k, o, h1, h2, h3, e, fin⟩ := h.two
  have e : fdivD a b = some (d, k) := e
  cases a <;> cases b <;> first
    | (cases e; done)
    | (have e1 := h1.int; have e2 := h2.int; subst e1 e2
       obtain ⟨⟨hc1, hc2⟩, e⟩ := some_if e
       obtain ⟨t, rfl⟩ := rx
       obtain ⟨t', rfl⟩ := ry
       exact floordiv_int hc1 ⟨V.int _, H, I.tok _, ⟨_, rfl⟩, give_atom o e (.int _) fin⟩ (.inl (PyProof.noPylong_of_log2 hc2)))
theorem pr_mod : OpR X (binaryOp .Mod) (fun x y H Q => PrimT Z .mod [x, y] H Q) := by
  intro pins s σ H x y v u Q I rx ry h
  obtain ⟨Y, R, foot, own, ⟨a, ka⟩, ⟨b, kb⟩, d, k, o, h1, h2, h3, e, fin⟩ := h.two
  have e : modD a b = some (d, k) := e
  cases a <;> cases b <;> first
    | (cases e; done)
    | (have e1 := h1.int; have e2 := h2.int; subst e1 e2
       obtain ⟨hc, e⟩ := some_if e
       exact op_modN pins s σ H _ _ v u Q I rx ry ⟨_, _, rfl, rfl, hc, give_atom o e (.int _) fin⟩)
theorem intBits_le (x : Int) : Builtin.Int.intBits x ≤ x.natAbs.log2 + 1 := by
  unfold Builtin.Int.intBits
  split <;> omega
theorem pr_pow : OpR X (binaryOp .Pow) (fun x y H Q => PrimT Z .pow [x, y] H Q) := by
  intro pins s σ H x y v u Q I rx ry h
  obtain ⟨Y, R, foot, own, ⟨a, ka⟩, ⟨b, kb⟩, d, k, o, h1, h2, h3, e, fin⟩ := h.two
  have e : powD a b = some (d, k) := e
  cases a <;> cases b <;> try (cases e; done)
  case int.int =>
    rename_i i j _
    have e1 := h1.int; have e2 := h2.int; subst e1 e2
    obtain ⟨⟨hc1, hc2, hc3⟩, e⟩ := some_if e
    obtain ⟨t, rfl⟩ := rx
    obtain ⟨t', rfl⟩ := ry
    refine pow_int hc1 ?_ ⟨V.int _, H, I.tok _, ⟨_, rfl⟩, give_atom o e (.int _) fin⟩
    have hb := intBits_le i
    have h5 : (Builtin.Int.intBits i : Int) ≤ 5000 := by omega
    exact Int.le_trans (Int.mul_le_mul h5 hc2 hc1 (by decide : (0 : Int) ≤ 5000)) (by decide : (5000 : Int) * 100 ≤ 2 ^ 27)
theorem pr_neg : UnR X (unaryOp .USub) (fun x H Q => PrimT Z .neg [x] H Q) := by
  intro pins s σ H x v Q I rx h
  obtain ⟨Y, R, foot, own, ⟨a, ka⟩, d, k, o, h1, h3, e, fin⟩ := h.one
  have e : negD a = some (d, k) := e
  cases a <;> first
    | (cases e; done)
    | (have e1 := h1.int; subst e1
       exact un_neg pins s σ H _ v Q I rx ⟨_, rfl, give_atom o e (.int _) fin⟩)
/-- something new with parts that are nobody's own: a list -/
theorem give_list {Y : L2.St} {R : Ev} {foot own : Nat → List Addr} {H : Hp} {d : D} {k : Own} {ds : List D} {vs : List V} {as : List Addr} {Q : VK} (o : OkW Z Y R H foot own) (e : okN (.list ds) = some (d, k)) (r : DAll Z.w Z.K H true vs ds as) (sh : Shr Z own as)
    (fin : ∀ v H', Ok Z (Y ++ [some v]) (R ++ [.vl k d]) H' → Q v H') {p : Addr} (hp : H p = none) : Q (.ref p) (upd H p (.lst vs)) := by
  cases e
  have hown := r.own
  by_cases hi : immL ds = true
  · have ha := r.imm_nil hi
    subst ha
    refine fin _ _ ?_
    have ek : mkK false (.list ds) = .fr := by simp [mkK, immKids, hi]
    rw [ek]
    refine ⟨_, _, (o.alloc hp).push (k := .fr) (as := [p]) (ow := [p]) (.list upd_same (DAll.keep (S := []) (KeepBut.new hp) (by simp) (r.imm_any false hi) (fun _ z => by simp at z))) ?_ ?_ ?_ ⟨rfl, by simp⟩⟩
    · refine ⟨fun a ha j hb => ?_, fun a ha => ?_⟩
      · have e : a = p := by simpa using ha
        subst e
        exact (o.footOwn (o.mine j _ hb).1).some hp
      · have e : a = p := by simpa using ha
        subst e
        exact o.notB hp
    · intro a ha
      have e : a = p := by simpa using ha
      subst e
      refine ⟨by simp, .inr ?_⟩
      cases q : Z.He a with
      | none => rfl
      | some y =>
        by_cases z : a ∈ Z.Lio
        · exact absurd hp (o.io a z).some
        · have := o.keep a y q z
          rw [hp] at this; cases this
    · intro i a ha hb
      have e : a = p := by simpa using hb
      subst e
      exact (o.footOwn ha).some hp
  · have ek : mkK false (.list ds) = .top := by simp [mkK, immKids, hi]
    rw [ek] at fin
    exact fin _ _ (o.pushTop hp ⟨p, as, rfl, rfl, fun z => (hown p z).some hp, .inl ⟨_, _, rfl, upd_same, DAll.keep (S := []) (KeepBut.new hp) (by simp) r (fun _ _ z => by simp at z)⟩⟩ sh hown)
theorem give_tup {Y : L2.St} {R : Ev} {foot own : Nat → List Addr} {H : Hp} {d : D} {k : Own} {ds : List D} {vs : List V} {as : List Addr} {Q : VK} (o : OkW Z Y R H foot own) (e : okT ds = some (d, k)) (r : DAll Z.w Z.K H true vs ds as) (sh : Shr Z own as)
    (fin : ∀ v H', Ok Z (Y ++ [some v]) (R ++ [.vl k d]) H' → Q v H') {p : Addr} (hp : H p = none) : Q (.ref p) (upd H p (.tup vs)) := by
  cases e
  have r' := DAll.keep (S := []) (H' := upd H p (.tup vs)) (KeepBut.new hp) (by simp) r (fun _ _ z => by simp at z)
  by_cases hi : immL ds = true
  · have ha := r'.imm_nil hi
    subst ha
    rw [if_pos hi] at fin
    exact fin _ _ ((o.alloc hp).pushAtom (.tup (SqT.of upd_same) (r'.imm_any false hi)))
  · rw [if_neg hi] at fin
    exact fin _ _ ((o.alloc hp).pushSh (.tup (SqT.of upd_same) r') sh)
/-- a part that is handed on -/
theorem give_part {Y : L2.St} {R : Ev} {foot own : Nat → List Addr} {H : Hp} {d d' : D} {k : Own} {v : V} {as : List Addr} {Q : VK} (o : OkW Z Y R H foot own) (e : okP d' = some (d, k)) (r : DRep Z.w Z.K H true v d' as) (sh : Shr Z own as)
    (fin : ∀ v H', Ok Z (Y ++ [some v]) (R ++ [.vl k d]) H' → Q v H') : Q v H := by
  cases e
  exact fin v H (o.pushSh r sh)
theorem cat_lists {prog : Program} {w : World} {A : Around} {E : Value → Shared → Prop} {s : Shared} {l b : Addr} {vs ws : List Value} {Q : Value → Shared → Prop} (hl : s.heap.IsList l vs.toArray) (hb : s.heap.IsList b ws.toArray)
    (h : Q (.ref s.heap.objs.size) { s with heap := s.heap.push { cls := .type "list", data := .seq (vs ++ ws).toArray } }) (hsz : vs.length + ws.length ≤ sizeLine) : wpAny (model prog w) A (binaryOp .Add (.ref l) (.ref b)) Q E s := by
  obtain ⟨⟨c1, d1, x1, s1⟩, ho, hc, n, hd⟩ := id hl
  obtain ⟨⟨c2, d2, x2, s2⟩, ho2, hc2, n2, hd2⟩ := id hb
  simp only at hc hd hc2 hd2
  subst hc hd hc2 hd2
  have e : vs.toArray ++ ws.toArray = (vs ++ ws).toArray := by simp
  refine concat_meets ⟨_, ho, rfl⟩ ⟨_, ho2, rfl⟩ noFill_list_add seq_list_add PySem.F.slot_list_add PySem.F.entry_list_add (PySem.F.args_list_add_2 _ _)
    (list_addW l b vs.toArray ws.toArray n n2 d1 d2 s1 s2 (by simpa using hsz)) ⟨ho, ho2, ?_⟩
  rw [e]
  exact h
theorem str_app_len (x y : Str) : (x ++ y).length = x.length + y.length := by
  show (x.cps ++ y.cps).size = _
  rw [Array.size_append]; rfl
theorem pr_add (zx : ZX Z X) : OpR X (binaryOp .Add) (fun x y H Q => PrimT Z .add [x, y] H Q) := by
  intro pins s σ H x y v u Q I rx ry h
  obtain ⟨Y, R, foot, own, ⟨a, ka⟩, ⟨b, kb⟩, d, k, o, h1, h2, h3, e, fin⟩ := h.two
  have kn := True.intro
  have e : addD a b = some (d, k) := e
  obtain ⟨g1, g2⟩ := h3 rfl
  cases a <;> cases b <;> try (cases e; done)
  case int.int =>
    have e1 := h1.int; have e2 := h2.int; subst e1 e2
    exact op_add pins s σ H _ _ v u Q I rx ry ⟨_, _, rfl, rfl, give_atom o e (.int _) fin⟩
  case int.bool =>
    have e1 := h1.int; have e2 := h2.bool; subst e1 e2
    refine op_add_ib pins s σ H _ _ v u Q I rx ry ⟨_, _, rfl, rfl, give_atom o e ?_ fin⟩
    rename_i i c
    cases c <;> exact .int _
  case str.str =>
    have e1 := h1.str; have e2 := h2.str; subst e1 e2
    obtain ⟨hc, e⟩ := some_if e
    exact op_add_str pins s σ H _ _ v u Q I rx ry ⟨_, _, rfl, rfl, line_le hc, give_atom o e (.str _ (by rw [str_app_len]; exact line_le hc)) fin⟩
  case list.list =>
    obtain ⟨p, vs, as, rfl, q1, r1, s1⟩ := g1.list kn
    obtain ⟨p2, vs2, as2, rfl, q2, r2, s2⟩ := g2.list kn
    obtain ⟨hc, e⟩ := some_if e
    cases rx; cases ry
    rw [zx.K] at q1 q2
    obtain ⟨its, t1, u1, _⟩ := I.list q1
    obtain ⟨its2, t2, u2, _⟩ := I.list q2
    have hz : vs.length + vs2.length ≤ sizeLine := by rw [r1.length, r2.length]; exact line_le hc
    refine cat_lists u1.isList u2.isList ?_ (by rw [← t1.length, ← t2.length]; exact hz)
    exact ⟨.ref _, _, I.lnew (t' := s.toks) (t1.append t2) (by rw [List.length_append]; exact hz), rfl, give_list o e (r1.append r2) (s1.append s2) fin I.fresh⟩
  case tuple.tuple =>
    rename_i x1 y1
    obtain ⟨p, vs, as, rfl, q1, r1, s1⟩ := g1.tuple kn
    obtain ⟨p2, vs2, as2, rfl, q2, r2, s2⟩ := g2.tuple kn
    obtain ⟨hc, e⟩ := some_if e
    simp only [Bool.and_eq_true, Bool.not_eq_true', List.isEmpty_eq_false_iff] at hc
    obtain ⟨⟨hc, hx⟩, hy⟩ := hc
    rw [zx.K] at q1 q2
    have hz : vs.length + vs2.length ≤ sizeLine := by rw [r1.length, r2.length]; exact line_le hc
    refine op_catT pins s σ H _ _ v u Q I rx ry ⟨p, p2, vs, vs2, rfl, rfl, q1, q2, fun z => hx ?_, hz, fun z => absurd ?_ hy, fun _ p hp => ?_⟩
    · have := r1.length; rw [z] at this; exact List.length_eq_zero_iff.mp this.symm
    · have := r2.length; rw [z] at this; exact List.length_eq_zero_iff.mp this.symm
    · exact give_tup o e (r1.append r2) (s1.append s2) fin hp
end
end TH
end
section
set_option Elab.async false
set_option linter.all false
set_option maxRecDepth 100000
namespace TH
open PySem PySem.Spec PyProof.Rows L2

/-! trees as the library reads them -/
section
variable {X : Cx} {pins : List (Addr × Obj)} {σ : L2.St} {H : Hp} {s : Shared}
theorem ext_at (I : Inv X pins σ H s) {a : Addr} {o : Obj} (h : H a = some (.ext (isObj a o))) : s.heap.get? a = some o := by
  obtain ⟨p, _⟩ := I.hok a _ h
  exact p
/-- the table of modules is none of the tracked things -/
def SysD (X : Cx) : Prop := (∃ o, X.base.get? sysModules = some o) ∧ X.K.lookup sysModules = none
theorem not_sys (I : Inv X pins σ H s) {a : Addr} (h : H a ≠ none ∨ X.K.lookup a ≠ none) (hs : SysD X) : a ≠ sysModules := fun e => by
  subst e
  obtain ⟨⟨o', e1⟩, e2⟩ := hs
  rcases h with h | h
  · exact h (I.bs _ _ e1).2
  · exact h e2
mutual
theorem DRep.reads (I : Inv X pins σ H s) : ∀ {c : Bool} {v : V} {d : D} {as : List Addr} {u : Value}, DRep X.w X.K H c v d as → RelV v u → ∃ bs, Reads s.heap u d bs ∧ (SysD X → sysModules ∉ bs)
  | _, _, _, _, _, .none, r => by cases r; exact ⟨_, .none, fun _ => by simp⟩
  | _, _, _, _, _, .bool b, r => by cases r; exact ⟨_, .bool b, fun _ => by simp⟩
  | _, _, _, _, _, .int i, r => by obtain ⟨t, rfl⟩ := r; exact ⟨_, .int i t, fun _ => by simp⟩
  | _, _, _, _, _, .str x _, r => by obtain ⟨t, rfl⟩ := r; exact ⟨_, .str x t, fun _ => by simp⟩
  | _, _, _, _, _, .list e q, r => by
    cases r
    obtain ⟨its, rv, ⟨o, n, h1, h2, h3, h4⟩, _⟩ := I.list (SqL.of e)
    obtain ⟨bs, rs, ns⟩ := DAll.reads I q rv
    exact ⟨_, .list h1 h2 h4 (by simpa using rs), fun hs z => (List.mem_cons.mp z).elim (fun e2 => not_sys I (.inl (by rw [e]; simp)) hs e2.symm) (ns hs)⟩
  | _, _, _, _, _, .listF _ e q, r => by
    cases r
    obtain ⟨its, rv, ⟨o, n, h1, h2, h3, h4⟩, _⟩ := I.list e.sql
    obtain ⟨bs, rs, ns⟩ := DAll.reads I q rv
    exact ⟨_, .list h1 h2 h4 (by simpa using rs), fun hs z => (List.mem_cons.mp z).elim (fun e2 => not_sys I (e.elim (fun ⟨o, e⟩ => .inl (by rw [e]; simp)) fun ⟨o, _, _, e, _⟩ => .inr (by rw [e]; simp)) hs e2.symm) (ns hs)⟩
  | _, _, _, _, _, .tup e q, r => by
    cases r
    obtain ⟨its, rv, ⟨o, h1, h2, n, h4⟩, _⟩ := I.tuple e
    obtain ⟨bs, rs, ns⟩ := DAll.reads I q rv
    exact ⟨_, .tuple h1 h2 h4 (by simpa using rs), ns⟩
  | _, _, _, _, _, .dict e hm _ q _, r => by
    cases r
    obtain ⟨as1, as2, k1, k2, n1, n2⟩ := DEnts.reads I q
    exact ⟨_, .dict (ext_at I e) rfl rfl k1 k2, fun hs z => (List.mem_cons.mp z).elim (fun e => hm e.symm) fun z => (List.mem_append.mp z).elim (n1 hs) (n2 hs)⟩
  | _, _, _, _, _, .dictF _ e c d hm _ q _, r => by
    cases r
    obtain ⟨as1, as2, k1, k2, n1, n2⟩ := DEnts.reads I q
    exact ⟨_, .dict (I.kIn _ _ e) c.1 d k1 k2, fun hs z => (List.mem_cons.mp z).elim (fun e => hm e.symm) fun z => (List.mem_append.mp z).elim (n1 hs) (n2 hs)⟩
theorem DAll.reads (I : Inv X pins σ H s) : ∀ {c : Bool} {vs : List V} {ds : List D} {as : List Addr} {us : List Value}, DAll X.w X.K H c vs ds as → Vals vs us → ∃ bs, ReadsAll s.heap us ds bs ∧ (SysD X → sysModules ∉ bs)
  | _, _, _, _, _, .nil, r => by cases r; exact ⟨_, .nil, fun _ => by simp⟩
  | _, _, _, _, _, .cons q qs, r => by
    cases r with
    | cons r rs =>
      obtain ⟨b1, h1, n1⟩ := DRep.reads I q r
      obtain ⟨b2, h2, n2⟩ := DAll.reads I qs rs
      exact ⟨_, .cons h1 h2, fun hs z => (List.mem_append.mp z).elim (n1 hs) (n2 hs)⟩
theorem DEnts.reads (I : Inv X pins σ H s) : ∀ {c : Bool} {es : List DictEntry} {kvs : List (D × D)} {as : List Addr}, DEnts X.w X.K H c es kvs as →
    ∃ b1 b2, ReadsAll s.heap (es.map (·.key)) (kvs.map (·.1)) b1 ∧ ReadsAll s.heap (es.map (·.val)) (kvs.map (·.2)) b2 ∧ (SysD X → sysModules ∉ b1) ∧ (SysD X → sysModules ∉ b2)
  | _, _, _, _, .nil => ⟨_, _, .nil, .nil, fun _ => by simp, fun _ => by simp⟩
  | _, _, _, _, .cons h1 r1 h2 h3 h4 r rs => by
    obtain ⟨b1, q1, n1⟩ := DRep.reads I r1 h1
    obtain ⟨b2, q2, n2⟩ := DRep.reads I r h4
    obtain ⟨b3, b4, q3, q4, n3, n4⟩ := DEnts.reads I rs
    exact ⟨_, _, .cons q1 q3, .cons q2 q4, fun hs z => (List.mem_append.mp z).elim (n1 hs) (n3 hs), fun hs z => (List.mem_append.mp z).elim (n2 hs) (n4 hs)⟩
end
theorem Arg0.reads2 {Z : Cf} (zx : ZX Z X) (I : Inv X pins σ H s) {v : V} {d : D} {u : Value} (h : Arg0 Z H v d) (r : RelV v u) : ∃ bs, Reads s.heap u d bs ∧ (SysD X → sysModules ∉ bs) := by
  obtain ⟨as, q⟩ := h
  rw [zx.w, zx.K] at q
  exact q.reads I r
theorem Arg0.reads {Z : Cf} (zx : ZX Z X) (I : Inv X pins σ H s) {v : V} {d : D} {u : Value} (h : Arg0 Z H v d) (r : RelV v u) : ∃ bs, Reads s.heap u d bs := let ⟨bs, q, _⟩ := h.reads2 zx I r; ⟨bs, q⟩
end

/-! == -/
mutual
theorem eqD_refl : ∀ d : D, noD d = true → eqD d d = true
  | .none, _ => by simp [eqD]
  | .bool b, _ => by simp [eqD]
  | .int i, _ => by simp [eqD]
  | .str x, _ => by simp [eqD]
  | .list xs, h => by simp only [eqD]; exact eqDs_refl xs (by simpa [noD] using h)
  | .tuple xs, h => by simp only [eqD]; exact eqDs_refl xs (by simpa [noD] using h)
  | .dict _, h => by simp [noD] at h
theorem eqDs_refl : ∀ xs : List D, noDs xs = true → eqDs xs xs = true
  | [], _ => by simp [eqDs]
  | x :: xs, h => by
    simp [noDs] at h
    simp [eqDs, eqD_refl x h.1, eqDs_refl xs h.2]
end
def pairE (xs ys : List D) (j : Nat) : Bool := match xs[j]?, ys[j]? with | some x, some y => eqD x y | _, _ => false
theorem eqDs_all : ∀ xs ys : List D, ((List.range (min xs.length ys.length)).all (pairE xs ys) && xs.length == ys.length) = eqDs xs ys
  | [], [] => by simp [eqDs]
  | [], _ :: _ => by simp [eqDs]
  | _ :: _, [] => by simp [eqDs]
  | x :: xs, y :: ys => by
    have ih := eqDs_all xs ys
    simp only [eqDs, List.length_cons, Nat.succ_min_succ, List.range_succ_eq_map, List.all_cons, List.all_map, pairE]
    rw [← ih]
    have e : ((pairE (x :: xs) (y :: ys)) ∘ Nat.succ) = pairE xs ys := by
      funext j
      simp [pairE]
    rw [e]
    simp [Bool.and_assoc, pairE]
open SeqAt in
mutual
theorem eqAt_r : ∀ (da db : D) (A : Around) (s : Shared) (a b : Value) (as bs : List Addr), Reads s.heap a da as → Reads s.heap b db bs → noD da = true → noD db = true → A.units + min da.depth db.depth < cLine → EqAt A s a b (eqD da db)
  | .none, db, A, s, _, _, _, _, ra, rb, _, hb, hu => by
    cases ra
    cases rb with
    | none => simp only [eqD]; exact EqAt.same _
    | bool y => simp only [eqD]; exact EqAt.none_bool y
    | int y u => simp only [eqD]; exact EqAt.none_int y u
    | str y u => simp only [eqD]; exact EqAt.none_str y u
    | list k1 k2 k3 k4 => simp only [eqD]; exact EqAt.none_list ⟨_, k1, k2, _, k3⟩ (SeqAt.room_here hu)
    | tuple k1 k2 k3 k4 => simp only [eqD]; exact EqAt.none_tuple ⟨_, k1, k2, _, k3⟩ (SeqAt.room_here hu)
    | dict => simp [noD] at hb
  | .bool x, db, A, s, _, _, _, _, ra, rb, _, hb, hu => by
    cases ra
    cases rb with
    | none => simp only [eqD]; exact EqAt.bool_none x
    | bool y => simp only [eqD]; exact EqAt.bool_bool x y
    | int y u => simp only [eqD]; exact EqAt.bool_int x y u
    | str y u => simp only [eqD]; exact EqAt.bool_str x y u
    | list k1 k2 k3 k4 => simp only [eqD]; exact EqAt.bool_list x ⟨_, k1, k2, _, k3⟩ (SeqAt.room_here hu)
    | tuple k1 k2 k3 k4 => simp only [eqD]; exact EqAt.bool_tuple x ⟨_, k1, k2, _, k3⟩ (SeqAt.room_here hu)
    | dict => simp [noD] at hb
  | .int x, db, A, s, _, _, _, _, ra, rb, _, hb, hu => by
    cases ra with
    | int _ t =>
      cases rb with
      | none => simp only [eqD]; exact EqAt.int_none x t
      | bool y => simp only [eqD]; exact EqAt.int_bool x t y
      | int y u => simp only [eqD]; exact EqAt.int_int x t y u
      | str y u => simp only [eqD]; exact EqAt.int_str x t y u
      | list k1 k2 k3 k4 => simp only [eqD]; exact EqAt.int_list x t ⟨_, k1, k2, _, k3⟩ (SeqAt.room_here hu)
      | tuple k1 k2 k3 k4 => simp only [eqD]; exact EqAt.int_tuple x t ⟨_, k1, k2, _, k3⟩ (SeqAt.room_here hu)
      | dict => simp [noD] at hb
  | .str x, db, A, s, _, _, _, _, ra, rb, _, hb, hu => by
    cases ra with
    | str _ t =>
      cases rb with
      | none => simp only [eqD]; exact EqAt.str_none x t
      | bool y => simp only [eqD]; exact EqAt.str_bool x t y
      | int y u => simp only [eqD]; exact EqAt.str_int x t y u
      | str y u => simp only [eqD]; exact EqAt.str_str x t y u
      | list k1 k2 k3 k4 => simp only [eqD]; exact EqAt.str_list x t ⟨_, k1, k2, _, k3⟩ (SeqAt.room_here hu)
      | tuple k1 k2 k3 k4 => simp only [eqD]; exact EqAt.str_tuple x t ⟨_, k1, k2, _, k3⟩ (SeqAt.room_here hu)
      | dict => simp [noD] at hb
  | .list xs, db, A, s, _, _, _, _, ra, rb, ha, hb, hu => by
    cases ra with
    | @list l o vs n _ as₁ h1 h2 h3 h4 =>
      have hl : s.heap.IsList l vs := ⟨_, h1, h2, _, h3⟩
      cases rb with
      | none => simp only [eqD]; exact EqAt.list_none hl (SeqAt.room_here hu)
      | bool y => simp only [eqD]; exact EqAt.list_bool y hl (SeqAt.room_here hu)
      | int y u => simp only [eqD]; exact EqAt.list_int y u hl (SeqAt.room_here hu)
      | str y u => simp only [eqD]; exact EqAt.list_str y u hl (SeqAt.room_here hu)
      | tuple k1 k2 k3 k4 => simp only [eqD]; exact EqAt.list_tuple hl ⟨_, k1, k2, _, k3⟩ (SeqAt.room_here hu)
      | dict => simp [noD] at hb
      | @list l' o' vs' n' ys bs₁ k1 k2 k3 k4 =>
        have hl' : s.heap.IsList l' vs' := ⟨_, k1, k2, _, k3⟩
        have n1 : vs.size = xs.length := by simpa using ReadsAll.length _ _ _ h4
        have n2 : vs'.size = ys.length := by simpa using ReadsAll.length _ _ _ k4
        simp only [eqD]
        by_cases hll : l = l'
        · subst hll
          have e := (PyProof.Rows.reads_det (fun _ _ q _ => q) (Reads.list h1 h2 h3 h4) (Reads.list k1 k2 k3 k4)).1
          injection e with e
          subst e
          rw [eqDs_refl ys (by simpa [noD] using hb)]
          exact EqAt.same _
        · by_cases hsz : vs.size = vs'.size
          · have e : eqDs xs ys = (List.range vs.size).all (pairE xs ys) := by
              rw [← eqDs_all xs ys]
              have e2 : min xs.length ys.length = vs.size := by omega
              rw [e2]
              have e3 : (xs.length == ys.length) = true := by simp; omega
              rw [e3, Bool.and_true]
            rw [e]
            refine EqAt.of_refs hll (RcAt.lists hl hl' hsz (SeqAt.room_here hu) fun j j1 j2 => ?_)
            have := eqAt_rs xs ys A.in1 s vs.toList vs'.toList _ _ h4 k4 (by simpa [noD] using ha) (by simpa [noD] using hb) (SeqAt.room_in hu) j (by simpa using j1) (by simpa using j2)
            simpa using this
          · have e : eqDs xs ys = false := by
              rw [← eqDs_all xs ys]
              have e3 : (xs.length == ys.length) = false := by simp; omega
              rw [e3, Bool.and_false]
            rw [e]
            exact EqAt.of_refs hll (RcAt.lists_lengths hl hl' (by simpa using hsz) (SeqAt.room_here hu))
  | .tuple xs, db, A, s, _, _, _, _, ra, rb, ha, hb, hu => by
    cases ra with
    | @tuple l o vs n _ as₁ h1 h2 h3 h4 =>
      have hl : s.heap.IsTuple l vs := ⟨_, h1, h2, _, h3⟩
      cases rb with
      | none => simp only [eqD]; exact EqAt.tuple_none hl (SeqAt.room_here hu)
      | bool y => simp only [eqD]; exact EqAt.tuple_bool y hl (SeqAt.room_here hu)
      | int y u => simp only [eqD]; exact EqAt.tuple_int y u hl (SeqAt.room_here hu)
      | str y u => simp only [eqD]; exact EqAt.tuple_str y u hl (SeqAt.room_here hu)
      | list k1 k2 k3 k4 => simp only [eqD]; exact EqAt.tuple_list hl ⟨_, k1, k2, _, k3⟩ (SeqAt.room_here hu)
      | dict => simp [noD] at hb
      | @tuple l' o' vs' n' ys bs₁ k1 k2 k3 k4 =>
        have hl' : s.heap.IsTuple l' vs' := ⟨_, k1, k2, _, k3⟩
        have n1 : vs.size = xs.length := by simpa using ReadsAll.length _ _ _ h4
        have n2 : vs'.size = ys.length := by simpa using ReadsAll.length _ _ _ k4
        simp only [eqD]
        by_cases hll : l = l'
        · subst hll
          have e := (PyProof.Rows.reads_det (fun _ _ q _ => q) (Reads.tuple h1 h2 h3 h4) (Reads.tuple k1 k2 k3 k4)).1
          injection e with e
          subst e
          rw [eqDs_refl ys (by simpa [noD] using hb)]
          exact EqAt.same _
        · rw [← eqDs_all xs ys, ← n1, ← n2]
          refine EqAt.of_refs hll (RcAt.tuples hl hl' (SeqAt.room_here hu) fun j j1 j2 => ?_)
          have := eqAt_rs xs ys A.in1 s vs.toList vs'.toList _ _ h4 k4 (by simpa [noD] using ha) (by simpa [noD] using hb) (SeqAt.room_in hu) j (by simpa using j1) (by simpa using j2)
          simpa using this
  | .dict _, _, _, _, _, _, _, _, _, _, ha, _, _ => by simp [noD] at ha
theorem eqAt_rs : ∀ (xs ys : List D) (A : Around) (s : Shared) (vs ws : List Value) (as bs : List Addr), ReadsAll s.heap vs xs as → ReadsAll s.heap ws ys bs → noDs xs = true → noDs ys = true →
    A.units + min (PyData.depthAll xs) (PyData.depthAll ys) < cLine → ∀ j (h1 : j < vs.length) (h2 : j < ws.length), EqAt A s vs[j] ws[j] (pairE xs ys j)
  | [], _, _, _, _, _, _, _, ra, _, _, _, _, j, h1, _ => by cases ra; exact absurd h1 (Nat.not_lt_zero _)
  | _ :: _, [], _, _, _, _, _, _, _, rb, _, _, _, j, _, h2 => by cases rb; exact absurd h2 (Nat.not_lt_zero _)
  | x :: xs, y :: ys, A, s, _, _, _, _, ra, rb, ha, hb, hu, j, h1, h2 => by
    simp [noDs] at ha hb
    cases ra with
    | cons r rs =>
      cases rb with
      | cons r' rs' =>
        cases j with
        | zero => exact eqAt_r x y A s _ _ _ _ r r' ha.1 hb.1 (SeqAt.room_head hu)
        | succ j => exact eqAt_rs xs ys A s _ _ _ _ rs rs' ha.2 hb.2 (SeqAt.room_tail hu) j (by simpa using h1) (by simpa using h2)
end
end TH
end
section
set_option Elab.async false
set_option linter.all false
set_option maxRecDepth 100000
namespace TH
open PySem PySem.Spec PyProof.Rows L2

theorem rcAt_r {da db : D} {A : Around} {s : Shared} {a b : Value} {as bs : List Addr} (ra : Reads s.heap a da as) (rb : Reads s.heap b db bs) (ha : noD da = true) (hb : noD db = true) (hu : A.units + min da.depth db.depth < cLine) : SeqAt.RcAt A s a b (eqD da db) := by
  cases ra with
  | none =>
    cases rb with
    | none =>
      simp only [eqD]; exact SeqAt.RcAt.none_none
    | bool y =>
      simp only [eqD]; exact SeqAt.RcAt.none_bool  y
    | int y u =>
      simp only [eqD]; exact SeqAt.RcAt.none_int  y u
    | str y u =>
      simp only [eqD]; exact SeqAt.RcAt.none_str  y u
    | list k1 k2 k3 k4 =>
      simp only [eqD]; exact SeqAt.RcAt.none_list   ⟨_, k1, k2, _, k3⟩ (SeqAt.room_here hu)
    | tuple k1 k2 k3 k4 =>
      simp only [eqD]; exact SeqAt.RcAt.none_tuple   ⟨_, k1, k2, _, k3⟩ (SeqAt.room_here hu)
    | dict => simp [noD] at hb
  | bool x =>
    cases rb with
    | none =>
      simp only [eqD]; exact SeqAt.RcAt.bool_none x
    | bool y =>
      simp only [eqD]; exact SeqAt.RcAt.bool_bool x y
    | int y u =>
      simp only [eqD]; exact SeqAt.RcAt.bool_int x y u
    | str y u =>
      simp only [eqD]; exact SeqAt.RcAt.bool_str x y u
    | list k1 k2 k3 k4 =>
      simp only [eqD]; exact SeqAt.RcAt.bool_list x  ⟨_, k1, k2, _, k3⟩ (SeqAt.room_here hu)
    | tuple k1 k2 k3 k4 =>
      simp only [eqD]; exact SeqAt.RcAt.bool_tuple x  ⟨_, k1, k2, _, k3⟩ (SeqAt.room_here hu)
    | dict => simp [noD] at hb
  | int x t =>
    cases rb with
    | none =>
      simp only [eqD]; exact SeqAt.RcAt.int_none x t
    | bool y =>
      simp only [eqD]; exact SeqAt.RcAt.int_bool x t y
    | int y u =>
      simp only [eqD]; exact SeqAt.RcAt.int_int x t y u
    | str y u =>
      simp only [eqD]; exact SeqAt.RcAt.int_str x t y u
    | list k1 k2 k3 k4 =>
      simp only [eqD]; exact SeqAt.RcAt.int_list x t  ⟨_, k1, k2, _, k3⟩ (SeqAt.room_here hu)
    | tuple k1 k2 k3 k4 =>
      simp only [eqD]; exact SeqAt.RcAt.int_tuple x t  ⟨_, k1, k2, _, k3⟩ (SeqAt.room_here hu)
    | dict => simp [noD] at hb
  | str x t =>
    cases rb with
    | none =>
      simp only [eqD]; exact SeqAt.RcAt.str_none x t
    | bool y =>
      simp only [eqD]; exact SeqAt.RcAt.str_bool x t y
    | int y u =>
      simp only [eqD]; exact SeqAt.RcAt.str_int x t y u
    | str y u =>
      simp only [eqD]; exact SeqAt.RcAt.str_str x t y u
    | list k1 k2 k3 k4 =>
      simp only [eqD]; exact SeqAt.RcAt.str_list x t  ⟨_, k1, k2, _, k3⟩ (SeqAt.room_here hu)
    | tuple k1 k2 k3 k4 =>
      simp only [eqD]; exact SeqAt.RcAt.str_tuple x t  ⟨_, k1, k2, _, k3⟩ (SeqAt.room_here hu)
    | dict => simp [noD] at hb
  | @list l o vs n xs as₁ h1 h2 h3 h4 =>
    cases rb with
    | none =>
      simp only [eqD]; exact SeqAt.RcAt.list_none   ⟨_, h1, h2, _, h3⟩ (SeqAt.room_here hu)
    | bool y =>
      simp only [eqD]; exact SeqAt.RcAt.list_bool  y ⟨_, h1, h2, _, h3⟩ (SeqAt.room_here hu)
    | int y u =>
      simp only [eqD]; exact SeqAt.RcAt.list_int  y u ⟨_, h1, h2, _, h3⟩ (SeqAt.room_here hu)
    | str y u =>
      simp only [eqD]; exact SeqAt.RcAt.list_str  y u ⟨_, h1, h2, _, h3⟩ (SeqAt.room_here hu)
    | tuple k1 k2 k3 k4 =>
      simp only [eqD]; exact SeqAt.RcAt.list_tuple   ⟨_, h1, h2, _, h3⟩ ⟨_, k1, k2, _, k3⟩ (SeqAt.room_here hu)
    | dict => simp [noD] at hb
    | @list l' o' vs' n' ys bs₁ k1 k2 k3 k4 =>
      have n1 : vs.size = xs.length := by simpa using SeqAt.ReadsAll.length _ _ _ h4
      have n2 : vs'.size = ys.length := by simpa using SeqAt.ReadsAll.length _ _ _ k4
      simp only [eqD]
      by_cases hsz : vs.size = vs'.size
      · have e : eqDs xs ys = (List.range vs.size).all (pairE xs ys) := by
          rw [← eqDs_all xs ys]
          have e2 : min xs.length ys.length = vs.size := by omega
          rw [e2]
          have e3 : (xs.length == ys.length) = true := by simp; omega
          rw [e3, Bool.and_true]
        rw [e]
        refine SeqAt.RcAt.lists ⟨_, h1, h2, _, h3⟩ ⟨_, k1, k2, _, k3⟩ hsz (SeqAt.room_here hu) fun j j1 j2 => ?_
        have := eqAt_rs xs ys A.in1 s vs.toList vs'.toList _ _ h4 k4 (by simpa [noD] using ha) (by simpa [noD] using hb) (SeqAt.room_in hu) j (by simpa using j1) (by simpa using j2)
        simpa using this
      · have e : eqDs xs ys = false := by
          rw [← eqDs_all xs ys]
          have e3 : (xs.length == ys.length) = false := by simp; omega
          rw [e3, Bool.and_false]
        rw [e]
        exact SeqAt.RcAt.lists_lengths ⟨_, h1, h2, _, h3⟩ ⟨_, k1, k2, _, k3⟩ (by simpa using hsz) (SeqAt.room_here hu)
  | @tuple l o vs n xs as₁ h1 h2 h3 h4 =>
    cases rb with
    | none =>
      simp only [eqD]; exact SeqAt.RcAt.tuple_none   ⟨_, h1, h2, _, h3⟩ (SeqAt.room_here hu)
    | bool y =>
      simp only [eqD]; exact SeqAt.RcAt.tuple_bool  y ⟨_, h1, h2, _, h3⟩ (SeqAt.room_here hu)
    | int y u =>
      simp only [eqD]; exact SeqAt.RcAt.tuple_int  y u ⟨_, h1, h2, _, h3⟩ (SeqAt.room_here hu)
    | str y u =>
      simp only [eqD]; exact SeqAt.RcAt.tuple_str  y u ⟨_, h1, h2, _, h3⟩ (SeqAt.room_here hu)
    | list k1 k2 k3 k4 =>
      simp only [eqD]; exact SeqAt.RcAt.tuple_list   ⟨_, h1, h2, _, h3⟩ ⟨_, k1, k2, _, k3⟩ (SeqAt.room_here hu)
    | dict => simp [noD] at hb
    | @tuple l' o' vs' n' ys bs₁ k1 k2 k3 k4 =>
      have n1 : vs.size = xs.length := by simpa using SeqAt.ReadsAll.length _ _ _ h4
      have n2 : vs'.size = ys.length := by simpa using SeqAt.ReadsAll.length _ _ _ k4
      simp only [eqD]
      rw [← eqDs_all xs ys, ← n1, ← n2]
      refine SeqAt.RcAt.tuples ⟨_, h1, h2, _, h3⟩ ⟨_, k1, k2, _, k3⟩ (SeqAt.room_here hu) fun j j1 j2 => ?_
      have := eqAt_rs xs ys A.in1 s vs.toList vs'.toList _ _ h4 k4 (by simpa [noD] using ha) (by simpa [noD] using hb) (SeqAt.room_in hu) j (by simpa using j1) (by simpa using j2)
      simpa using this
  | dict => simp [noD] at ha
theorem rcNe_r {da db : D} {A : Around} {s : Shared} {a b : Value} {as bs : List Addr} (ra : Reads s.heap a da as) (rb : Reads s.heap b db bs) (ha : noD da = true) (hb : noD db = true) (hu : A.units + min da.depth db.depth < cLine) : SeqAt.RcNeAt A s a b (!eqD da db) := by
  cases ra with
  | none =>
    cases rb with
    | none =>
      simp only [eqD]; exact SeqAt.RcNeAt.none_none
    | bool y =>
      simp only [eqD]; exact SeqAt.RcNeAt.none_bool  y
    | int y u =>
      simp only [eqD]; exact SeqAt.RcNeAt.none_int  y u
    | str y u =>
      simp only [eqD]; exact SeqAt.RcNeAt.none_str  y u
    | list k1 k2 k3 k4 =>
      simp only [eqD]; exact SeqAt.RcNeAt.none_list   ⟨_, k1, k2, _, k3⟩ (SeqAt.room_here hu)
    | tuple k1 k2 k3 k4 =>
      simp only [eqD]; exact SeqAt.RcNeAt.none_tuple   ⟨_, k1, k2, _, k3⟩ (SeqAt.room_here hu)
    | dict => simp [noD] at hb
  | bool x =>
    cases rb with
    | none =>
      simp only [eqD]; exact SeqAt.RcNeAt.bool_none x
    | bool y =>
      simp only [eqD]; exact SeqAt.RcNeAt.bool_bool x y
    | int y u =>
      simp only [eqD]; exact SeqAt.RcNeAt.bool_int x y u
    | str y u =>
      simp only [eqD]; exact SeqAt.RcNeAt.bool_str x y u
    | list k1 k2 k3 k4 =>
      simp only [eqD]; exact SeqAt.RcNeAt.bool_list x  ⟨_, k1, k2, _, k3⟩ (SeqAt.room_here hu)
    | tuple k1 k2 k3 k4 =>
      simp only [eqD]; exact SeqAt.RcNeAt.bool_tuple x  ⟨_, k1, k2, _, k3⟩ (SeqAt.room_here hu)
    | dict => simp [noD] at hb
  | int x t =>
    cases rb with
    | none =>
      simp only [eqD]; exact SeqAt.RcNeAt.int_none x t
    | bool y =>
      simp only [eqD]; exact SeqAt.RcNeAt.int_bool x t y
    | int y u =>
      simp only [eqD]; exact SeqAt.RcNeAt.int_int x t y u
    | str y u =>
      simp only [eqD]; exact SeqAt.RcNeAt.int_str x t y u
    | list k1 k2 k3 k4 =>
      simp only [eqD]; exact SeqAt.RcNeAt.int_list x t  ⟨_, k1, k2, _, k3⟩ (SeqAt.room_here hu)
    | tuple k1 k2 k3 k4 =>
      simp only [eqD]; exact SeqAt.RcNeAt.int_tuple x t  ⟨_, k1, k2, _, k3⟩ (SeqAt.room_here hu)
    | dict => simp [noD] at hb
  | str x t =>
    cases rb with
    | none =>
      simp only [eqD]; exact SeqAt.RcNeAt.str_none x t
    | bool y =>
      simp only [eqD]; exact SeqAt.RcNeAt.str_bool x t y
    | int y u =>
      simp only [eqD]; exact SeqAt.RcNeAt.str_int x t y u
    | str y u =>
      simp only [eqD]; exact SeqAt.RcNeAt.str_str x t y u
    | list k1 k2 k3 k4 =>
      simp only [eqD]; exact SeqAt.RcNeAt.str_list x t  ⟨_, k1, k2, _, k3⟩ (SeqAt.room_here hu)
    | tuple k1 k2 k3 k4 =>
      simp only [eqD]; exact SeqAt.RcNeAt.str_tuple x t  ⟨_, k1, k2, _, k3⟩ (SeqAt.room_here hu)
    | dict => simp [noD] at hb
  | @list l o vs n xs as₁ h1 h2 h3 h4 =>
    cases rb with
    | none =>
      simp only [eqD]; exact SeqAt.RcNeAt.list_none   ⟨_, h1, h2, _, h3⟩ (SeqAt.room_here hu)
    | bool y =>
      simp only [eqD]; exact SeqAt.RcNeAt.list_bool  y ⟨_, h1, h2, _, h3⟩ (SeqAt.room_here hu)
    | int y u =>
      simp only [eqD]; exact SeqAt.RcNeAt.list_int  y u ⟨_, h1, h2, _, h3⟩ (SeqAt.room_here hu)
    | str y u =>
      simp only [eqD]; exact SeqAt.RcNeAt.list_str  y u ⟨_, h1, h2, _, h3⟩ (SeqAt.room_here hu)
    | tuple k1 k2 k3 k4 =>
      simp only [eqD]; exact SeqAt.RcNeAt.list_tuple   ⟨_, h1, h2, _, h3⟩ ⟨_, k1, k2, _, k3⟩ (SeqAt.room_here hu)
    | dict => simp [noD] at hb
    | @list l' o' vs' n' ys bs₁ k1 k2 k3 k4 =>
      have n1 : vs.size = xs.length := by simpa using SeqAt.ReadsAll.length _ _ _ h4
      have n2 : vs'.size = ys.length := by simpa using SeqAt.ReadsAll.length _ _ _ k4
      simp only [eqD]
      by_cases hsz : vs.size = vs'.size
      · have e : eqDs xs ys = (List.range vs.size).all (pairE xs ys) := by
          rw [← eqDs_all xs ys]
          have e2 : min xs.length ys.length = vs.size := by omega
          rw [e2]
          have e3 : (xs.length == ys.length) = true := by simp; omega
          rw [e3, Bool.and_true]
        rw [e]
        refine SeqAt.RcNeAt.lists ⟨_, h1, h2, _, h3⟩ ⟨_, k1, k2, _, k3⟩ hsz (SeqAt.room_here hu) fun j j1 j2 => ?_
        have := eqAt_rs xs ys A.in1 s vs.toList vs'.toList _ _ h4 k4 (by simpa [noD] using ha) (by simpa [noD] using hb) (SeqAt.room_in hu) j (by simpa using j1) (by simpa using j2)
        simpa using this
      · have e : eqDs xs ys = false := by
          rw [← eqDs_all xs ys]
          have e3 : (xs.length == ys.length) = false := by simp; omega
          rw [e3, Bool.and_false]
        rw [e]
        exact SeqAt.RcNeAt.lists_lengths ⟨_, h1, h2, _, h3⟩ ⟨_, k1, k2, _, k3⟩ (by simpa using hsz) (SeqAt.room_here hu)
  | @tuple l o vs n xs as₁ h1 h2 h3 h4 =>
    cases rb with
    | none =>
      simp only [eqD]; exact SeqAt.RcNeAt.tuple_none   ⟨_, h1, h2, _, h3⟩ (SeqAt.room_here hu)
    | bool y =>
      simp only [eqD]; exact SeqAt.RcNeAt.tuple_bool  y ⟨_, h1, h2, _, h3⟩ (SeqAt.room_here hu)
    | int y u =>
      simp only [eqD]; exact SeqAt.RcNeAt.tuple_int  y u ⟨_, h1, h2, _, h3⟩ (SeqAt.room_here hu)
    | str y u =>
      simp only [eqD]; exact SeqAt.RcNeAt.tuple_str  y u ⟨_, h1, h2, _, h3⟩ (SeqAt.room_here hu)
    | list k1 k2 k3 k4 =>
      simp only [eqD]; exact SeqAt.RcNeAt.tuple_list   ⟨_, h1, h2, _, h3⟩ ⟨_, k1, k2, _, k3⟩ (SeqAt.room_here hu)
    | dict => simp [noD] at hb
    | @tuple l' o' vs' n' ys bs₁ k1 k2 k3 k4 =>
      have n1 : vs.size = xs.length := by simpa using SeqAt.ReadsAll.length _ _ _ h4
      have n2 : vs'.size = ys.length := by simpa using SeqAt.ReadsAll.length _ _ _ k4
      simp only [eqD]
      rw [← eqDs_all xs ys, ← n1, ← n2]
      refine SeqAt.RcNeAt.tuples ⟨_, h1, h2, _, h3⟩ ⟨_, k1, k2, _, k3⟩ (SeqAt.room_here hu) fun j j1 j2 => ?_
      have := eqAt_rs xs ys A.in1 s vs.toList vs'.toList _ _ h4 k4 (by simpa [noD] using ha) (by simpa [noD] using hb) (SeqAt.room_in hu) j (by simpa using j1) (by simpa using j2)
      simpa using this
  | dict => simp [noD] at ha
end TH
end
section
set_option Elab.async false
set_option linter.all false
set_option maxRecDepth 100000
namespace TH
open PySem PySem.Spec PyProof.Rows L2

section
variable {X : Cx} {Z : Cf}
theorem okB_some {o : Option Bool} {d : D} {k : Own} (h : okB o = some (d, k)) : ∃ b, o = some b ∧ okA (.bool b) = some (d, k) := by
  cases o with
  | none => cases h
  | some b => exact ⟨b, rfl, h⟩
theorem shal_le {d : D} (h : shal d = true) : d.depth ≤ 64 := of_decide_eq_true h
theorem eqOk_some {a b : D} {c : Bool} (h : eqOk a b = some c) : noD a = true ∧ noD b = true ∧ min a.depth b.depth ≤ 64 ∧ c = eqD a b := by
  unfold eqOk at h
  split at h
  · rename_i hc
    simp only [Bool.and_eq_true, Bool.or_eq_true] at hc
    cases h
    refine ⟨hc.1.2, hc.2, ?_, rfl⟩
    rcases hc.1.1 with h | h <;> have := shal_le h <;> omega
  · cases h
theorem pr_eq (hu : X.A.units + 200 < cLine) (zx : ZX Z X) : OpR X (compareOp .Eq) (fun x y H Q => PrimT Z .eq [x, y] H Q) := by
  intro pins s σ H x y v u Q I rx ry h
  obtain ⟨Y, R, foot, own, ⟨a, ka⟩, ⟨b, kb⟩, d, k, o, h1, h2, h3, e, fin⟩ := h.two
  have e : okB (eqOk a b) = some (d, k) := e
  obtain ⟨c, e1, e⟩ := okB_some e
  obtain ⟨n1, n2, n3, rfl⟩ := eqOk_some e1
  obtain ⟨b1, r1⟩ := h1.reads zx I rx
  obtain ⟨b2, r2⟩ := h2.reads zx I ry
  exact rcAt_r r1 r2 n1 n2 (by show X.A.units + min a.depth b.depth < cLine; omega) X.prog X.w X.xe _ ⟨.bl _, H, I, rfl, give_atom o e (.bool _) fin⟩
theorem pr_ne (hu : X.A.units + 200 < cLine) (zx : ZX Z X) : OpR X (compareOp .NotEq) (fun x y H Q => PrimT Z .ne [x, y] H Q) := by
  intro pins s σ H x y v u Q I rx ry h
  obtain ⟨Y, R, foot, own, ⟨a, ka⟩, ⟨b, kb⟩, d, k, o, h1, h2, h3, e, fin⟩ := h.two
  have e : okB ((eqOk a b).map (!·)) = some (d, k) := e
  obtain ⟨c, e1, e⟩ := okB_some e
  obtain ⟨c', e2, rfl⟩ := Option.map_eq_some_iff.mp e1
  obtain ⟨n1, n2, n3, rfl⟩ := eqOk_some e2
  obtain ⟨b1, r1⟩ := h1.reads zx I rx
  obtain ⟨b2, r2⟩ := h2.reads zx I ry
  exact rcNe_r r1 r2 n1 n2 (by show X.A.units + min a.depth b.depth < cLine; omega) X.prog X.w X.xe _ ⟨.bl _, H, I, rfl, give_atom o e (.bool _) fin⟩
theorem cmp_some {a b : D} {p c : Bool} (h : (if PySem.W.alike a b && !isNoneD a && shal a then some p else none) = some c) : PySem.W.alike a b = true ∧ a ≠ .none ∧ a.depth ≤ 64 ∧ c = p := by
  split at h
  · rename_i hc
    simp only [Bool.and_eq_true] at hc
    cases h
    refine ⟨hc.1.1, fun z => ?_, shal_le hc.2, rfl⟩
    subst z
    simp [isNoneD] at hc
  · cases h
theorem pr_lt (hu : X.A.units + 200 < cLine) (zx : ZX Z X) : OpR X (compareOp .Lt) (fun x y H Q => PrimT Z .lt [x, y] H Q) := by
  intro pins s σ H x y v u Q I rx ry h
  obtain ⟨Y, R, foot, own, ⟨a, ka⟩, ⟨b, kb⟩, d, k, o, h1, h2, h3, e, fin⟩ := h.two
  have e : okB (ltD a b) = some (d, k) := e
  obtain ⟨c, e1, e⟩ := okB_some e
  obtain ⟨n1, n2, n3, rfl⟩ := cmp_some e1
  obtain ⟨b1, r1⟩ := h1.reads zx I rx
  obtain ⟨b2, r2⟩ := h2.reads zx I ry
  exact PySem.W.lt_data r1 r2 n1 n2 (by show X.A.units + min a.depth b.depth < cLine; omega) ⟨.bl _, H, I, rfl, give_atom o e (.bool _) fin⟩
theorem pr_gt (hu : X.A.units + 200 < cLine) (zx : ZX Z X) : OpR X (compareOp .Gt) (fun x y H Q => PrimT Z .gt [x, y] H Q) := by
  intro pins s σ H x y v u Q I rx ry h
  obtain ⟨Y, R, foot, own, ⟨a, ka⟩, ⟨b, kb⟩, d, k, o, h1, h2, h3, e, fin⟩ := h.two
  have e : okB (gtD a b) = some (d, k) := e
  obtain ⟨c, e1, e⟩ := okB_some e
  obtain ⟨n1, n2, n3, rfl⟩ := cmp_some e1
  obtain ⟨b1, r1⟩ := h1.reads zx I rx
  obtain ⟨b2, r2⟩ := h2.reads zx I ry
  exact PySem.W.gt_data r1 r2 n1 n2 (by show X.A.units + min a.depth b.depth < cLine; omega) ⟨.bl _, H, I, rfl, give_atom o e (.bool _) fin⟩
theorem pr_le (hu : X.A.units + 200 < cLine) (zx : ZX Z X) : OpR X (compareOp .LtE) (fun x y H Q => PrimT Z .le [x, y] H Q) := by
  intro pins s σ H x y v u Q I rx ry h
  obtain ⟨Y, R, foot, own, ⟨a, ka⟩, ⟨b, kb⟩, d, k, o, h1, h2, h3, e, fin⟩ := h.two
  have e : okB ((gtD a b).map (!·)) = some (d, k) := e
  obtain ⟨c, e1, e⟩ := okB_some e
  obtain ⟨c', e2, rfl⟩ := Option.map_eq_some_iff.mp e1
  obtain ⟨n1, n2, n3, rfl⟩ := cmp_some e2
  obtain ⟨b1, r1⟩ := h1.reads zx I rx
  obtain ⟨b2, r2⟩ := h2.reads zx I ry
  exact PySem.W.le_data r1 r2 n1 n2 (by show X.A.units + min a.depth b.depth < cLine; omega) ⟨.bl _, H, I, rfl, give_atom o e (.bool _) fin⟩
theorem pr_ge (hu : X.A.units + 200 < cLine) (zx : ZX Z X) : OpR X (compareOp .GtE) (fun x y H Q => PrimT Z .ge [x, y] H Q) := by
  intro pins s σ H x y v u Q I rx ry h
  obtain ⟨Y, R, foot, own, ⟨a, ka⟩, ⟨b, kb⟩, d, k, o, h1, h2, h3, e, fin⟩ := h.two
  have e : okB ((ltD a b).map (!·)) = some (d, k) := e
  obtain ⟨c, e1, e⟩ := okB_some e
  obtain ⟨c', e2, rfl⟩ := Option.map_eq_some_iff.mp e1
  obtain ⟨n1, n2, n3, rfl⟩ := cmp_some e2
  obtain ⟨b1, r1⟩ := h1.reads zx I rx
  obtain ⟨b2, r2⟩ := h2.reads zx I ry
  exact PySem.W.ge_data r1 r2 n1 n2 (by show X.A.units + min a.depth b.depth < cLine; omega) ⟨.bl _, H, I, rfl, give_atom o e (.bool _) fin⟩
/-- the value of a tree: what an item is -/
theorem any_vals {s : Shared} {e : Value → Bool} {p : D → Bool} : ∀ {vs : List Value} {ds : List D} {as : List Addr}, ReadsAll s.heap vs ds as → (∀ (j : Nat) v d, vs[j]? = some v → ds[j]? = some d → e v = p d) → vs.any e = ds.any p
  | _, _, _, .nil, _ => rfl
  | _, _, _, .cons r rs, h => by
    rw [List.any_cons, List.any_cons, any_vals rs fun j v d h1 h2 => h (j + 1) v d (by simpa using h1) (by simpa using h2), h 0 _ _ rfl rfl]
/-- a tree that a value stands for -/
noncomputable def treeOf (h : Heap) (v : Value) : D := by
  classical
  exact if e : ∃ d as, Reads h v d as then e.choose else .none
theorem treeOf_eq {h : Heap} {v : Value} {d : D} {as : List Addr} (r : Reads h v d as) : treeOf h v = d := by
  unfold treeOf
  have e : ∃ d as, Reads h v d as := ⟨d, as, r⟩
  rw [dif_pos e]
  exact (PyProof.Rows.reads_det (fun _ _ q _ => q) e.choose_spec.choose_spec r).1.symm
theorem readsAll_get {h : Heap} : ∀ {vs : List Value} {ds : List D} {as : List Addr} {j : Nat} {v : Value}, ReadsAll h vs ds as → vs[j]? = some v → ∃ d bs, ds[j]? = some d ∧ Reads h v d bs
  | _, _, _, _, _, .nil, e => by simp at e
  | _, _, _, 0, _, .cons r rs, e => by
    simp at e; subst e
    exact ⟨_, _, rfl, r⟩
  | _, _, _, j + 1, _, .cons r rs, e => by
    obtain ⟨d, bs, h1, h2⟩ := readsAll_get (j := j) rs (by simpa using e)
    exact ⟨d, bs, by simpa using h1, h2⟩
theorem noDs_get : ∀ {ds : List D} {j : Nat} {d : D}, noDs ds = true → ds[j]? = some d → noD d = true
  | [], _, _, _, e => by simp at e
  | x :: xs, 0, d, h, e => by
    simp at e; subst e
    simp [noDs] at h
    exact h.1
  | x :: xs, j + 1, d, h, e => by
    simp [noDs] at h
    exact noDs_get h.2 (by simpa using e)
/-- items == a value -/
theorem items_eq {A : Around} {s : Shared} {vs : List Value} {ds : List D} {as bs : List Addr} {x : Value} {d : D} (rs : ReadsAll s.heap vs ds as) (r : Reads s.heap x d bs) (h1 : noDs ds = true) (h2 : noD d = true) (hu : A.units + d.depth < cLine) :
    (∀ y, y ∈ vs → SeqAt.EqAt A s y x (eqD (treeOf s.heap y) d)) ∧ vs.any (fun y => eqD (treeOf s.heap y) d) = ds.any fun y => eqD y d := by
  refine ⟨fun y hy => ?_, any_vals rs fun j v d' e1 e2 => ?_⟩
  · obtain ⟨j, hj⟩ := List.mem_iff_getElem?.mp hy
    obtain ⟨d', bs', e, r'⟩ := readsAll_get rs hj
    rw [treeOf_eq r']
    exact eqAt_r d' d A s y x _ _ r' r (noDs_get h1 e) h2 (by omega)
  · obtain ⟨d'', bs', e, r'⟩ := readsAll_get rs e1
    rw [e2] at e; cases e
    rw [treeOf_eq r']
/-- a walked value: its items -/
theorem seq_arg {Z : Cf} {pins : List (Addr × Obj)} {σ : L2.St} {s : Shared} (zx : ZX Z X) (I : Inv X pins σ H s) {v : V} {u : Value} {ds : List D} (h : Arg0 Z H v (.list ds)) (r : RelV v u) :
    ∃ p vs its as, v = .ref p ∧ u = .ref p ∧ SqL X.K H p vs ∧ Vals vs its ∧ PlainL s.heap p its.toArray ∧ vs.length ≤ sizeLine ∧ vs.length = ds.length ∧ ReadsAll s.heap its ds as := by
  obtain ⟨p, vs, as, rfl, q, rs⟩ := h.list
  cases r
  rw [zx.w, zx.K] at rs
  rw [zx.K] at q
  obtain ⟨its, rv, pl, hz⟩ := I.list q
  obtain ⟨bs, rr, _⟩ := DAll.reads I rs rv
  exact ⟨p, vs, its, bs, rfl, rfl, q, rv, pl, hz, rs.length, rr⟩
theorem tup_arg {Z : Cf} {pins : List (Addr × Obj)} {σ : L2.St} {s : Shared} (zx : ZX Z X) (I : Inv X pins σ H s) {v : V} {u : Value} {ds : List D} (h : Arg0 Z H v (.tuple ds)) (r : RelV v u) :
    ∃ p vs its as, v = .ref p ∧ u = .ref p ∧ SqT X.K H p vs ∧ Vals vs its ∧ IsTup s.heap p its.toArray ∧ vs.length ≤ sizeLine ∧ vs.length = ds.length ∧ ReadsAll s.heap its ds as := by
  obtain ⟨p, vs, as, rfl, q, rs⟩ := h.tuple
  cases r
  rw [zx.w, zx.K] at rs
  rw [zx.K] at q
  obtain ⟨its, rv, pl, hz⟩ := I.tuple q
  obtain ⟨bs, rr, _⟩ := DAll.reads I rs rv
  exact ⟨p, vs, its, bs, rfl, rfl, q, rv, pl, hz, rs.length, rr⟩
theorem in_some {a : D} {xs : List D} {c : Bool} (h : (if shal a && noD a && noDs xs then some (xs.any fun x => eqD x a) else none) = some c) : a.depth ≤ 64 ∧ noD a = true ∧ noDs xs = true ∧ c = xs.any fun x => eqD x a := by
  split at h
  · rename_i hc
    simp only [Bool.and_eq_true] at hc
    cases h
    exact ⟨shal_le hc.1.1, hc.1.2, hc.2, rfl⟩
  · cases h
/-- a in b, b no dict -/
theorem in_seq (hu : X.A.units + 200 < cLine) (zx : ZX Z X) {pins : List (Addr × Obj)} {σ : L2.St} {H : Hp} {s : Shared} {x y : V} {v u : Value} {a b : D} {c : Bool} {Q : Value → Shared → Prop} (I : Inv X pins σ H s) (rx : RelV x v) (ry : RelV y u)
    (h1 : Arg0 Z H x a) (h2 : Arg0 Z H y b) (hb : ∀ kvs, b ≠ .dict kvs) (e : inD a b = some c) :
    (Q (.bool c) s → wpAny (model X.prog X.w) X.A (compareOp .In v u) Q X.xe s) ∧ (Q (.bool (!c)) s → wpAny (model X.prog X.w) X.A (compareOp .NotIn v u) Q X.xe s) := by
  cases b with
  | list ds =>
    obtain ⟨p, vs, its, as, rfl, rfl, q, rv, pl, hz, hl, rr⟩ := seq_arg zx I h2 ry
    obtain ⟨n1, n2, n3, rfl⟩ := in_some e
    obtain ⟨b1, r1⟩ := h1.reads zx I rx
    obtain ⟨g1, g2⟩ := items_eq (A := X.A.in1) rr r1 n3 n2 (by show X.A.units + 1 + _ < _; omega)
    rw [← g2]
    exact ⟨fun q => SeqAt.in_listAt _ pl.isList (fun y hy => g1 y (by simpa using hy)) (by simpa using q), fun q => SeqAt.notIn_listAt _ pl.isList (fun y hy => g1 y (by simpa using hy)) (by simpa using q)⟩
  | tuple ds =>
    obtain ⟨p, vs, its, as, rfl, rfl, q, rv, pl, hz, hl, rr⟩ := tup_arg zx I h2 ry
    obtain ⟨n1, n2, n3, rfl⟩ := in_some e
    obtain ⟨b1, r1⟩ := h1.reads zx I rx
    obtain ⟨g1, g2⟩ := items_eq (A := X.A.in1) rr r1 n3 n2 (by show X.A.units + 1 + _ < _; omega)
    rw [← g2]
    exact ⟨fun q => SeqAt.in_tupleAt _ pl (fun y hy => g1 y (by simpa using hy)) (by simpa using q), fun q => SeqAt.notIn_tupleAt _ pl (fun y hy => g1 y (by simpa using hy)) (by simpa using q)⟩
  | str j =>
    have e2 := h2.str
    subst e2
    cases a with
    | str i =>
      have e1 := h1.str
      subst e1
      obtain ⟨t, rfl⟩ := rx
      obtain ⟨t', rfl⟩ := ry
      cases e
      exact ⟨fun q => in_str q, fun q => notIn_str q⟩
    | _ => cases e
  | dict kvs => exact absurd rfl (hb kvs)
  | _ => cases e
end
end TH
end
section
set_option Elab.async false
set_option linter.all false
set_option maxRecDepth 100000
namespace TH
open PySem PySem.Spec PyProof.Rows L2

section
variable {X : Cx} {Z : Cf}
theorem argsOk_len {H : Hp} {own : Nat → List Addr} : ∀ {vs : List V} {dks : List (D × Own)}, ArgsOk Z H own vs dks → vs.length = dks.length
  | [], [], _ => rfl
  | _ :: _, _ :: _, ⟨_, _, h⟩ => by simp [argsOk_len h]
  | [], _ :: _, h => h.elim
  | _ :: _, [], h => h.elim
/-- p takes n arguments alone -/
def ArN (p : P) (n : Nat) : Prop := ∀ dks : List (D × Own), dks.length ≠ n → prim p dks = none
theorem PrimT.arity {p : P} {n : Nat} {xs : List V} {H : Hp} {Q : VK} (hp : ArN p n) (h : PrimT Z p xs H Q) : xs.length = n := by
  obtain ⟨Y, R, foot, own, dks, d, k, o, ar, g, e, fin⟩ := h
  by_cases hd : dks.length = n
  · rw [argsOk_len ar]; exact hd
  · rw [hp dks hd] at e; cases e
theorem len1 {α : Type} {xs : List α} (h : xs.length = 1) : ∃ x, xs = [x] := List.length_eq_one_iff.mp h
theorem len2 {α : Type} {xs : List α} (h : xs.length = 2) : ∃ x y, xs = [x, y] := by
  match xs, h with
  | [x, y], _ => exact ⟨x, y, rfl⟩
theorem arN_len : ArN .len 1 := fun dks hd => by rcases dks with _ | ⟨a, _ | ⟨b, _ | ⟨c, _ | _⟩⟩⟩ <;> first | rfl | exact absurd rfl hd
theorem arN_repr : ArN .repr 1 := fun dks hd => by rcases dks with _ | ⟨a, _ | ⟨b, _ | ⟨c, _ | _⟩⟩⟩ <;> first | rfl | exact absurd rfl hd
theorem arN_str : ArN .str 1 := fun dks hd => by rcases dks with _ | ⟨a, _ | ⟨b, _ | ⟨c, _ | _⟩⟩⟩ <;> first | rfl | exact absurd rfl hd
theorem arN_int : ArN .int 1 := fun dks hd => by rcases dks with _ | ⟨a, _ | ⟨b, _ | ⟨c, _ | _⟩⟩⟩ <;> first | rfl | exact absurd rfl hd
theorem arN_abs : ArN .abs 1 := fun dks hd => by rcases dks with _ | ⟨a, _ | ⟨b, _ | ⟨c, _ | _⟩⟩⟩ <;> first | rfl | exact absurd rfl hd
theorem arN_sum : ArN .sum 1 := fun dks hd => by rcases dks with _ | ⟨a, _ | ⟨b, _ | ⟨c, _ | _⟩⟩⟩ <;> first | rfl | exact absurd rfl hd
theorem arN_all : ArN .all 1 := fun dks hd => by rcases dks with _ | ⟨a, _ | ⟨b, _ | ⟨c, _ | _⟩⟩⟩ <;> first | rfl | exact absurd rfl hd
theorem arN_any : ArN .any 1 := fun dks hd => by rcases dks with _ | ⟨a, _ | ⟨b, _ | ⟨c, _ | _⟩⟩⟩ <;> first | rfl | exact absurd rfl hd
theorem arN_sorted : ArN .sorted 1 := fun dks hd => by rcases dks with _ | ⟨a, _ | ⟨b, _ | ⟨c, _ | _⟩⟩⟩ <;> first | rfl | exact absurd rfl hd
theorem arN_list : ArN .list 1 := fun dks hd => by rcases dks with _ | ⟨a, _ | ⟨b, _ | ⟨c, _ | _⟩⟩⟩ <;> first | rfl | exact absurd rfl hd
theorem arN_tuple : ArN .tuple 1 := fun dks hd => by rcases dks with _ | ⟨a, _ | ⟨b, _ | ⟨c, _ | _⟩⟩⟩ <;> first | rfl | exact absurd rfl hd
theorem arN_dict : ArN .dict 1 := fun dks hd => by rcases dks with _ | ⟨a, _ | ⟨b, _ | ⟨c, _ | _⟩⟩⟩ <;> first | rfl | exact absurd rfl hd
theorem arN_max2 : ArN .max2 2 := fun dks hd => by rcases dks with _ | ⟨a, _ | ⟨b, _ | ⟨c, _ | _⟩⟩⟩ <;> first | rfl | exact absurd rfl hd
theorem arN_min2 : ArN .min2 2 := fun dks hd => by rcases dks with _ | ⟨a, _ | ⟨b, _ | ⟨c, _ | _⟩⟩⟩ <;> first | rfl | exact absurd rfl hd
theorem arN_join : ArN .join 2 := fun dks hd => by rcases dks with _ | ⟨a, _ | ⟨b, _ | ⟨c, _ | _⟩⟩⟩ <;> first | rfl | exact absurd rfl hd

theorem line63' : sizeLine < 2 ^ 63 := by rw [sizeLine_eq]; decide
/-- a dict, as the library reads one -/
theorem dict_arg {pins : List (Addr × Obj)} {σ : L2.St} {H : Hp} {s : Shared} (zx : ZX Z X) (I : Inv X pins σ H s) {v : V} {u : Value} {kvs : List (D × D)} (h : Arg0 Z H v (.dict kvs)) (r : RelV v u) :
    ∃ p es ep as, v = .ref p ∧ u = .ref p ∧ s.heap.DictRaw p es ep ∧ p ≠ sysModules ∧ es.size ≤ sizeLine ∧ es.size = kvs.length ∧ DEnts X.w X.K H true es.toList kvs as ∧ Distinct kvs := by
  obtain ⟨as, q⟩ := h
  rw [zx.w, zx.K] at q
  cases q with
  | dict e h1 h2 r' h3 =>
    cases r
    exact ⟨_, _, _, _, rfl, rfl, ⟨_, ext_at I e, ⟨rfl, rfl, rfl⟩, rfl⟩, h1, h2, by have := r'.length; simpa using this, r', h3⟩
  | dictF _ e hc hd h1 h2 r' h3 =>
    cases r
    exact ⟨_, _, _, _, rfl, rfl, ⟨_, I.kIn _ _ e, hc, hd⟩, h1, h2, by have := r'.length; simpa using this, r', h3⟩
theorem pr_len : CallR X (.builtin "len") (fun xs H Q => ZX Z X ∧ PrimT Z .len xs H Q) := by
  intro pins s σ H xs us Q I r ⟨zx, h⟩
  obtain ⟨x, rfl⟩ := len1 (h.arity arN_len)
  obtain ⟨Y, R, foot, own, ⟨a, ka⟩, d, k, o, h1, h3, e, fin⟩ := h.one
  obtain ⟨u, rfl, rx⟩ := vals1 r
  have e : ((lenD a).bind fun n => okA (.int n)) = some (d, k) := e
  cases a with
  | str x =>
    have e1 := h1.str; subst e1
    have hs := h1.strLen
    obtain ⟨t, rfl⟩ := rx
    simp only [lenD, if_pos (show line x.length = true from decide_eq_true hs), Option.bind] at e
    have hn := line63'
    exact len_str (by omega) ⟨.int x.length, H, I.tok _, ⟨_, rfl⟩, give_atom o e (.int _) fin⟩
  | list ds =>
    obtain ⟨p, vs, its, as, rfl, rfl, q, rv, pl, hz, hl, rr⟩ := seq_arg zx I h1 rx
    simp only [lenD, Option.bind] at e
    have hn := line63'
    have hlen := rv.length
    exact Calls.call_len_list pl.isList (by simp only [List.size_toArray] <;> omega) ⟨.int ds.length, H, I.tok _, ⟨s.toks + 1, by rw [List.size_toArray, ← hlen, hl]⟩, give_atom o e (.int _) fin⟩
  | tuple ds =>
    obtain ⟨p, vs, its, as, rfl, rfl, q, rv, pl, hz, hl, rr⟩ := tup_arg zx I h1 rx
    simp only [lenD, Option.bind] at e
    have hn := line63'
    have hlen := rv.length
    exact len_tuple pl (by simp only [List.size_toArray] <;> omega) ⟨.int ds.length, H, I.tok _, ⟨s.toks + 1, by rw [List.size_toArray, ← hlen, hl]⟩, give_atom o e (.int _) fin⟩
  | dict kvs =>
    obtain ⟨p, es, ep, as, rfl, rfl, raw, hsm, hz, hl, _⟩ := dict_arg zx I h1 rx
    simp only [lenD, Option.bind] at e
    have hn := line63'
    exact PyProof.Rows.call_len_slot (n := es.size) raw.typeIs F.slot_dict_len (fun Q' q => call_len_raw (beq_eq_false_iff_ne.mpr hsm) raw q) (by omega) (by omega) ⟨.int kvs.length, H, I.tok _, ⟨s.toks + 1, by rw [hl]⟩, give_atom o e (.int _) fin⟩
  | _ => cases e
theorem foldl_cps (c : Array Nat) : ∀ (k : Nat) (acc : List Nat), List.foldl (fun x1 x2 => x1 ++ x2) acc.toArray (List.replicate k c) = (acc ++ (List.replicate k c.toList).flatten).toArray
  | 0, acc => by simp
  | k + 1, acc => by
    have e : acc.toArray ++ c = (acc ++ c.toList).toArray := by apply Array.ext'; simp
    rw [List.replicate_succ, List.foldl_cons, e, foldl_cps c k, List.replicate_succ, List.flatten_cons, List.append_assoc]
theorem mul_str_ok {prog : Program} {w : World} {A : Around} {E : Value → Shared → Prop} {s : Shared} {x : Str} {t u : Tok} {j : Int} {Q : Value → Shared → Prop} (h1 : -(2 ^ 63) ≤ j) (h2 : j < 2 ^ 63) (hz : x.length * j.toNat ≤ sizeLine)
    (h : ∀ v s', RelV (.str ⟨(List.replicate j.toNat x.cps.toList).flatten.toArray⟩) v → (∃ tk, s' = { s with toks := tk }) → Q v s') : wpAny (model prog w) A (binaryOp .Mult (.str x t) (.int j u)) Q E s := by
  have hn := line63'
  have hb : ∀ h1 : ¬ j < 1, ((x.length * j.toNat : Nat) : Int) = (x.length : Int) * j := fun h1 => by
    rw [Int.natCast_mul, Int.toNat_of_nonneg (by omega)]
  have ef : (List.replicate j.toNat x.cps).foldl (· ++ ·) #[] = (List.replicate j.toNat x.cps.toList).flatten.toArray := by
    have := foldl_cps x.cps j.toNat []
    rw [List.nil_append] at this
    exact this
  refine PySem.P.mul_str ?_ (fun g1 g2 => ?_) (fun g1 g2 => ?_) ?_
  · rw [decide_eq_false (by omega), decide_eq_false (by omega)]; rfl
  · have hpos : 0 < j := by omega
    have : (x.length : Int) * j ≤ 2 ^ 63 - 1 := by rw [← hb g1]; omega
    have := (Int.le_ediv_iff_mul_le hpos).mpr this
    omega
  · unfold Builtin.Str.tooLong
    exact decide_eq_false (by omega)
  · by_cases g1 : j < 1
    · rw [if_pos g1]
      refine ⟨by decide, h _ _ ⟨s.toks, ?_⟩ ⟨_, rfl⟩⟩
      rw [show j.toNat = 0 by omega]
      rfl
    · rw [if_neg g1]
      by_cases g2 : (j == 1 || x.length == 0) = true
      · rw [if_pos g2]
        refine h _ _ ⟨t, ?_⟩ ⟨s.toks, rfl⟩
        have e : (List.replicate j.toNat x.cps.toList).flatten.toArray = x.cps := by
          rcases Bool.or_eq_true_iff.mp g2 with g | g
          · have : j = 1 := by simpa using g
            subst this
            simp
          · have : x.cps = #[] := by
              have : x.cps.size = 0 := by simpa [Str.length] using g
              exact Array.eq_empty_of_size_eq_zero this
            rw [this]; simp
        rw [e]
      · rw [if_neg g2]
        have e2 : (List.replicate j.toNat x.cps.toList).flatten.toArray.size ≤ sizeLine := by
          rw [List.size_toArray, List.length_flatten, List.map_replicate, List.sum_replicate_nat, Nat.mul_comm]
          exact hz
        rw [ef]
        exact ⟨e2, h _ _ ⟨_, rfl⟩ ⟨_, rfl⟩⟩
theorem pr_mul : OpR X (binaryOp .Mult) (fun x y H Q => PrimT Z .mul [x, y] H Q) := by
  intro pins s σ H x y v u Q I rx ry h
  obtain ⟨Y, R, foot, own, ⟨a, ka⟩, ⟨b, kb⟩, d, k, o, h1, h2, h3, e, fin⟩ := h.two
  have e : mulD a b = some (d, k) := e
  cases a <;> cases b <;> try (cases e; done)
  case int.int =>
    have e1 := h1.int; have e2 := h2.int; subst e1 e2
    obtain ⟨hc, e⟩ := some_if e
    exact op_mulW pins s σ H _ _ v u Q I rx ry ⟨_, _, rfl, rfl, hc, give_atom o e (.int _) fin⟩
  case str.int =>
    have e1 := h1.str; have e2 := h2.int
    have hs := h1.strLen
    subst e1 e2
    obtain ⟨hc, e⟩ := some_if e
    obtain ⟨t, rfl⟩ := rx
    obtain ⟨t', rfl⟩ := ry
    simp only [Bool.and_eq_true, decide_eq_true_eq] at hc
    exact mul_str_ok hc.2.1 hc.2.2 (line_le hc.1) fun v' s' rv hs' => by
      obtain ⟨tk, rfl⟩ := hs'
      refine ⟨.str _, H, I.tok tk, rv, give_atom o e (.str _ ?_) fin⟩
      show (List.replicate _ _).flatten.toArray.size ≤ _
      rw [List.size_toArray, List.length_flatten, List.map_replicate, List.sum_replicate_nat, Nat.mul_comm]
      exact line_le hc.1
theorem pr_int : CallR X (.type "int") (fun xs H Q => PrimT Z .int xs H Q) := by
  intro pins s σ H xs us Q I r h
  obtain ⟨x, rfl⟩ := len1 (h.arity arN_int)
  obtain ⟨Y, R, foot, own, ⟨a, ka⟩, d, k, o, h1, h3, e, fin⟩ := h.one
  have e : intD a = some (d, k) := e
  cases a with
  | int i =>
    have e1 := h1.int; subst e1
    exact call_int1 pins s σ H _ us Q I r (.inl ⟨_, rfl, give_atom o e (.int _) fin⟩)
  | bool b =>
    have e1 := h1.bool; subst e1
    exact call_int1 pins s σ H _ us Q I r (.inr ⟨_, rfl, give_atom o e (by cases b <;> exact .int _) fin⟩)
  | _ => cases e
theorem pr_str : CallR X (.type "str") (fun xs H Q => PrimT Z .str xs H Q) := by
  intro pins s σ H xs us Q I r h
  obtain ⟨x, rfl⟩ := len1 (h.arity arN_str)
  obtain ⟨Y, R, foot, own, ⟨a, ka⟩, d, k, o, h1, h3, e, fin⟩ := h.one
  have e : strD a = some (d, k) := e
  cases a with
  | int i =>
    have e1 := h1.int; subst e1
    obtain ⟨hc, e⟩ := some_if e
    exact call_str_int pins s σ H _ us Q I r ⟨_, rfl, hc, give_atom o e (.str _ (int_text_fits hc)) fin⟩
  | _ => cases e
theorem pr_abs : CallR X (.builtin "abs") (fun xs H Q => PrimT Z .abs xs H Q) := by
  intro pins s σ H xs us Q I r h
  obtain ⟨x, rfl⟩ := len1 (h.arity arN_abs)
  obtain ⟨Y, R, foot, own, ⟨a, ka⟩, d, k, o, h1, h3, e, fin⟩ := h.one
  have e : absD a = some (d, k) := e
  cases a with
  | int i =>
    have e1 := h1.int; subst e1
    exact call_abs pins s σ H _ us Q I r ⟨_, rfl, give_atom o e (.int _) fin⟩
  | _ => cases e
theorem pr_max2 (hc : X.calm = true) : CallR X (.builtin "max") (fun xs H Q => PrimT Z .max2 xs H Q) := by
  intro pins s σ H xs us Q I r h
  obtain ⟨x, y, rfl⟩ := len2 (h.arity arN_max2)
  obtain ⟨Y, R, foot, own, ⟨a, ka⟩, ⟨b, kb⟩, d, k, o, h1, h2, h3, e, fin⟩ := h.two
  have e : max2D a b = some (d, k) := e
  cases a <;> cases b <;> try (cases e; done)
  have e1 := h1.int; have e2 := h2.int; subst e1 e2
  exact call_max2 hc pins s σ H _ us Q I r ⟨_, _, rfl, give_atom o e (.int _) fin⟩
theorem pr_min2 (hc : X.calm = true) : CallR X (.builtin "min") (fun xs H Q => PrimT Z .min2 xs H Q) := by
  intro pins s σ H xs us Q I r h
  obtain ⟨x, y, rfl⟩ := len2 (h.arity arN_min2)
  obtain ⟨Y, R, foot, own, ⟨a, ka⟩, ⟨b, kb⟩, d, k, o, h1, h2, h3, e, fin⟩ := h.two
  have e : min2D a b = some (d, k) := e
  cases a <;> cases b <;> try (cases e; done)
  have e1 := h1.int; have e2 := h2.int; subst e1 e2
  exact call_min2 hc pins s σ H _ us Q I r ⟨_, _, rfl, give_atom o e (.int _) fin⟩
theorem ints_vals {w : World} {K : PySem.W.Frag} {H : Hp} {c : Bool} : ∀ {ds : List D} {vs : List V} {as : List Addr} {is : List Int}, DAll w K H c vs ds as → intsD ds = some is → vs = is.map V.int
  | [], _, _, _, .nil, e => by cases e; rfl
  | x :: ds, _, _, is, .cons r rs, e => by
    cases x <;> try (cases e; done)
    simp only [intsD] at e
    obtain ⟨l, e1, rfl⟩ := Option.map_eq_some_iff.mp e
    rw [r.int_inv, ints_vals rs e1]
    rfl
theorem bools_vals {w : World} {K : PySem.W.Frag} {H : Hp} {c : Bool} : ∀ {ds : List D} {vs : List V} {as : List Addr} {is : List Bool}, DAll w K H c vs ds as → boolsD ds = some is → vs = is.map V.bl
  | [], _, _, _, .nil, e => by cases e; rfl
  | x :: ds, _, _, is, .cons r rs, e => by
    cases x <;> try (cases e; done)
    simp only [boolsD] at e
    obtain ⟨l, e1, rfl⟩ := Option.map_eq_some_iff.mp e
    rw [r.bool_inv, bools_vals rs e1]
    rfl
theorem strs_vals {w : World} {K : PySem.W.Frag} {H : Hp} {c : Bool} : ∀ {ds : List D} {vs : List V} {as : List Addr} {is : List Str}, DAll w K H c vs ds as → strsD ds = some is → vs = is.map V.str
  | [], _, _, _, .nil, e => by cases e; rfl
  | x :: ds, _, _, is, .cons r rs, e => by
    cases x <;> try (cases e; done)
    simp only [strsD] at e
    obtain ⟨l, e1, rfl⟩ := Option.map_eq_some_iff.mp e
    rw [r.str_inv, strs_vals rs e1]
    rfl
end
end TH
end
section
set_option Elab.async false
set_option linter.all false
set_option maxRecDepth 100000
namespace TH
open PySem PySem.Spec PyProof.Rows L2

section
variable {X : Cx} {Z : Cf}
theorem pr_sum (hc : X.calm = true) : CallR X (.builtin "sum") (fun xs H Q => ZX Z X ∧ PrimT Z .sum xs H Q) := by
  intro pins s σ H xs us Q I r ⟨zx, h⟩
  obtain ⟨x, rfl⟩ := len1 (h.arity arN_sum)
  obtain ⟨Y, R, foot, own, ⟨a, ka⟩, d, k, o, h1, h3, e, fin⟩ := h.one
  have e : sumD a = some (d, k) := e
  cases a with
  | list ds =>
    obtain ⟨is, e1, e⟩ := Option.bind_eq_some_iff.mp e
    obtain ⟨p, vs, as, rfl, q, rs⟩ := h1.list
    have e1 : intsD ds = some is := e1
    have ev := ints_vals rs e1
    subst ev
    exact cr_sum hc pins s σ H _ us Q I r ⟨p, is, rfl, by rw [← zx.K]; exact q, give_atom o e (.int _) fin⟩
  | _ => cases e
theorem pr_all (hc : X.calm = true) : CallR X (.builtin "all") (fun xs H Q => ZX Z X ∧ PrimT Z .all xs H Q) := by
  intro pins s σ H xs us Q I r ⟨zx, h⟩
  obtain ⟨x, rfl⟩ := len1 (h.arity arN_all)
  obtain ⟨Y, R, foot, own, ⟨a, ka⟩, d, k, o, h1, h3, e, fin⟩ := h.one
  have e : allD a = some (d, k) := e
  cases a with
  | list ds =>
    obtain ⟨is, e1, e⟩ := Option.bind_eq_some_iff.mp e
    obtain ⟨p, vs, as, rfl, q, rs⟩ := h1.list
    have e1 : boolsD ds = some is := e1
    have ev := bools_vals rs e1
    subst ev
    exact cr_all hc pins s σ H _ us Q I r ⟨p, is, rfl, by rw [← zx.K]; exact q, give_atom o e (.bool _) fin⟩
  | _ => cases e
theorem pr_any (hc : X.calm = true) : CallR X (.builtin "any") (fun xs H Q => ZX Z X ∧ PrimT Z .any xs H Q) := by
  intro pins s σ H xs us Q I r ⟨zx, h⟩
  obtain ⟨x, rfl⟩ := len1 (h.arity arN_any)
  obtain ⟨Y, R, foot, own, ⟨a, ka⟩, d, k, o, h1, h3, e, fin⟩ := h.one
  have e : anyD a = some (d, k) := e
  cases a with
  | list ds =>
    obtain ⟨is, e1, e⟩ := Option.bind_eq_some_iff.mp e
    obtain ⟨p, vs, as, rfl, q, rs⟩ := h1.list
    have e1 : boolsD ds = some is := e1
    have ev := bools_vals rs e1
    subst ev
    exact cr_any hc pins s σ H _ us Q I r ⟨p, is, rfl, by rw [← zx.K]; exact q, give_atom o e (.bool _) fin⟩
  | _ => cases e
end
end TH
end
section
set_option Elab.async false
set_option linter.all false
set_option maxRecDepth 100000
namespace TH
open PySem PySem.Spec PyProof.Rows L2

section
variable {X : Cx} {Z : Cf}
/-- a part of a list or tuple, or a sign -/
theorem part_get {w : World} {K : PySem.W.Frag} {H : Hp} {own : Nat → List Addr} {vs : List V} {ds : List D} {as : List Addr} {j : Nat} {d : D} (r : DAll w K H true vs ds as) (sh : Shr Z own as) (e : ds[j]? = some d) :
    ∃ v bs, vs[j]? = some v ∧ DRep w K H true v d bs ∧ Shr Z own bs := by
  obtain ⟨v, bs, h1, h2, h3⟩ := r.get e
  exact ⟨v, bs, h1, h2, sh.sub h3⟩
theorem ixAt_ixN (n : Nat) (i : Int) : ixAt n i = L2.ixN n i := rfl
theorem pr_idx (zx : ZX Z X) : IxR X (fun x y H Q => (∀ kvs, ¬ Arg0 Z H x (.dict kvs)) ∧ PrimT Z .idx [x, y] H Q) := by
  intro value slice pins s σ H x y v u Q I rx ry ⟨nd, h⟩ hs
  obtain ⟨Y, R, foot, own, ⟨a, ka⟩, ⟨b, kb⟩, d, k, o, h1, h2, h3, e, fin⟩ := h.two
  have e : idxD a b = some (d, k) := e
  obtain ⟨g1, g2⟩ := h3 rfl
  have kn := True.intro
  cases a with
  | list ds =>
    cases b <;> try (cases e; done)
    rename_i i _
    have e2 := h2.int; subst e2
    simp only [idxD] at e
    obtain ⟨d', e1, e⟩ := Option.bind_eq_some_iff.mp e
    obtain ⟨j, ej, e1⟩ := Option.bind_eq_some_iff.mp e1
    obtain ⟨p, vs, as, rfl, q, r, sh⟩ := g1.list kn
    obtain ⟨v', bs, ev, rv, sv⟩ := part_get r sh e1
    refine ix_list value slice pins s σ H _ _ v u Q I rx ry ⟨p, vs, i, v', rfl, rfl, by rw [← zx.K]; exact q, ?_, give_part o e rv sv fin⟩ hs
    unfold L2.atI
    rw [r.length, ← ixAt_ixN, ej]
    exact ev
  | tuple ds =>
    cases b <;> try (cases e; done)
    rename_i i _
    have e2 := h2.int; subst e2
    simp only [idxD] at e
    obtain ⟨d', e1, e⟩ := Option.bind_eq_some_iff.mp e
    obtain ⟨j, ej, e1⟩ := Option.bind_eq_some_iff.mp e1
    obtain ⟨p, vs, as, rfl, q, r, sh⟩ := g1.tuple kn
    obtain ⟨v', bs, ev, rv, sv⟩ := part_get r sh e1
    refine ix_tup value slice pins s σ H _ _ v u Q I rx ry ⟨p, vs, i, v', rfl, rfl, by rw [← zx.K]; exact q, ?_, give_part o e rv sv fin⟩ hs
    unfold L2.atI
    rw [r.length, ← ixAt_ixN, ej]
    exact ev
  | str z =>
    cases b <;> try (cases e; done)
    rename_i i _
    have e1 := h1.str; subst e1
    have e2 := h2.int; subst e2
    simp only [idxD] at e
    obtain ⟨hc, e⟩ := some_if e
    obtain ⟨c, e1, e⟩ := Option.bind_eq_some_iff.mp e
    obtain ⟨j, ej, e1⟩ := Option.bind_eq_some_iff.mp e1
    refine ix_str value slice pins s σ H _ _ v u Q I rx ry ⟨z, i, c, rfl, rfl, h1.strLen, ?_, give_atom o e (.str _ (by rw [sizeLine_eq]; exact (by decide : 1 ≤ 16777216))) fin⟩ hs
    unfold L2.atI
    rw [show z.cps.toList.length = z.length by simp [Str.length], ← ixAt_ixN, ej]
    exact e1
  | dict kvs => exact absurd h1 (nd kvs)
  | _ => cases e
theorem cut_vals {w : World} {K : PySem.W.Frag} {H : Hp} {own : Nat → List Addr} {vs : List V} {ds : List D} {as : List Addr} (r : DAll w K H true vs ds as) (sh : Shr Z own as) (lo hi : Option Int) : ∃ bs, DAll w K H true (cutV vs lo hi) (cut ds lo hi) bs ∧ Shr Z own bs := by
  unfold cutV cut
  rw [r.length]
  obtain ⟨b1, r1, s1⟩ := r.drop (HT.sIx ds.length 0 lo)
  obtain ⟨b2, r2, s2⟩ := r1.take (HT.sIx ds.length ds.length hi - HT.sIx ds.length 0 lo)
  exact ⟨b2, r2, sh.sub fun a h => s1 a (s2 a h)⟩
theorem cut_whole {α : Type} {xs : List α} {lo hi : Option Int} (h : HT.sIx xs.length 0 lo = 0 ∧ HT.sIx xs.length xs.length hi = xs.length) : cut xs lo hi = xs := by
  unfold cut
  rw [h.1, h.2]
  simp
theorem sIx_le {n : Nat} {d : Nat} (hd : d ≤ n) (o : Option Int) : HT.sIx n d o ≤ n := by
  cases o with
  | none => exact hd
  | some v => simp only [HT.sIx]; split <;> omega
theorem cut_less {α : Type} {xs : List α} {lo hi : Option Int} (h : ¬ (HT.sIx xs.length 0 lo = 0 ∧ HT.sIx xs.length xs.length hi = xs.length)) : (cut xs lo hi).length < xs.length := by
  unfold cut
  rw [List.length_take, List.length_drop]
  have h1 := sIx_le (Nat.zero_le xs.length) lo
  have h2 := sIx_le (Nat.le_refl xs.length) hi
  omega
/-- .slc: the thing, the bounds that are there -/
def slcT (Z : Cf) (x : V) (lo hi : Option Int) (H : Hp) (Q : VK) : Prop := PrimT Z (.slc lo.isSome hi.isSome) (x :: (lo.toList.map V.int ++ hi.toList.map V.int)) H Q
theorem slcT_inv {x : V} {lo hi : Option Int} {H : Hp} {Q : VK} (h : slcT Z x lo hi H Q) : ∃ (Y : L2.St) (R : Ev) (foot own : Nat → List Addr) (a : D) (d : D) (k : Own), OkW Z Y R H foot own ∧ Arg1 Z H own x a ∧ cutD a lo hi = some (d, k) ∧
    ∀ v H', Ok Z (Y ++ [some v]) (R ++ [.vl k d]) H' → Q v H' := by
  obtain ⟨Y, R, foot, own, dks, d, k, o, ar, g, e, fin⟩ := h
  replace g : ∀ q ∈ dks, q.2 ≠ .io := g.resolve_left (by simp [scalarP])
  cases lo with
  | none =>
    cases hi with
    | none =>
      match dks, ar, g, e with
      | [a], ⟨h1, h2, _⟩, g, e => exact ⟨Y, R, foot, own, a.1, d, k, o, h2 (g a (by simp)), e, fin⟩
    | some j =>
      match dks, ar, g, e with
      | [a, b], ⟨h1, h2, h3, h4, _⟩, g, e =>
        obtain ⟨b, kb⟩ := b
        cases b with
        | int i => cases h3.int; exact ⟨Y, R, foot, own, a.1, d, k, o, h2 (g a (by simp)), e, fin⟩
        | _ => cases e
  | some i =>
    cases hi with
    | none =>
      match dks, ar, g, e with
      | [a, b], ⟨h1, h2, h3, h4, _⟩, g, e =>
        obtain ⟨b, kb⟩ := b
        cases b with
        | int i => cases h3.int; exact ⟨Y, R, foot, own, a.1, d, k, o, h2 (g a (by simp)), e, fin⟩
        | _ => cases e
    | some j =>
      match dks, ar, g, e with
      | [a, b, c], ⟨h1, h2, h3, h4, h5, h6, _⟩, g, e =>
        obtain ⟨b, kb⟩ := b
        obtain ⟨c, kc⟩ := c
        cases b with
        | int i =>
          cases c with
          | int j => cases h3.int; cases h5.int; exact ⟨Y, R, foot, own, a.1, d, k, o, h2 (g a (by simp)), e, fin⟩
          | _ => cases e
        | _ => cases e
theorem sl_any {T id : String} {X : Cx} {r : V → Option Int → Option Int → Hp → VK → Prop} (h : SlR X r) : SlR X r := h
theorem pr_slc (zx : ZX Z X) : SlR X (slcT Z) := by
  intro pins s σ H x v vl vu lo hi sl Q I rx hs pl pu h
  obtain ⟨Y, R, foot, own, a, d, k, o, g1, e, fin⟩ := slcT_inv h
  have kn := True.intro
  cases a with
  | list ds =>
    obtain ⟨p, vs, as, rfl, q, r, sh⟩ := g1.list kn
    obtain ⟨bs, r2, s2⟩ := cut_vals r sh lo hi
    exact sl_list pins s σ H _ v vl vu lo hi sl Q I rx hs pl pu ⟨p, vs, rfl, by rw [← zx.K]; exact q, fun p hp => give_list o e r2 s2 fin hp⟩
  | tuple ds =>
    obtain ⟨p, vs, as, rfl, q, r, sh⟩ := g1.tuple kn
    obtain ⟨bs, r2, s2⟩ := cut_vals r sh lo hi
    simp only [cutD] at e
    by_cases hw : HT.sIx ds.length 0 lo = 0 ∧ HT.sIx ds.length ds.length hi = ds.length
    · rw [cut_whole hw, if_neg (Nat.lt_irrefl _)] at e
      obtain ⟨its, rv, ht, hz⟩ := I.tuple (by rw [← zx.K]; exact q)
      cases rx
      have hlen : its.toArray.size = ds.length := by rw [List.size_toArray, ← rv.length, r.length]
      exact ⟨"tuple", _, PyProof.Rows.slot_tuple_getitem.lookup, ht.typeIs, getItem_tuple_whole ht hs pl pu (by rw [hlen]; exact hw) ⟨.ref p, H, I, rfl, give_part (v := .ref p) o e (.tup q r) sh fin⟩⟩
    · have hlt : (cut ds lo hi).length < ds.length := cut_less hw
      rw [if_pos hlt] at e
      exact sl_tup pins s σ H _ v vl vu lo hi sl Q I rx hs pl pu ⟨p, vs, rfl, by rw [← zx.K]; exact q, by rw [r.length]; exact hw, fun p hp => give_tup o e r2 s2 fin hp⟩
  | str z =>
    have h1 := g1.zero
    have e1 := h1.str; subst e1
    simp only [cutD] at e
    obtain ⟨hc, e⟩ := some_if e
    have hl : (cutS z lo hi).length ≤ sizeLine := Nat.le_trans (cutS_length z lo hi) h1.strLen
    exact sl_str pins s σ H _ v vl vu lo hi sl Q I rx hs pl pu ⟨z, rfl, h1.strLen, give_atom o (d' := .str (cutS z lo hi)) e (.str _ hl) fin⟩
  | _ => cases e
end
end TH
end
section
set_option Elab.async false
set_option linter.all false
set_option maxRecDepth 100000
namespace TH
open PySem PySem.Spec PyProof.Rows L2

section
variable {X : Cx} {Z : Cf}
/-! sorted -/
theorem pair_each {s : Shared} {w : World} {K : PySem.W.Frag} {H : Hp} : ∀ {vs : List V} {ds : List D} {as : List Addr} {its : List Value} {bs : List Addr}, DAll w K H true vs ds as → Vals vs its → ReadsAll s.heap its ds bs →
    PySem.W.EachIs (fun u (b : D × V) => RelV b.2 u) its (ds.zip vs) ∧ PySem.W.EachIs (fun u (b : D × V) => ∃ as, Reads s.heap u b.1 as) its (ds.zip vs)
  | _, _, _, _, _, .nil, .nil, _ => ⟨.nil, .nil⟩
  | _, _, _, _, _, .cons r rs, .cons q qs, .cons t ts => by
    obtain ⟨h1, h2⟩ := pair_each rs qs ts
    exact ⟨.cons q h1, .cons ⟨_, t⟩ h2⟩
theorem mem_pairs {w : World} {K : PySem.W.Frag} {H : Hp} : ∀ {vs : List V} {ds : List D} {as : List Addr}, DAll w K H true vs ds as → ∀ b ∈ ds.zip vs, ∃ bs, DRep w K H true b.2 b.1 bs ∧ ∀ a ∈ bs, a ∈ as
  | _, _, _, .nil, b, h => by simp at h
  | _, _, _, .cons r rs, b, h => by
    simp only [List.zip_cons_cons, List.mem_cons] at h
    rcases h with rfl | h
    · exact ⟨_, r, fun a z => List.mem_append_left _ z⟩
    · obtain ⟨bs, h1, h2⟩ := mem_pairs rs b h
      exact ⟨bs, h1, fun a z => List.mem_append_right _ (h2 a z)⟩
theorem all_pairs {w : World} {K : PySem.W.Frag} {H : Hp} {as : List Addr} : ∀ {ps : List (D × V)}, (∀ b ∈ ps, ∃ bs, DRep w K H true b.2 b.1 bs ∧ ∀ a ∈ bs, a ∈ as) → ∃ bs, DAll w K H true (ps.map (·.2)) (ps.map (·.1)) bs ∧ ∀ a ∈ bs, a ∈ as
  | [], _ => ⟨[], .nil, by simp⟩
  | p :: ps, h => by
    obtain ⟨b1, r1, s1⟩ := h p (by simp)
    obtain ⟨b2, r2, s2⟩ := all_pairs (ps := ps) fun b hb => h b (List.mem_cons_of_mem _ hb)
    exact ⟨b1 ++ b2, .cons r1 r2, fun a z => (List.mem_append.mp z).elim (s1 a) (s2 a)⟩
theorem each_vals : ∀ {us : List Value} {ps : List (D × V)}, PySem.W.EachIs (fun u (b : D × V) => RelV b.2 u) us ps → Vals (ps.map (·.2)) us
  | _, _, .nil => .nil
  | _, _, .cons h t => .cons h (each_vals t)
theorem alikeAllB_ok {r : List D} (h : alikeAllB r = true) : PySem.W.AllAlike r := fun d hd d' hd' => by
  unfold alikeAllB at h
  exact List.all_eq_true.mp (List.all_eq_true.mp h d hd) d' hd'
theorem sortable_ok {r : List D} (h : sortable r = true) : PySem.W.Sortable r := by
  unfold sortable at h
  rcases Bool.or_eq_true_iff.mp h with h | h
  · refine .inl fun d hd => ?_
    have := List.all_eq_true.mp h d hd
    cases d with
    | tuple xs =>
      cases xs with
      | nil => cases this
      | cons x r => exact ⟨x, r, rfl⟩
    | _ => cases this
  · refine .inr fun d hd => ?_
    have := List.all_eq_true.mp h d hd
    refine ⟨fun e => ?_, fun xs e => ?_⟩ <;> (subst e; cases this)
theorem sortD_pairs (ps : List (D × V)) : (ps.mergeSort (PySem.W.dataLe false (·.1))).map (·.1) = sortD (ps.map (·.1)) := by
  unfold sortD
  rw [List.map_mergeSort]
  intro a _ b _
  rfl
theorem zip_map1 {α β : Type} : ∀ {xs : List α} {ys : List β}, xs.length = ys.length → (xs.zip ys).map (·.1) = xs
  | [], [], _ => rfl
  | x :: xs, y :: ys, h => by simp [zip_map1 (xs := xs) (ys := ys) (by simpa using h)]
theorem pr_sorted (hu : X.A.units + 200 < cLine) : CallR X (.builtin "sorted") (fun xs H Q => ZX Z X ∧ PrimT Z .sorted xs H Q) := by
  intro pins s σ H xs us Q I r ⟨zx, h⟩
  obtain ⟨x, rfl⟩ := len1 (h.arity arN_sorted)
  obtain ⟨Y, R, foot, own, ⟨a, ka⟩, d, k, o, h1, h3, e, fin⟩ := h.one
  obtain ⟨u, rfl, rx⟩ := vals1 r
  have kn := True.intro
  have e : sortedD a = some (d, k) := e
  cases a with
  | list ds =>
    simp only [sortedD] at e
    obtain ⟨hc, e⟩ := some_if e
    simp only [Bool.and_eq_true] at hc
    obtain ⟨⟨c1, c2⟩, c3⟩ := hc
    obtain ⟨p, vs, as, rfl, q, rs, sh⟩ := (h3 rfl).list kn
    cases rx
    rw [zx.w, zx.K] at rs
    rw [zx.K] at q
    obtain ⟨its, rv, pl, hz⟩ := I.list q
    obtain ⟨bs, rr, _⟩ := DAll.reads I rs rv
    have hl := rs.length
    obtain ⟨e1, e2⟩ := pair_each rs rv rr
    have em : (ds.zip vs).map (·.1) = ds := zip_map1 hl.symm
    refine PySem.W.sorted_data (enc := fun b : D × V => b.1) (R := fun u (b : D × V) => RelV b.2 u) pl.isList e1 e2 (by rw [em]; exact alikeAllB_ok c1) (by rw [em]; exact sortable_ok c2) ?_ ?_ ?_
    · rw [List.length_zip]; omega
    · intro b hb
      have := shal_le (List.all_eq_true.mp c3 b.1 (by rw [← em]; exact List.mem_map.mpr ⟨b, hb, rfl⟩))
      omega
    · intro out hlen eo
      have rv2 := each_vals eo
      obtain ⟨bs2, ra2, sub2⟩ := all_pairs (ps := (ds.zip vs).mergeSort (PySem.W.dataLe false (·.1))) fun b hb => mem_pairs rs b (List.mem_mergeSort.mp hb)
      rw [sortD_pairs, em] at ra2
      obtain ⟨ep, he'⟩ := PyProof.Rows.sortedAll_at s.heap its out.toArray
      have hlen2 : (((ds.zip vs).mergeSort (PySem.W.dataLe false (·.1))).map (·.2)).length ≤ sizeLine := by
        rw [List.length_map, List.length_mergeSort, List.length_zip]; omega
      refine ⟨.ref _, upd H (s.heap.objs.size + 1) (.lst _), I.laid (t' := s.toks) (fun _ _ => PyProof.Rows.sortedAll_old) (Nat.le_succ _) ⟨hlen2, out, ep, rv2, he'⟩, rfl, ?_⟩
      exact give_list o e (by rw [zx.w, zx.K]; exact ra2) (sh.sub sub2) fin (I.hok.fresh (Nat.le_succ _))
  | _ => cases e
/-! list, tuple -/
theorem signs_all {w : World} {K : PySem.W.Frag} {H : Hp} {c : Bool} : ∀ cs : List Nat, DAll w K H c (cs.map fun c => V.str ⟨#[c]⟩) (cs.map fun c => PyData.str ⟨#[c]⟩) []
  | [] => .nil
  | x :: cs => .cons (as := []) (.str _ (by rw [sizeLine_eq]; exact (by decide : 1 ≤ 16777216))) (signs_all cs)
theorem paired_of_get {us : List Value} {vs : List V} (hl : vs.length = us.length) (h : ∀ (j : Nat) u, us[j]? = some u → ∃ v, vs[j]? = some v ∧ RelV v u) : Vals vs us := by
  induction us generalizing vs with
  | nil =>
    have : vs = [] := List.length_eq_zero_iff.mp hl
    subst this
    exact .nil
  | cons u us ih =>
    cases vs with
    | nil => simp at hl
    | cons v vs =>
      refine .cons ?_ (ih (by simpa using hl) fun j u e => ?_)
      · obtain ⟨v', e1, r⟩ := h 0 u rfl
        cases e1
        exact r
      · obtain ⟨v', e1, r⟩ := h (j + 1) u (by simpa using e)
        exact ⟨v', by simpa using e1, r⟩
theorem keys_all {w : World} {K : PySem.W.Frag} {H : Hp} {c c' : Bool} : ∀ {es : List DictEntry} {kvs : List (D × D)} {as : List Addr}, DEnts w K H c es kvs as → ∃ vs, DAll w K H c' vs (kvs.map (·.1)) [] ∧ Vals vs (es.map (·.key)) ∧ immL (kvs.map (·.1)) = true
  | _, _, _, .nil => ⟨[], .nil, .nil, rfl⟩
  | _, _, _, .cons h1 r1 h2 h3 h4 r rs => by
    obtain ⟨vs, q1, q2, q3⟩ := keys_all (c' := c') rs
    exact ⟨_ :: vs, .cons (as := []) (r1.imm_any c' (hashable_imm h2)) q1, .cons h1 q2, by simp [immL, hashable_imm h2, q3]⟩
theorem pr_list : CallR X (.type "list") (fun xs H Q => ZX Z X ∧ X.A.handled = none ∧ PrimT Z .list xs H Q) := by
  intro pins s σ H xs us Q I r ⟨zx, hh, h⟩
  obtain ⟨x, rfl⟩ := len1 (h.arity arN_list)
  obtain ⟨Y, R, foot, own, ⟨a, ka⟩, d, k, o, h1, h3, e, fin⟩ := h.one
  have kn := True.intro
  have e0 : listD a = some (d, k) := e
  clear e
  obtain ⟨l, e1, e9⟩ := Option.bind_eq_some_iff.mp e0
  clear e0
  obtain ⟨hc, e⟩ := some_if e9
  clear e9
  cases a with
  | list ds =>
    cases e1
    obtain ⟨p, vs, as, rfl, q, rs, sh⟩ := (h3 rfl).list kn
    exact call_list_of pins s σ H _ us Q I r ⟨p, vs, rfl, .inl (by rw [← zx.K]; exact q), fun l hl => give_list o e rs sh fin hl⟩
  | tuple ds =>
    cases e1
    obtain ⟨p, vs, as, rfl, q, rs, sh⟩ := (h3 rfl).tuple kn
    exact call_list_of pins s σ H _ us Q I r ⟨p, vs, rfl, .inr (by rw [← zx.K]; exact q), fun l hl => give_list o e rs sh fin hl⟩
  | str z =>
    cases e1
    have e2 := h1.str; subst e2
    have hz := h1.strLen
    obtain ⟨u, rfl, t, rfl⟩ := vals1 r
    refine PySem.call_list_str hh z t (fun h' tk acc' c' kp hS hacc => ?_) (by exact hz)
    have hv : Vals (z.cps.toList.map fun c => V.str ⟨#[c]⟩) acc'.toList := paired_of_get (by simp [hacc.1]) fun j u hj => by
      obtain ⟨c, t', hc, rfl⟩ := hacc.2 j u (by simpa using hj)
      exact ⟨.str ⟨#[c]⟩, by simp [hc], _, rfl⟩
    refine ⟨.ref _, upd H s.heap.objs.size (.lst _), I.laid (t' := tk) kp (Nat.le_refl _) ⟨by simp; exact hz, acc'.toList, c', hv, by simpa using hS⟩, rfl, ?_⟩
    exact give_list o e (signs_all _) .nil fin I.fresh
  | dict kvs =>
    cases e1
    obtain ⟨u, rfl, rx⟩ := vals1 r
    obtain ⟨p, es, ep, as, rfl, rfl, raw, hsm, hz, hl, ents, _⟩ := dict_arg zx I h1 rx
    obtain ⟨vs, g1, g2, g3⟩ := keys_all (c' := true) ents
    refine PySem.W.kdl_call (PySem.KdlSrc.rawDict (es := es) (ep := ep) (beq_eq_false_iff_ne.mpr hsm)) hh raw hz fun h' tk acc' c' kp hS hacc => ?_
    have hv : Vals vs acc'.toList := by
      have e3 : acc'.toList = es.toList.map (·.key) := by
        apply List.ext_getElem?
        intro j
        by_cases hj : j < es.size
        · have hj' : j < acc'.size := by rw [hacc.1]; exact hj
          obtain ⟨hi, ev⟩ := hacc.2 j acc'[j] (Array.getElem?_eq_getElem hj')
          rw [List.getElem?_map, Array.getElem?_toList, Array.getElem?_toList, Array.getElem?_eq_getElem hj', Array.getElem?_eq_getElem hj, ev]
          rfl
        · simp [hacc.1, hj]
      rw [e3]; exact g2
    refine ⟨.ref _, upd H s.heap.objs.size (.lst _), I.laid (t' := tk) kp (Nat.le_refl _) ⟨by rw [g2.length]; simpa using hz, acc'.toList, c', hv, by simpa using hS⟩, rfl, ?_⟩
    exact give_list o e (by rw [zx.w, zx.K]; exact g1) .nil fin I.fresh
  | _ => cases e1
theorem pr_tuple : CallR X (.type "tuple") (fun xs H Q => ZX Z X ∧ PrimT Z .tuple xs H Q) := by
  intro pins s σ H xs us Q I r ⟨zx, h⟩
  obtain ⟨x, rfl⟩ := len1 (h.arity arN_tuple)
  obtain ⟨Y, R, foot, own, ⟨a, ka⟩, d, k, o, h1, h3, e, fin⟩ := h.one
  have kn := True.intro
  have e : tupleD a = some (d, k) := e
  cases a with
  | list ds =>
    obtain ⟨p, vs, as, rfl, q, rs, sh⟩ := (h3 rfl).list kn
    exact call_tuple_of pins s σ H _ us Q I r ⟨p, vs, rfl, .inl ⟨by rw [← zx.K]; exact q, fun l hl => give_tup o e rs sh fin hl⟩⟩
  | tuple ds =>
    obtain ⟨p, vs, as, rfl, q, rs, sh⟩ := (h3 rfl).tuple kn
    exact call_tuple_of pins s σ H _ us Q I r ⟨p, vs, rfl, .inr ⟨by rw [← zx.K]; exact q, give_part o e (.tup q rs) sh fin⟩⟩
  | _ => cases e
/-! repr, join -/
theorem pr_repr (hg : X.A.guards = some []) (hs : SysD X) (hu : X.A.units + 200 < cLine) : CallR X (.builtin "repr") (fun xs H Q => ZX Z X ∧ PrimT Z .repr xs H Q) := by
  intro pins s σ H xs us Q I r ⟨zx, h⟩
  obtain ⟨x, rfl⟩ := len1 (h.arity arN_repr)
  obtain ⟨Y, R, foot, own, ⟨a, ka⟩, d, k, o, h1, h3, e, fin⟩ := h.one
  have e : reprD a = some (d, k) := e
  obtain ⟨hc, e⟩ := some_if e
  simp only [Bool.and_eq_true] at hc
  obtain ⟨⟨c1, c2⟩, c3⟩ := hc
  have c3 := shal_le c3
  obtain ⟨u, rfl, rx⟩ := vals1 r
  obtain ⟨bs, rr, ns⟩ := h1.reads2 zx I rx
  have fin' : ∀ t tk, (EP X pins σ Q) (.str a.shown t) { s with toks := tk } := fun t tk => ⟨.str a.shown, H, I.tok tk, ⟨t, rfl⟩, give_atom o e (.str _ (line_le c2)) fin⟩
  have big : ∀ p, u = .ref p → wpAny (model X.prog X.w) X.A (call (.builtin "repr") [u]) (EP X pins σ Q) X.xe s := fun p ep => by
    subst ep
    exact repr_of_reads' rr c1 (fun _ => ns hs) hg (by show X.A.units + (a.depth + 1) < cLine; omega) (fun _ _ e => e) (fun h' t tk kp => ⟨.str a.shown, H, I.kept kp, ⟨t, rfl⟩, give_atom o e (.str _ (line_le c2)) fin⟩) (line_le c2)
  cases rr with
  | none => exact P.repr_of_none (fin' _ _)
  | bool b => exact P.repr_of_bool (by have := fin' s.toks (s.toks + 1); cases b <;> exact this)
  | int i t => exact P.repr_of_int (of_decide_eq_true c1) (fin' _ _)
  | str x t => exact P.repr_of_str (fin' _ _) (line_le c2)
  | list => exact big _ rfl
  | tuple => exact big _ rfl
  | dict => exact big _ rfl
theorem pr_join : MtR X "str.join" (fun x xs H Q => ZX Z X ∧ PrimT Z .join (x :: xs) H Q) := by
  intro pins s σ H x xs v us Q I rx rs ⟨zx, h⟩
  have hl := h.arity arN_join
  obtain ⟨y, rfl⟩ := len1 (xs := xs) (by simpa using hl)
  obtain ⟨Y, R, foot, own, ⟨a, ka⟩, ⟨b, kb⟩, d, k, o, h1, h2, h3, e, fin⟩ := h.two
  have e0 : joinD a b = some (d, k) := e
  clear e
  cases a with
  | str z =>
    have e1 := h1.str; subst e1
    simp only [joinD] at e0
    obtain ⟨ys, e1, e9⟩ := Option.bind_eq_some_iff.mp e0
    clear e0
    obtain ⟨hc, e⟩ := some_if e9
    clear e9
    cases b with
    | list ds =>
      obtain ⟨p, vs, as, rfl, q, r2⟩ := h2.list
      have ev := strs_vals r2 (show strsD ds = some ys from e1)
      subst ev
      refine mt_join pins s σ H _ _ v us Q I rx rs ⟨z, p, ys, rfl, rfl, .inl (by rw [← zx.K]; exact q), by rw [← sizeLine_eq]; exact line_le hc, ?_⟩
      have ej : Txt.join z ys = Str.join z ys := StrLaws.glued_eq_join z ys
      rw [ej]
      exact give_atom o e (.str _ (Nat.le_trans (StrLaws.join_length_le z ys) (line_le hc))) fin
    | _ => cases e1
  | _ => cases e0
end
end TH
end
section
set_option Elab.async false
set_option linter.all false
set_option maxRecDepth 100000
/-! dicts of any keys: numbers, texts, None, tuples of keys -/
namespace TH
open PySem PySem.Spec PyProof.Rows

abbrev Nk := NestedKey
abbrev Ent := Nk × Value × Value
def entN (w : World) (x : Ent) : DictEntry := ⟨x.1.hash w, x.2.1, x.2.2⟩
def NkIs (h : Heap) (k : Nk) (v : Value) : Prop := NestedIs h k v ∧ k.depth ≤ 8
def NkAll (h : Heap) (xs : List Ent) : Prop := ∀ x ∈ xs, NkIs h x.1 x.2.1
def atN (xs : List Ent) (k : Nk) : Option (Value × Value) := (xs.find? fun x => decide (x.1 = k)).map (·.2)
def putN (k : Nk) (v : Value) (x : Ent) : Ent := if x.1 = k then (x.1, x.2.1, v) else x
def storedN (xs : List Ent) (k : Nk) (a v : Value) : List Ent := if (atN xs k).isSome then xs.map (putN k v) else xs ++ [(k, a, v)]
def DictN (w : World) (h : Heap) (d : Addr) (xs : List Ent) : Prop :=
  ∃ o es ep, h.get? d = some o ∧ o.ExactDict ∧ o.data = .dict es ep ∧ es.toList = xs.map (entN w) ∧ NkAll h xs ∧ (xs.map (·.1)).Nodup

theorem atN_of_get {xs : List Ent} (hn : (xs.map (·.1)).Nodup) {i : Nat} {k : Nk} {p : Value × Value} (hx : xs[i]? = some (k, p)) : atN xs k = some p := by
  induction xs generalizing i with
  | nil => simp at hx
  | cons x rest ih =>
    rw [List.map_cons, List.nodup_cons] at hn
    cases i with
    | zero =>
      simp only [List.getElem?_cons_zero, Option.some.injEq] at hx
      subst hx; simp [atN]
    | succ j =>
      simp only [List.getElem?_cons_succ] at hx
      have hmem : k ∈ rest.map (·.1) := List.mem_map.mpr ⟨(k, p), List.mem_of_getElem? hx, rfl⟩
      have hne : ¬ x.1 = k := fun e => hn.1 (e ▸ hmem)
      have := ih hn.2 hx
      simpa [atN, List.find?_cons, hne] using this
theorem atN_none_of_get {xs : List Ent} {k : Nk} (h : ∀ (j : Nat) (p : Value × Value), xs[j]? ≠ some (k, p)) : atN xs k = none := by
  have : (xs.find? fun x => decide (x.1 = k)) = none := by
    rw [List.find?_eq_none]
    intro x hx hk
    obtain ⟨j, hj⟩ := List.mem_iff_getElem?.mp hx
    have hk' : x.1 = k := of_decide_eq_true hk
    exact h j x.2 (by rw [hj, ← hk'])
  simp [atN, this]
theorem not_memN {xs : List Ent} {k : Nk} (h : ∀ (j : Nat) (p : Value × Value), xs[j]? ≠ some (k, p)) : k ∉ xs.map (·.1) := by
  intro hm
  obtain ⟨x, hx, rfl⟩ := List.mem_map.mp hm
  obtain ⟨j, hj⟩ := List.mem_iff_getElem?.mp hx
  exact h j x.2 hj
theorem putN_of_not_mem (xs : List Ent) (k : Nk) (v : Value) (hn : k ∉ xs.map (·.1)) : xs.map (putN k v) = xs := by
  induction xs with
  | nil => rfl
  | cons x xs ih =>
    simp only [List.map_cons, List.mem_cons, not_or] at hn ⊢
    rw [putN, if_neg (fun e => hn.1 e.symm), ih hn.2]
theorem keys_putN (xs : List Ent) (k : Nk) (v : Value) : (xs.map (putN k v)).map (·.1) = xs.map (·.1) := by
  induction xs with
  | nil => rfl
  | cons x xs ih =>
    simp only [List.map_cons, ih]
    by_cases hk : x.1 = k <;> simp [putN, hk]
theorem idxN_unique {xs : List Ent} (hn : (xs.map (·.1)).Nodup) : ∀ {i j : Nat} {k : Nk} {p q : Value × Value}, xs[i]? = some (k, p) → xs[j]? = some (k, q) → i = j := by
  intro i j k p q hi hj
  have hi' : (xs.map (·.1))[i]? = some k := by rw [List.getElem?_map, hi]; rfl
  have hj' : (xs.map (·.1))[j]? = some k := by rw [List.getElem?_map, hj]; rfl
  exact (List.getElem?_inj (List.getElem?_eq_some_iff.mp hi').1 hn).mp (hi'.trans hj'.symm)
theorem modify_putN {β : Type} (f : Ent → β) (g : β → β) (k : Nk) (v : Value) (hg : ∀ a v₀, g (f (k, a, v₀)) = f (k, a, v)) :
    ∀ {xs : List Ent} {j : Nat} {p : Value × Value}, (xs.map (·.1)).Nodup → xs[j]? = some (k, p) → (xs.map f).modify j g = (xs.map (putN k v)).map f := by
  intro xs
  induction xs with
  | nil => intro j p _ hj; simp at hj
  | cons x rest ih =>
    intro j p hn hj
    rw [List.map_cons, List.nodup_cons] at hn
    cases j with
    | zero =>
      simp only [List.getElem?_cons_zero, Option.some.injEq] at hj
      subst hj
      rw [List.map_cons, List.map_cons, putN_of_not_mem rest k v hn.1, putN, if_pos rfl, List.map_cons]
      show g (f (k, p)) :: rest.map f = f (k, p.1, v) :: rest.map f
      rw [show (k, p) = (k, p.1, p.2) from rfl, hg]
    | succ j =>
      simp only [List.getElem?_cons_succ] at hj
      have hmem : k ∈ rest.map (·.1) := List.mem_map.mpr ⟨(k, p), List.mem_of_getElem? hj, rfl⟩
      have hne : ¬ x.1 = k := fun e => hn.1 (e ▸ hmem)
      rw [List.map_cons, List.map_cons, putN, if_neg hne, List.map_cons]
      show f x :: (rest.map f).modify j g = f x :: (rest.map (putN k v)).map f
      rw [ih hn.2 hj]
theorem entN_at {w : World} {es : Array DictEntry} {xs : List Ent} (he : es.toList = xs.map (entN w)) (j : Nat) : es[j]? = (xs[j]?).map (entN w) := by
  rw [← Array.getElem?_toList, he, List.getElem?_map]
theorem sizeN {w : World} {es : Array DictEntry} {xs : List Ent} (he : es.toList = xs.map (entN w)) : es.size = xs.length := by
  rw [← Array.length_toList, he, List.length_map]
theorem DictN.typeIs {w : World} {s : Shared} {d : Addr} {xs : List Ent} (hm : DictN w s.heap d xs) : s.TypeIs (.ref d) "dict" := let ⟨o, _, _, ho, hc, _⟩ := hm; ⟨o, ho, hc.1⟩
theorem NkIs.keeps {h h' : Heap} {k : Nk} {v : Value} {d : Addr} {o : Obj} {es : Array DictEntry} {ep : Nat} (x : NkIs h k v) (ho : h.get? d = some o) (hd : o.data = .dict es ep) (hs : Heap.SameBut d h h') : NkIs h' k v :=
  ⟨NestedIs.at (fun b ob vs n hb hc => by
    refine (hs.2 b fun e => ?_).trans hb
    subst e
    rw [ho] at hb
    cases hb
    rw [hd] at hc
    cases hc) k _ x.1, x.2⟩
theorem NkIs.inj {h : Heap} {v : Value} {a b : Nk} (x : NkIs h a v) (y : NkIs h b v) : a = b := NestedIs.inj _ _ _ x.1 y.1

section
variable {prog : Program} {w : World} {A : Around} {E : Value → Shared → Prop} {s : Shared}
theorem nk_hash {k : Nk} {v : Value} {Q : Int → Shared → Prop} (hu : A.units + 9 < cLine) (x : NkIs s.heap k v) (h : ∀ tk, Q (k.hash w) { s with toks := tk }) : wpAny (model prog w) A (pyHash v) Q E s := pyHash_key _ _ _ _ _ x.1 (by have := x.2; omega) (h _)
theorem nk_eq {a b : Nk} {u v : Value} {Q : Bool → Shared → Prop} (hu : A.units + 9 < cLine) (x : NkIs s.heap a u) (y : NkIs s.heap b v) (h : Q (decide (a = b)) s) : wpAny (model prog w) A (eqBool u v) Q E s :=
  eqAt_key a b A s _ _ x.1 y.1 (by have := x.2; omega) _ _ _ _ (by rw [← NestedKey.decide_eq]; exact h)
theorem nk_quiet {k : Nk} {v : Value} {Q : Bool → Shared → Prop} (x : NkIs s.heap k v) (h : Q true s) : wpAny (model prog w) A (eqIsQuiet 8 v) Q E s := quiet_key k _ 8 s x.1 x.2 A E Q h
theorem nk_tells {k : Nk} {key : Value} {stored : List Value} {Q : Bool → Shared → Prop} (hkey : NkIs s.heap k key) (hst : ∀ v ∈ stored, ∃ k', NkIs s.heap k' v) (h : Q false s) : wpAny (model prog w) A (tableMayTell key stored) Q E s := by
  unfold tableMayTell
  split
  · exact wpAny_pure h
  · refine wpAny_bind (nk_quiet hkey ?_)
    simp only [Bool.not_true, Bool.false_eq_true, if_false]
    refine wpAny_bind ?_
    refine wpAny_forIn_list _ (fun rest r s' => s' = s ∧ r = (none, ()) ∧ ∀ v ∈ rest, ∃ k', NkIs s.heap k' v) _ ?_ ?_ _ _ ⟨rfl, rfl, hst⟩
    · rintro x rest r s' ⟨rfl, rfl, hr⟩
      obtain ⟨k', hb⟩ := hr x List.mem_cons_self
      refine wpAny_bind (nk_quiet hb ?_)
      simp only [Bool.not_true, Bool.false_eq_true, if_false]
      exact wpAny_pure ⟨rfl, rfl, fun v hv => hr v (List.mem_cons_of_mem _ hv)⟩
    · rintro r s' ⟨rfl, rfl, _⟩
      exact wpAny_pure h
theorem nk_str {h : Heap} {k : Nk} {x : Str} {t : Tok} (q : NkIs h k (.str x t)) : k = .text x := by
  obtain ⟨q, _⟩ := q
  cases q
  rfl
theorem nk_isStr {h : Heap} {k : Nk} {x : Str} {v : Value} (q : NkIs h k v) (hv : isExactStrKey v = true) : v.isStr x = decide (k = .text x) := by
  obtain ⟨q, _⟩ := q
  cases q with
  | text y t =>
    show (y == x) = _
    rw [Bool.beq_eq_decide_eq]
    by_cases e : y = x
    · subst e; simp
    · rw [decide_eq_false e, decide_eq_false (fun z => e (by injection z))]
  | _ => cases hv

theorem dictFind_nk {d : Addr} {o : Obj} {es : Array DictEntry} {ep : Nat} {xs : List Ent} {k : Nk} {key : Value} {Q : Option Nat → Shared → Prop} (hu : A.units + 9 < cLine) (hkey : NkIs s.heap k key)
    (ho : s.heap.get? d = some o) (hd : o.data = .dict es ep) (he : es.toList = xs.map (entN w)) (his : NkAll s.heap xs) (hn : (xs.map (·.1)).Nodup)
    (hnone : (∀ (j : Nat) (p : Value × Value), xs[j]? ≠ some (k, p)) → Q none s) (hsome : ∀ (j : Nat) (p : Value × Value), xs[j]? = some (k, p) → Q (some j) s) :
    wpAny (model prog w) A (dictFind d key (k.hash w)) Q E s := by
  have hsz : es.size = xs.length := sizeN he
  have haskey : ∀ (j : Nat) (p : Value × Value), xs[j]? = some (k, p) → ((es[j]?.map (·.hash)) == some (k.hash w)) = true := by
    intro j p hj
    rw [entN_at he j, hj]
    simp [entN]
  have hmem : ∀ e ∈ es, ∃ x ∈ xs, e = entN w x := by
    intro e hin
    have : e ∈ xs.map (entN w) := he ▸ Array.mem_toList_iff.mpr hin
    obtain ⟨x, hx, rfl⟩ := List.mem_map.mp this
    exact ⟨x, hx, rfl⟩
  have hany : ¬ (es.any fun e => e.key == key && e.hash != k.hash w) = true := by
    rw [← Array.any_toList, List.any_eq_true]
    rintro ⟨e, hin, hc⟩
    obtain ⟨x, hx, rfl⟩ := hmem e (Array.mem_toList_iff.mp hin)
    simp only [entN, Bool.and_eq_true, beq_iff_eq, bne_iff_ne, ne_eq] at hc
    obtain ⟨hxa, hne⟩ := hc
    have := his x hx
    rw [hxa] at this
    exact hne (by rw [this.inj hkey])
  have hst : ∀ v ∈ (placesWithHash es.size (fun i => es[i]?.map (·.hash)) (k.hash w)).filterMap (fun i => es[i]?.map (·.key)), ∃ k', NkIs s.heap k' v := by
    intro v hv
    obtain ⟨i, _, hi⟩ := List.mem_filterMap.mp hv
    cases hei : es[i]? with
    | none => rw [hei] at hi; cases hi
    | some e =>
      rw [hei] at hi
      obtain rfl : e.key = v := by simpa using hi
      obtain ⟨x, hx, rfl⟩ := hmem e (Array.mem_of_getElem? hei)
      exact ⟨x.1, his x hx⟩
  have at_of : ∀ (x : Nat), x < es.size → ∃ k' b v', xs[x]? = some (k', b, v') ∧ es[x]? = some ⟨k'.hash w, b, v'⟩ ∧ NkIs s.heap k' b := fun x hlt => by
    obtain ⟨⟨k', b, v'⟩, hkv⟩ : ∃ y, xs[x]? = some y := ⟨xs[x]'(by rw [← hsz]; exact hlt), List.getElem?_eq_getElem _⟩
    exact ⟨k', b, v', hkv, by rw [entN_at he x, hkv]; rfl, his _ (List.mem_of_getElem? hkv)⟩
  have walk : wpAny (model prog w) A (dictWalkPlain d key (k.hash w) es (placesWithHash es.size (fun i => es[i]?.map (·.hash)) (k.hash w))) Q E s := by
    unfold dictWalkPlain
    refine wpAny_bind ?_
    refine wpAny_forIn_list _
      (fun rest b s' => s' = s ∧ ∃ i, b = (none, ()) ∧ rest = (List.range' i (es.size - i)).filter (fun i => (es[i]?.map (·.hash)) == some (k.hash w)) ∧ i ≤ es.size ∧
        ∀ j p, j < i → xs[j]? ≠ some (k, p)) _ ?_ ?_ _ _
      ⟨rfl, 0, rfl, by rw [placesWithHash, List.range_eq_range', Nat.sub_zero], Nat.zero_le _, fun _ _ h => absurd h (Nat.not_lt_zero _)⟩
    · rintro x rest b s' ⟨rfl, i, rfl, hr, hi, hno⟩
      obtain ⟨hix, hxn, hpx, hskip, hrest⟩ := filter_range'_cons _ _ _ _ _ hr.symm
      have hlt : x < es.size := by omega
      have hrest' : rest = (List.range' (x + 1) (es.size - (x + 1))).filter (fun i => (es[i]?.map (·.hash)) == some (k.hash w)) := by rw [hrest]; congr 2; omega
      obtain ⟨k', b, v', hkv, hex, hib⟩ := at_of x hlt
      have hstay : ¬ k' = k → ∀ j p, j < x + 1 → xs[j]? ≠ some (k, p) := fun hne j p hjx hj => by
        rcases Nat.lt_or_ge j i with h | h
        · exact hno j p h hj
        · rcases Nat.lt_or_ge j x with h2 | h2
          · have := hskip j h h2
            rw [haskey j p hj] at this
            exact absurd this (by decide)
          · have hjx' : j = x := by omega
            subst hjx'
            rw [hkv] at hj
            injection hj with hj
            injection hj with hj
            exact hne hj
      rw [hex]
      dsimp only
      by_cases hh : (k'.hash w == k.hash w) = true
      · rw [if_pos hh]
        refine wpAny_bind (wpAny_dictEpoch ho hd (wpAny_bind (nk_eq hu hib hkey (wpAny_bind (wpAny_dictEpoch ho hd ?_)))))
        show wpAny _ _ (if (ep != ep) = true then _ else _) _ E _
        rw [if_neg (by simp)]
        by_cases hkk : k' = k
        · rw [decide_eq_true hkk]
          subst hkk
          exact wpAny_bind (wpAny_rule (wpAny_pure (wpAny_pure (hsome x _ hkv))))
        · rw [decide_eq_false hkk]
          exact wpAny_bind (wpAny_rule (wpAny_pure ⟨rfl, x + 1, rfl, hrest', hlt, hstay hkk⟩))
      · rw [if_neg hh]
        refine wpAny_pure ⟨rfl, x + 1, rfl, hrest', hlt, hstay ?_⟩
        intro hkk
        rw [hkk] at hh; simp at hh
    · rintro b s' ⟨rfl, i, rfl, hr, hi, hno⟩
      have hall : ∀ j, i ≤ j → j < es.size → ((es[j]?.map (·.hash)) == some (k.hash w)) = false := by
        intro j h1 h2
        have := List.filter_eq_nil_iff.mp hr.symm j (List.mem_range'_1.mpr ⟨h1, by omega⟩)
        simpa using this
      refine wpAny_pure (hnone fun j p hj => ?_)
      rcases Nat.lt_or_ge j i with h | h
      · exact hno j p h hj
      · have hjl : j < es.size := by
          rw [hsz]
          rcases Nat.lt_or_ge j xs.length with h' | h'
          · exact h'
          · rw [List.getElem?_eq_none h'] at hj; exact nomatch hj
        have := hall j h hjl
        rw [haskey j p hj] at this
        exact absurd this (by decide)
  have byv : ∀ x t, key = .str x t → (es.all fun e => isExactStrKey e.key) = true → wpAny (model prog w) A (foundByValue d key es x) Q E s := fun x t ek hall => by
    subst ek
    have ekk := nk_str hkey
    subst ekk
    have hkeys : ∀ (j : Nat) (k' : Nk) (b v' : Value), xs[j]? = some (k', b, v') → b.isStr x = decide (k' = NestedKey.text x) := fun j k' b v' hj => by
      have hm := List.mem_of_getElem? hj
      have he2 : entN w (k', b, v') ∈ es := Array.mem_toList_iff.mp (by rw [he]; exact List.mem_map.mpr ⟨_, hm, rfl⟩)
      exact nk_isStr (his _ hm) (by
        rw [← Array.all_toList] at hall
        exact List.all_eq_true.mp hall _ (Array.mem_toList_iff.mpr he2))
    unfold foundByValue
    cases hf : es.findIdx? (fun e => e.key.isStr x) with
    | none =>
      refine wpAny_pure (hnone fun j p hj => ?_)
      have hjl : j < es.size := by
        rw [hsz]
        rcases Nat.lt_or_ge j xs.length with h' | h'
        · exact h'
        · rw [List.getElem?_eq_none h'] at hj; exact nomatch hj
      have h1 := Array.findIdx?_eq_none_iff.mp hf es[j] (Array.getElem_mem hjl)
      have h2 : es[j] = entN w (.text x, p) := by
        have := entN_at he j
        rw [hj, Array.getElem?_eq_getElem hjl] at this
        simpa using this
      rw [h2] at h1
      have h3 := hkeys j _ _ _ hj
      simp only [entN] at h1
      rw [h3] at h1
      simp at h1
    | some i =>
      obtain ⟨hlt, hi, _⟩ := Array.findIdx?_eq_some_iff_getElem.mp hf
      obtain ⟨k', b, v', hkv, hex, hib⟩ := at_of i hlt
      have e1 : es[i] = ⟨k'.hash w, b, v'⟩ := by rw [Array.getElem?_eq_getElem hlt] at hex; simpa using hex
      rw [e1] at hi
      have h3 := hkeys i _ _ _ hkv
      simp only at hi
      rw [h3] at hi
      have hkk : k' = .text x := of_decide_eq_true hi
      simp only [hex]
      refine wpAny_bind (wpAny_dictEpoch ho hd (wpAny_bind (nk_eq hu hib hkey (wpAny_bind (wpAny_dictEpoch ho hd ?_)))))
      show wpAny _ _ (if (ep != ep) = true then _ else _) _ E _
      rw [if_neg (by simp), decide_eq_true hkk]
      subst hkk
      exact wpAny_bind (wpAny_rule (wpAny_pure (hsome i _ hkv)))
  have hkey2 := hkey
  unfold dictFind
  try with_reducible refine wpAny_holding ?_
  refine wpAny_bind (wpAny_dictEntries ho hd ?_)
  dsimp only
  obtain ⟨hk, hdep⟩ := hkey2
  cases hk with
  | text z t =>
    dsimp only
    by_cases hs : (es.all fun e => isExactStrKey e.key) = true
    · rw [if_pos hs]
      exact byv z t rfl hs
    · rw [if_neg hs]
      by_cases hall : ((Value.str z t :: (placesWithHash es.size (fun i => es[i]?.map (·.hash)) (NestedKey.hash w (.text z))).filterMap (fun i => es[i]?.map (·.key))).all carriedByValue) = true
      · rw [if_pos hall]
        exact walk
      · rw [if_neg hall]
        by_cases hone : (((placesWithHash es.size (fun i => es[i]?.map (·.hash)) (NestedKey.hash w (.text z))).filterMap (fun i => es[i]?.map (·.key))) == [Value.str z t]) = true <;>
        (first | rw [if_pos hone] | rw [if_neg hone]) <;> (first | refine wpAny_bind (wpAny_pure ?_) | refine wpAny_bind (nk_tells hkey hst ?_)) <;> (
          rw [if_neg (by simp)]
          refine wpAny_bind ?_
          refine wpAny_forIn_list _
            (fun rest b s' => s' = s ∧ ∃ i hit, b = (none, hit) ∧ rest = (List.range' i (es.size - i)).filter (fun i => (es[i]?.map (·.hash)) == some (NestedKey.hash w (.text z))) ∧ i ≤ es.size ∧
              ((hit = none ∧ ∀ j p, j < i → xs[j]? ≠ some ((.text z), p)) ∨ ∃ j p, hit = some j ∧ j < i ∧ xs[j]? = some ((.text z), p))) _ ?_ ?_ _ _
            ⟨rfl, 0, none, rfl, by rw [placesWithHash, List.range_eq_range', Nat.sub_zero], Nat.zero_le _, .inl ⟨rfl, fun _ _ h => absurd h (Nat.not_lt_zero _)⟩⟩
          · rintro x rest b s' ⟨rfl, i, hit, rfl, hr, hi, hH⟩
            obtain ⟨hix, hxn, hpx, hskip, hrest⟩ := filter_range'_cons _ _ _ _ _ hr.symm
            have hlt : x < es.size := by omega
            have hrest' : rest = (List.range' (x + 1) (es.size - (x + 1))).filter (fun i => (es[i]?.map (·.hash)) == some (NestedKey.hash w (.text z))) := by rw [hrest]; congr 2; omega
            obtain ⟨k', b, v', hkv, hex, hib⟩ := at_of x hlt
            have hHx : (hit = none ∧ ∀ j p, j < x → xs[j]? ≠ some ((.text z), p)) ∨ ∃ j p, hit = some j ∧ j < x ∧ xs[j]? = some ((.text z), p) := by
              rcases hH with ⟨h0, hno⟩ | ⟨j, p, h1, hji, hj⟩
              · refine .inl ⟨h0, fun j p hjx hj => ?_⟩
                rcases Nat.lt_or_ge j i with h | h
                · exact hno j p h hj
                · have := hskip j h hjx
                  rw [haskey j p hj] at this
                  exact absurd this (by decide)
              · exact .inr ⟨j, p, h1, by omega, hj⟩
            have hstay : ¬ k' = (.text z) → ((hit = none ∧ ∀ j p, j < x + 1 → xs[j]? ≠ some ((.text z), p)) ∨ ∃ j p, hit = some j ∧ j < x + 1 ∧ xs[j]? = some ((.text z), p)) := by
              intro hne
              rcases hHx with ⟨h0, hno⟩ | ⟨j, p, h1, hjx, hj⟩
              · refine .inl ⟨h0, fun j p hjx hj => ?_⟩
                rcases Nat.lt_or_ge j x with h | h
                · exact hno j p h hj
                · have hjx' : j = x := by omega
                  subst hjx'
                  rw [hkv] at hj
                  injection hj with hj
                  injection hj with hj
                  exact hne hj
              · exact .inr ⟨j, p, h1, by omega, hj⟩
            rw [hex]
            dsimp only
            by_cases hh : (k'.hash w == NestedKey.hash w (.text z)) = true
            · rw [if_pos hh]
              refine wpAny_bind (wpAny_dictEpoch ho hd (wpAny_bind (nk_eq hu hib hkey (wpAny_bind (wpAny_dictEpoch ho hd ?_)))))
              show wpAny _ _ (if (ep != ep) = true then _ else _) _ E _
              rw [if_neg (by simp)]
              by_cases hkk : k' = (.text z)
              · rw [decide_eq_true hkk]
                subst hkk
                rcases hHx with ⟨rfl, _⟩ | ⟨j, p, _, hjx, hj⟩
                · first | rw [if_pos rfl] | skip
                  simp only [Option.isSome_none, Bool.false_eq_true, if_false]
                  first | refine wpAny_bind (wpAny_pure ?_) | skip
                  refine wpAny_bind (wpAny_rule ?_)
                  split
                  · exact wpAny_pure (wpAny_pure (hsome x _ hkv))
                  · exact wpAny_pure ⟨rfl, x + 1, some x, rfl, hrest', hlt, .inr ⟨x, _, rfl, Nat.lt_succ_self x, hkv⟩⟩
                · exact absurd (idxN_unique hn hj hkv) (by omega)
              · rw [decide_eq_false hkk]
                simp only [Bool.false_eq_true, if_false]
                refine wpAny_bind (wpAny_rule ?_)
                first | rw [if_neg (by simp)] | skip
                first
                  | exact wpAny_pure ⟨rfl, x + 1, hit, rfl, hrest', hlt, hstay hkk⟩
                  | exact wpAny_bind (wpAny_pure (wpAny_pure ⟨rfl, x + 1, hit, rfl, hrest', hlt, hstay hkk⟩))
            · rw [if_neg hh]
              refine wpAny_pure ⟨rfl, x + 1, hit, rfl, hrest', hlt, hstay ?_⟩
              intro hkk
              rw [hkk] at hh; simp at hh
          · rintro b s' ⟨rfl, i, hit, rfl, hr, hi, hH⟩
            have hall : ∀ j, i ≤ j → j < es.size → ((es[j]?.map (·.hash)) == some (NestedKey.hash w (.text z))) = false := by
              intro j h1 h2
              have := List.filter_eq_nil_iff.mp hr.symm j (List.mem_range'_1.mpr ⟨h1, by omega⟩)
              simpa using this
            rcases hH with ⟨rfl, hno⟩ | ⟨j, p, rfl, _, hj⟩
            · refine wpAny_pure (hnone fun j p hj => ?_)
              rcases Nat.lt_or_ge j i with h | h
              · exact hno j p h hj
              · have hjl : j < es.size := by
                  rw [hsz]
                  rcases Nat.lt_or_ge j xs.length with h' | h'
                  · exact h'
                  · rw [List.getElem?_eq_none h'] at hj; exact nomatch hj
                have := hall j h hjl
                rw [haskey j p hj] at this
                exact absurd this (by decide)
            · exact wpAny_pure (hsome j p hj))
  | none =>
    by_cases hall : ((Value.none :: (placesWithHash es.size (fun i => es[i]?.map (·.hash)) (NestedKey.hash w .none)).filterMap (fun i => es[i]?.map (·.key))).all carriedByValue) = true
    · rw [if_pos hall]
      exact walk
    · rw [if_neg hall]
      by_cases hone : (((placesWithHash es.size (fun i => es[i]?.map (·.hash)) (NestedKey.hash w .none)).filterMap (fun i => es[i]?.map (·.key))) == [Value.none]) = true <;>
      (first | rw [if_pos hone] | rw [if_neg hone]) <;> (first | refine wpAny_bind (wpAny_pure ?_) | refine wpAny_bind (nk_tells hkey hst ?_)) <;> (
        rw [if_neg (by simp)]
        refine wpAny_bind ?_
        refine wpAny_forIn_list _
          (fun rest b s' => s' = s ∧ ∃ i hit, b = (none, hit) ∧ rest = (List.range' i (es.size - i)).filter (fun i => (es[i]?.map (·.hash)) == some (NestedKey.hash w .none)) ∧ i ≤ es.size ∧
            ((hit = none ∧ ∀ j p, j < i → xs[j]? ≠ some (.none, p)) ∨ ∃ j p, hit = some j ∧ j < i ∧ xs[j]? = some (.none, p))) _ ?_ ?_ _ _
          ⟨rfl, 0, none, rfl, by rw [placesWithHash, List.range_eq_range', Nat.sub_zero], Nat.zero_le _, .inl ⟨rfl, fun _ _ h => absurd h (Nat.not_lt_zero _)⟩⟩
        · rintro x rest b s' ⟨rfl, i, hit, rfl, hr, hi, hH⟩
          obtain ⟨hix, hxn, hpx, hskip, hrest⟩ := filter_range'_cons _ _ _ _ _ hr.symm
          have hlt : x < es.size := by omega
          have hrest' : rest = (List.range' (x + 1) (es.size - (x + 1))).filter (fun i => (es[i]?.map (·.hash)) == some (NestedKey.hash w .none)) := by rw [hrest]; congr 2; omega
          obtain ⟨k', b, v', hkv, hex, hib⟩ := at_of x hlt
          have hHx : (hit = none ∧ ∀ j p, j < x → xs[j]? ≠ some (.none, p)) ∨ ∃ j p, hit = some j ∧ j < x ∧ xs[j]? = some (.none, p) := by
            rcases hH with ⟨h0, hno⟩ | ⟨j, p, h1, hji, hj⟩
            · refine .inl ⟨h0, fun j p hjx hj => ?_⟩
              rcases Nat.lt_or_ge j i with h | h
              · exact hno j p h hj
              · have := hskip j h hjx
                rw [haskey j p hj] at this
                exact absurd this (by decide)
            · exact .inr ⟨j, p, h1, by omega, hj⟩
          have hstay : ¬ k' = .none → ((hit = none ∧ ∀ j p, j < x + 1 → xs[j]? ≠ some (.none, p)) ∨ ∃ j p, hit = some j ∧ j < x + 1 ∧ xs[j]? = some (.none, p)) := by
            intro hne
            rcases hHx with ⟨h0, hno⟩ | ⟨j, p, h1, hjx, hj⟩
            · refine .inl ⟨h0, fun j p hjx hj => ?_⟩
              rcases Nat.lt_or_ge j x with h | h
              · exact hno j p h hj
              · have hjx' : j = x := by omega
                subst hjx'
                rw [hkv] at hj
                injection hj with hj
                injection hj with hj
                exact hne hj
            · exact .inr ⟨j, p, h1, by omega, hj⟩
          rw [hex]
          dsimp only
          by_cases hh : (k'.hash w == NestedKey.hash w .none) = true
          · rw [if_pos hh]
            refine wpAny_bind (wpAny_dictEpoch ho hd (wpAny_bind (nk_eq hu hib hkey (wpAny_bind (wpAny_dictEpoch ho hd ?_)))))
            show wpAny _ _ (if (ep != ep) = true then _ else _) _ E _
            rw [if_neg (by simp)]
            by_cases hkk : k' = .none
            · rw [decide_eq_true hkk]
              subst hkk
              rcases hHx with ⟨rfl, _⟩ | ⟨j, p, _, hjx, hj⟩
              · first | rw [if_pos rfl] | skip
                simp only [Option.isSome_none, Bool.false_eq_true, if_false]
                first | refine wpAny_bind (wpAny_pure ?_) | skip
                refine wpAny_bind (wpAny_rule ?_)
                split
                · exact wpAny_pure (wpAny_pure (hsome x _ hkv))
                · exact wpAny_pure ⟨rfl, x + 1, some x, rfl, hrest', hlt, .inr ⟨x, _, rfl, Nat.lt_succ_self x, hkv⟩⟩
              · exact absurd (idxN_unique hn hj hkv) (by omega)
            · rw [decide_eq_false hkk]
              simp only [Bool.false_eq_true, if_false]
              refine wpAny_bind (wpAny_rule ?_)
              first | rw [if_neg (by simp)] | skip
              first
                | exact wpAny_pure ⟨rfl, x + 1, hit, rfl, hrest', hlt, hstay hkk⟩
                | exact wpAny_bind (wpAny_pure (wpAny_pure ⟨rfl, x + 1, hit, rfl, hrest', hlt, hstay hkk⟩))
          · rw [if_neg hh]
            refine wpAny_pure ⟨rfl, x + 1, hit, rfl, hrest', hlt, hstay ?_⟩
            intro hkk
            rw [hkk] at hh; simp at hh
        · rintro b s' ⟨rfl, i, hit, rfl, hr, hi, hH⟩
          have hall : ∀ j, i ≤ j → j < es.size → ((es[j]?.map (·.hash)) == some (NestedKey.hash w .none)) = false := by
            intro j h1 h2
            have := List.filter_eq_nil_iff.mp hr.symm j (List.mem_range'_1.mpr ⟨h1, by omega⟩)
            simpa using this
          rcases hH with ⟨rfl, hno⟩ | ⟨j, p, rfl, _, hj⟩
          · refine wpAny_pure (hnone fun j p hj => ?_)
            rcases Nat.lt_or_ge j i with h | h
            · exact hno j p h hj
            · have hjl : j < es.size := by
                rw [hsz]
                rcases Nat.lt_or_ge j xs.length with h' | h'
                · exact h'
                · rw [List.getElem?_eq_none h'] at hj; exact nomatch hj
              have := hall j h hjl
              rw [haskey j p hj] at this
              exact absurd this (by decide)
          · exact wpAny_pure (hsome j p hj))
  | @bool bb n e =>
    by_cases hall : ((Value.bool bb :: (placesWithHash es.size (fun i => es[i]?.map (·.hash)) (NestedKey.hash w (.num n))).filterMap (fun i => es[i]?.map (·.key))).all carriedByValue) = true
    · rw [if_pos hall]
      exact walk
    · rw [if_neg hall]
      by_cases hone : (((placesWithHash es.size (fun i => es[i]?.map (·.hash)) (NestedKey.hash w (.num n))).filterMap (fun i => es[i]?.map (·.key))) == [Value.bool bb]) = true <;>
      (first | rw [if_pos hone] | rw [if_neg hone]) <;> (first | refine wpAny_bind (wpAny_pure ?_) | refine wpAny_bind (nk_tells hkey hst ?_)) <;> (
        rw [if_neg (by simp)]
        refine wpAny_bind ?_
        refine wpAny_forIn_list _
          (fun rest b s' => s' = s ∧ ∃ i hit, b = (none, hit) ∧ rest = (List.range' i (es.size - i)).filter (fun i => (es[i]?.map (·.hash)) == some (NestedKey.hash w (.num n))) ∧ i ≤ es.size ∧
            ((hit = none ∧ ∀ j p, j < i → xs[j]? ≠ some ((.num n), p)) ∨ ∃ j p, hit = some j ∧ j < i ∧ xs[j]? = some ((.num n), p))) _ ?_ ?_ _ _
          ⟨rfl, 0, none, rfl, by rw [placesWithHash, List.range_eq_range', Nat.sub_zero], Nat.zero_le _, .inl ⟨rfl, fun _ _ h => absurd h (Nat.not_lt_zero _)⟩⟩
        · rintro x rest b s' ⟨rfl, i, hit, rfl, hr, hi, hH⟩
          obtain ⟨hix, hxn, hpx, hskip, hrest⟩ := filter_range'_cons _ _ _ _ _ hr.symm
          have hlt : x < es.size := by omega
          have hrest' : rest = (List.range' (x + 1) (es.size - (x + 1))).filter (fun i => (es[i]?.map (·.hash)) == some (NestedKey.hash w (.num n))) := by rw [hrest]; congr 2; omega
          obtain ⟨k', b, v', hkv, hex, hib⟩ := at_of x hlt
          have hHx : (hit = none ∧ ∀ j p, j < x → xs[j]? ≠ some ((.num n), p)) ∨ ∃ j p, hit = some j ∧ j < x ∧ xs[j]? = some ((.num n), p) := by
            rcases hH with ⟨h0, hno⟩ | ⟨j, p, h1, hji, hj⟩
            · refine .inl ⟨h0, fun j p hjx hj => ?_⟩
              rcases Nat.lt_or_ge j i with h | h
              · exact hno j p h hj
              · have := hskip j h hjx
                rw [haskey j p hj] at this
                exact absurd this (by decide)
            · exact .inr ⟨j, p, h1, by omega, hj⟩
          have hstay : ¬ k' = (.num n) → ((hit = none ∧ ∀ j p, j < x + 1 → xs[j]? ≠ some ((.num n), p)) ∨ ∃ j p, hit = some j ∧ j < x + 1 ∧ xs[j]? = some ((.num n), p)) := by
            intro hne
            rcases hHx with ⟨h0, hno⟩ | ⟨j, p, h1, hjx, hj⟩
            · refine .inl ⟨h0, fun j p hjx hj => ?_⟩
              rcases Nat.lt_or_ge j x with h | h
              · exact hno j p h hj
              · have hjx' : j = x := by omega
                subst hjx'
                rw [hkv] at hj
                injection hj with hj
                injection hj with hj
                exact hne hj
            · exact .inr ⟨j, p, h1, by omega, hj⟩
          rw [hex]
          dsimp only
          by_cases hh : (k'.hash w == NestedKey.hash w (.num n)) = true
          · rw [if_pos hh]
            refine wpAny_bind (wpAny_dictEpoch ho hd (wpAny_bind (nk_eq hu hib hkey (wpAny_bind (wpAny_dictEpoch ho hd ?_)))))
            show wpAny _ _ (if (ep != ep) = true then _ else _) _ E _
            rw [if_neg (by simp)]
            by_cases hkk : k' = (.num n)
            · rw [decide_eq_true hkk]
              subst hkk
              rcases hHx with ⟨rfl, _⟩ | ⟨j, p, _, hjx, hj⟩
              · first | rw [if_pos rfl] | skip
                simp only [Option.isSome_none, Bool.false_eq_true, if_false]
                first | refine wpAny_bind (wpAny_pure ?_) | skip
                refine wpAny_bind (wpAny_rule ?_)
                split
                · exact wpAny_pure (wpAny_pure (hsome x _ hkv))
                · exact wpAny_pure ⟨rfl, x + 1, some x, rfl, hrest', hlt, .inr ⟨x, _, rfl, Nat.lt_succ_self x, hkv⟩⟩
              · exact absurd (idxN_unique hn hj hkv) (by omega)
            · rw [decide_eq_false hkk]
              simp only [Bool.false_eq_true, if_false]
              refine wpAny_bind (wpAny_rule ?_)
              first | rw [if_neg (by simp)] | skip
              first
                | exact wpAny_pure ⟨rfl, x + 1, hit, rfl, hrest', hlt, hstay hkk⟩
                | exact wpAny_bind (wpAny_pure (wpAny_pure ⟨rfl, x + 1, hit, rfl, hrest', hlt, hstay hkk⟩))
          · rw [if_neg hh]
            refine wpAny_pure ⟨rfl, x + 1, hit, rfl, hrest', hlt, hstay ?_⟩
            intro hkk
            rw [hkk] at hh; simp at hh
        · rintro b s' ⟨rfl, i, hit, rfl, hr, hi, hH⟩
          have hall : ∀ j, i ≤ j → j < es.size → ((es[j]?.map (·.hash)) == some (NestedKey.hash w (.num n))) = false := by
            intro j h1 h2
            have := List.filter_eq_nil_iff.mp hr.symm j (List.mem_range'_1.mpr ⟨h1, by omega⟩)
            simpa using this
          rcases hH with ⟨rfl, hno⟩ | ⟨j, p, rfl, _, hj⟩
          · refine wpAny_pure (hnone fun j p hj => ?_)
            rcases Nat.lt_or_ge j i with h | h
            · exact hno j p h hj
            · have hjl : j < es.size := by
                rw [hsz]
                rcases Nat.lt_or_ge j xs.length with h' | h'
                · exact h'
                · rw [List.getElem?_eq_none h'] at hj; exact nomatch hj
              have := hall j h hjl
              rw [haskey j p hj] at this
              exact absurd this (by decide)
          · exact wpAny_pure (hsome j p hj))
  | int n t =>
    by_cases hall : ((Value.int n t :: (placesWithHash es.size (fun i => es[i]?.map (·.hash)) (NestedKey.hash w (.num n))).filterMap (fun i => es[i]?.map (·.key))).all carriedByValue) = true
    · rw [if_pos hall]
      exact walk
    · rw [if_neg hall]
      by_cases hone : (((placesWithHash es.size (fun i => es[i]?.map (·.hash)) (NestedKey.hash w (.num n))).filterMap (fun i => es[i]?.map (·.key))) == [Value.int n t]) = true <;>
      (first | rw [if_pos hone] | rw [if_neg hone]) <;> (first | refine wpAny_bind (wpAny_pure ?_) | refine wpAny_bind (nk_tells hkey hst ?_)) <;> (
        rw [if_neg (by simp)]
        refine wpAny_bind ?_
        refine wpAny_forIn_list _
          (fun rest b s' => s' = s ∧ ∃ i hit, b = (none, hit) ∧ rest = (List.range' i (es.size - i)).filter (fun i => (es[i]?.map (·.hash)) == some (NestedKey.hash w (.num n))) ∧ i ≤ es.size ∧
            ((hit = none ∧ ∀ j p, j < i → xs[j]? ≠ some ((.num n), p)) ∨ ∃ j p, hit = some j ∧ j < i ∧ xs[j]? = some ((.num n), p))) _ ?_ ?_ _ _
          ⟨rfl, 0, none, rfl, by rw [placesWithHash, List.range_eq_range', Nat.sub_zero], Nat.zero_le _, .inl ⟨rfl, fun _ _ h => absurd h (Nat.not_lt_zero _)⟩⟩
        · rintro x rest b s' ⟨rfl, i, hit, rfl, hr, hi, hH⟩
          obtain ⟨hix, hxn, hpx, hskip, hrest⟩ := filter_range'_cons _ _ _ _ _ hr.symm
          have hlt : x < es.size := by omega
          have hrest' : rest = (List.range' (x + 1) (es.size - (x + 1))).filter (fun i => (es[i]?.map (·.hash)) == some (NestedKey.hash w (.num n))) := by rw [hrest]; congr 2; omega
          obtain ⟨k', b, v', hkv, hex, hib⟩ := at_of x hlt
          have hHx : (hit = none ∧ ∀ j p, j < x → xs[j]? ≠ some ((.num n), p)) ∨ ∃ j p, hit = some j ∧ j < x ∧ xs[j]? = some ((.num n), p) := by
            rcases hH with ⟨h0, hno⟩ | ⟨j, p, h1, hji, hj⟩
            · refine .inl ⟨h0, fun j p hjx hj => ?_⟩
              rcases Nat.lt_or_ge j i with h | h
              · exact hno j p h hj
              · have := hskip j h hjx
                rw [haskey j p hj] at this
                exact absurd this (by decide)
            · exact .inr ⟨j, p, h1, by omega, hj⟩
          have hstay : ¬ k' = (.num n) → ((hit = none ∧ ∀ j p, j < x + 1 → xs[j]? ≠ some ((.num n), p)) ∨ ∃ j p, hit = some j ∧ j < x + 1 ∧ xs[j]? = some ((.num n), p)) := by
            intro hne
            rcases hHx with ⟨h0, hno⟩ | ⟨j, p, h1, hjx, hj⟩
            · refine .inl ⟨h0, fun j p hjx hj => ?_⟩
              rcases Nat.lt_or_ge j x with h | h
              · exact hno j p h hj
              · have hjx' : j = x := by omega
                subst hjx'
                rw [hkv] at hj
                injection hj with hj
                injection hj with hj
                exact hne hj
            · exact .inr ⟨j, p, h1, by omega, hj⟩
          rw [hex]
          dsimp only
          by_cases hh : (k'.hash w == NestedKey.hash w (.num n)) = true
          · rw [if_pos hh]
            refine wpAny_bind (wpAny_dictEpoch ho hd (wpAny_bind (nk_eq hu hib hkey (wpAny_bind (wpAny_dictEpoch ho hd ?_)))))
            show wpAny _ _ (if (ep != ep) = true then _ else _) _ E _
            rw [if_neg (by simp)]
            by_cases hkk : k' = (.num n)
            · rw [decide_eq_true hkk]
              subst hkk
              rcases hHx with ⟨rfl, _⟩ | ⟨j, p, _, hjx, hj⟩
              · first | rw [if_pos rfl] | skip
                simp only [Option.isSome_none, Bool.false_eq_true, if_false]
                first | refine wpAny_bind (wpAny_pure ?_) | skip
                refine wpAny_bind (wpAny_rule ?_)
                split
                · exact wpAny_pure (wpAny_pure (hsome x _ hkv))
                · exact wpAny_pure ⟨rfl, x + 1, some x, rfl, hrest', hlt, .inr ⟨x, _, rfl, Nat.lt_succ_self x, hkv⟩⟩
              · exact absurd (idxN_unique hn hj hkv) (by omega)
            · rw [decide_eq_false hkk]
              simp only [Bool.false_eq_true, if_false]
              refine wpAny_bind (wpAny_rule ?_)
              first | rw [if_neg (by simp)] | skip
              first
                | exact wpAny_pure ⟨rfl, x + 1, hit, rfl, hrest', hlt, hstay hkk⟩
                | exact wpAny_bind (wpAny_pure (wpAny_pure ⟨rfl, x + 1, hit, rfl, hrest', hlt, hstay hkk⟩))
          · rw [if_neg hh]
            refine wpAny_pure ⟨rfl, x + 1, hit, rfl, hrest', hlt, hstay ?_⟩
            intro hkk
            rw [hkk] at hh; simp at hh
        · rintro b s' ⟨rfl, i, hit, rfl, hr, hi, hH⟩
          have hall : ∀ j, i ≤ j → j < es.size → ((es[j]?.map (·.hash)) == some (NestedKey.hash w (.num n))) = false := by
            intro j h1 h2
            have := List.filter_eq_nil_iff.mp hr.symm j (List.mem_range'_1.mpr ⟨h1, by omega⟩)
            simpa using this
          rcases hH with ⟨rfl, hno⟩ | ⟨j, p, rfl, _, hj⟩
          · refine wpAny_pure (hnone fun j p hj => ?_)
            rcases Nat.lt_or_ge j i with h | h
            · exact hno j p h hj
            · have hjl : j < es.size := by
                rw [hsz]
                rcases Nat.lt_or_ge j xs.length with h' | h'
                · exact h'
                · rw [List.getElem?_eq_none h'] at hj; exact nomatch hj
              have := hall j h hjl
              rw [haskey j p hj] at this
              exact absurd this (by decide)
          · exact wpAny_pure (hsome j p hj))
  | @tup a o2 vs n ks h1 h2 h3 h4 =>
    rw [if_neg (show ¬ ((Value.ref a :: (placesWithHash es.size (fun i => es[i]?.map (·.hash)) (NestedKey.hash w (.tup ks))).filterMap (fun i => es[i]?.map (·.key))).all carriedByValue) = true by simp [carriedByValue])]
    rw [if_neg hany]
    by_cases hone : (((placesWithHash es.size (fun i => es[i]?.map (·.hash)) (NestedKey.hash w (.tup ks))).filterMap (fun i => es[i]?.map (·.key))) == [Value.ref a]) = true <;>
    (first | rw [if_pos hone] | rw [if_neg hone]) <;> (first | refine wpAny_bind (wpAny_pure ?_) | refine wpAny_bind (nk_tells hkey hst ?_)) <;> (
      rw [if_neg (by simp)]
      refine wpAny_bind ?_
      refine wpAny_forIn_list _
        (fun rest b s' => s' = s ∧ ∃ i hit, b = (none, hit) ∧ rest = (List.range' i (es.size - i)).filter (fun i => (es[i]?.map (·.hash)) == some (NestedKey.hash w (.tup ks))) ∧ i ≤ es.size ∧
          ((hit = none ∧ ∀ j p, j < i → xs[j]? ≠ some ((.tup ks), p)) ∨ ∃ j p, hit = some j ∧ j < i ∧ xs[j]? = some ((.tup ks), p))) _ ?_ ?_ _ _
        ⟨rfl, 0, none, rfl, by rw [placesWithHash, List.range_eq_range', Nat.sub_zero], Nat.zero_le _, .inl ⟨rfl, fun _ _ h => absurd h (Nat.not_lt_zero _)⟩⟩
      · rintro x rest b s' ⟨rfl, i, hit, rfl, hr, hi, hH⟩
        obtain ⟨hix, hxn, hpx, hskip, hrest⟩ := filter_range'_cons _ _ _ _ _ hr.symm
        have hlt : x < es.size := by omega
        have hrest' : rest = (List.range' (x + 1) (es.size - (x + 1))).filter (fun i => (es[i]?.map (·.hash)) == some (NestedKey.hash w (.tup ks))) := by rw [hrest]; congr 2; omega
        obtain ⟨k', b, v', hkv, hex, hib⟩ := at_of x hlt
        have hHx : (hit = none ∧ ∀ j p, j < x → xs[j]? ≠ some ((.tup ks), p)) ∨ ∃ j p, hit = some j ∧ j < x ∧ xs[j]? = some ((.tup ks), p) := by
          rcases hH with ⟨h0, hno⟩ | ⟨j, p, h1, hji, hj⟩
          · refine .inl ⟨h0, fun j p hjx hj => ?_⟩
            rcases Nat.lt_or_ge j i with h | h
            · exact hno j p h hj
            · have := hskip j h hjx
              rw [haskey j p hj] at this
              exact absurd this (by decide)
          · exact .inr ⟨j, p, h1, by omega, hj⟩
        have hstay : ¬ k' = (.tup ks) → ((hit = none ∧ ∀ j p, j < x + 1 → xs[j]? ≠ some ((.tup ks), p)) ∨ ∃ j p, hit = some j ∧ j < x + 1 ∧ xs[j]? = some ((.tup ks), p)) := by
          intro hne
          rcases hHx with ⟨h0, hno⟩ | ⟨j, p, h1, hjx, hj⟩
          · refine .inl ⟨h0, fun j p hjx hj => ?_⟩
            rcases Nat.lt_or_ge j x with h | h
            · exact hno j p h hj
            · have hjx' : j = x := by omega
              subst hjx'
              rw [hkv] at hj
              injection hj with hj
              injection hj with hj
              exact hne hj
          · exact .inr ⟨j, p, h1, by omega, hj⟩
        rw [hex]
        dsimp only
        by_cases hh : (k'.hash w == NestedKey.hash w (.tup ks)) = true
        · rw [if_pos hh]
          refine wpAny_bind (wpAny_dictEpoch ho hd (wpAny_bind (nk_eq hu hib hkey (wpAny_bind (wpAny_dictEpoch ho hd ?_)))))
          show wpAny _ _ (if (ep != ep) = true then _ else _) _ E _
          rw [if_neg (by simp)]
          by_cases hkk : k' = (.tup ks)
          · rw [decide_eq_true hkk]
            subst hkk
            rcases hHx with ⟨rfl, _⟩ | ⟨j, p, _, hjx, hj⟩
            · first | rw [if_pos rfl] | skip
              simp only [Option.isSome_none, Bool.false_eq_true, if_false]
              first | refine wpAny_bind (wpAny_pure ?_) | skip
              refine wpAny_bind (wpAny_rule ?_)
              split
              · exact wpAny_pure (wpAny_pure (hsome x _ hkv))
              · exact wpAny_pure ⟨rfl, x + 1, some x, rfl, hrest', hlt, .inr ⟨x, _, rfl, Nat.lt_succ_self x, hkv⟩⟩
            · exact absurd (idxN_unique hn hj hkv) (by omega)
          · rw [decide_eq_false hkk]
            simp only [Bool.false_eq_true, if_false]
            refine wpAny_bind (wpAny_rule ?_)
            first | rw [if_neg (by simp)] | skip
            first
              | exact wpAny_pure ⟨rfl, x + 1, hit, rfl, hrest', hlt, hstay hkk⟩
              | exact wpAny_bind (wpAny_pure (wpAny_pure ⟨rfl, x + 1, hit, rfl, hrest', hlt, hstay hkk⟩))
        · rw [if_neg hh]
          refine wpAny_pure ⟨rfl, x + 1, hit, rfl, hrest', hlt, hstay ?_⟩
          intro hkk
          rw [hkk] at hh; simp at hh
      · rintro b s' ⟨rfl, i, hit, rfl, hr, hi, hH⟩
        have hall : ∀ j, i ≤ j → j < es.size → ((es[j]?.map (·.hash)) == some (NestedKey.hash w (.tup ks))) = false := by
          intro j h1 h2
          have := List.filter_eq_nil_iff.mp hr.symm j (List.mem_range'_1.mpr ⟨h1, by omega⟩)
          simpa using this
        rcases hH with ⟨rfl, hno⟩ | ⟨j, p, rfl, _, hj⟩
        · refine wpAny_pure (hnone fun j p hj => ?_)
          rcases Nat.lt_or_ge j i with h | h
          · exact hno j p h hj
          · have hjl : j < es.size := by
              rw [hsz]
              rcases Nat.lt_or_ge j xs.length with h' | h'
              · exact h'
              · rw [List.getElem?_eq_none h'] at hj; exact nomatch hj
            have := hall j h hjl
            rw [haskey j p hj] at this
            exact absurd this (by decide)
        · exact wpAny_pure (hsome j p hj))
end
end TH
end
section
set_option Elab.async false
set_option linter.all false
set_option maxRecDepth 100000
namespace TH
open PySem PySem.Spec PyProof.Rows

def storedAllN (xs ps : List Ent) : List Ent := ps.foldl (fun acc p => storedN acc p.1 p.2.1 p.2.2) xs
theorem storedN_length (xs : List Ent) (k : Nk) (a v : Value) : (storedN xs k a v).length ≤ xs.length + 1 := by
  unfold storedN
  split <;> simp
theorem storedN_new {xs : List Ent} {k : Nk} (h : atN xs k = none) (a v : Value) : storedN xs k a v = xs ++ [(k, a, v)] := by simp [storedN, h]
theorem storedN_old {xs : List Ent} {k : Nk} {p : Value × Value} (h : atN xs k = some p) (a v : Value) : storedN xs k a v = xs.map (putN k v) := by simp [storedN, h]
theorem mem_storedN {xs : List Ent} {k : Nk} {a v : Value} {x : Ent} (h : x ∈ storedN xs k a v) : (∃ y ∈ xs, x.1 = y.1 ∧ x.2.1 = y.2.1) ∨ (x.1 = k ∧ x.2.1 = a) := by
  unfold storedN at h
  split at h
  · obtain ⟨y, hy, rfl⟩ := List.mem_map.mp h
    refine .inl ⟨y, hy, ?_⟩
    unfold putN
    split <;> exact ⟨rfl, rfl⟩
  · rcases List.mem_append.mp h with h | h
    · exact .inl ⟨x, h, rfl, rfl⟩
    · simp only [List.mem_singleton] at h
      subst h
      exact .inr ⟨rfl, rfl⟩
theorem storedAllN_length (ps : List Ent) : ∀ xs : List Ent, (storedAllN xs ps).length ≤ xs.length + ps.length := by
  induction ps with
  | nil => exact fun xs => Nat.le_refl _
  | cons p ps ih =>
    intro xs
    have h1 := ih (storedN xs p.1 p.2.1 p.2.2)
    have h2 := storedN_length xs p.1 p.2.1 p.2.2
    simp only [List.length_cons]
    show (storedAllN (storedN xs p.1 p.2.1 p.2.2) ps).length ≤ _
    omega
theorem storedAllN_take (xs ps : List Ent) (i : Nat) (p : Ent) (h : ps[i]? = some p) : storedAllN xs (ps.take (i + 1)) = storedN (storedAllN xs (ps.take i)) p.1 p.2.1 p.2.2 := by
  unfold storedAllN
  rw [List.take_add_one, h, List.foldl_append]
  rfl
theorem storedAllN_keys {P : Nk → Value → Prop} : ∀ {ps xs : List Ent}, (∀ x ∈ xs, P x.1 x.2.1) → (∀ x ∈ ps, P x.1 x.2.1) → ∀ x ∈ storedAllN xs ps, P x.1 x.2.1
  | [], xs, h, _ => h
  | p :: ps, xs, h, hp => by
    show ∀ x ∈ storedAllN (storedN xs p.1 p.2.1 p.2.2) ps, P x.1 x.2.1
    refine storedAllN_keys (fun x hx => ?_) fun x hx => hp x (List.mem_cons_of_mem _ hx)
    rcases mem_storedN hx with ⟨y, hy, e1, e2⟩ | ⟨e1, e2⟩
    · rw [e1, e2]; exact h y hy
    · rw [e1, e2]; exact hp p (by simp)
theorem DictN.new (w : World) (h : Heap) : DictN w (h.push { cls := .type "dict", data := .dict #[] }) h.objs.size [] :=
  ⟨_, #[], 0, Heap.get?_push_size _ rfl, ⟨rfl, rfl, rfl⟩, rfl, rfl, fun _ hx => by simp at hx, List.nodup_nil⟩
theorem DictN.lt {w : World} {h : Heap} {d : Addr} {xs : List Ent} (x : DictN w h d xs) : d < h.objs.size := let ⟨_, _, _, ho, _⟩ := x; Heap.lt_size ho
theorem DictN.at' {w : World} {h h' : Heap} {d : Addr} {xs : List Ent} (x : DictN w h d xs) (e : ∀ o, h.get? d = some o → h'.get? d = some o) (his : NkAll h' xs) : DictN w h' d xs :=
  let ⟨o, es, ep, ho, hc, hd, he, _, hn⟩ := x; ⟨o, es, ep, e o ho, hc, hd, he, his, hn⟩

section
variable {prog : Program} {w : World} {A : Around} {E : Value → Shared → Prop} {s : Shared} {d : Addr} {k : Nk} {key : Value} {xs : List Ent}
theorem dictGet_nk {Q : Option Value → Shared → Prop} (hu : A.units + 9 < cLine) (hkey : NkIs s.heap k key) (hm : DictN w s.heap d xs) (h : ∀ tk, Q ((atN xs k).map (·.2)) { s with toks := tk }) :
    wpAny (model prog w) A (dictGet d key) Q E s := by
  obtain ⟨o, es, ep, ho, _, hd, he, his, hn⟩ := hm
  unfold dictGet
  try with_reducible refine wpAny_holding ?_
  refine wpAny_bind (nk_hash hu hkey fun tk => wpAny_bind (dictFind_nk (s := { s with toks := tk }) hu hkey ho hd he his hn ?_ ?_))
  · intro hno
    rw [atN_none_of_get hno] at h
    exact wpAny_pure (h tk)
  · intro j p hj
    rw [atN_of_get hn hj] at h
    refine wpAny_bind (wpAny_dictEntries (s := { s with toks := tk }) ho hd ?_)
    rw [entN_at he j, hj]
    exact wpAny_pure (h tk)
theorem dictSet_nk {v : Value} {Q : Unit → Shared → Prop} (hu : A.units + 9 < cLine) (hkey : NkIs s.heap k key) (hm : DictN w s.heap d xs) (hsz : xs.length ≤ sizeLine)
    (hQ : ∀ h' tk, DictN w h' d (storedN xs k key v) → Heap.SameBut d s.heap h' → Q () { s with heap := h', toks := tk }) : wpAny (model prog w) A (dictSet d key v) Q E s := by
  obtain ⟨o, es, ep, ho, hc, hd, he, his, hn⟩ := hm
  unfold dictSet
  try with_reducible refine wpAny_holding ?_
  refine wpAny_bind (nk_hash hu hkey fun tk => ?_)
  unfold dictSetHashed
  try with_reducible refine wpAny_holding ?_
  refine wpAny_bind (dictFind_nk (s := { s with toks := tk }) hu hkey ho hd he his hn ?_ ?_)
  · intro hno
    have hnot : k ∉ xs.map (·.1) := not_memN hno
    refine wpAny_bind (wpAny_rule (wpAny_updateDictKeys (hz := by have e := sizeN he; omega) (s := { s with toks := tk }) ho hd (hQ _ tk ⟨_, _, ep + 1, Heap.get?_update_self _ ho (Obj.isFreed_of_dict (Obj.data_mapDictKeys hd _)),
      hc.mapDictKeys _, Obj.data_mapDictKeys hd _, ?_, ?_, ?_⟩ (Heap.SameBut.update ..))))
    · rw [storedN_new (atN_none_of_get hno)]
      simp [he, entN]
    · rw [storedN_new (atN_none_of_get hno)]
      intro x hx
      rcases List.mem_append.mp hx with hx | hx
      · exact (his x hx).keeps ho hd (Heap.SameBut.update ..)
      · simp only [List.mem_singleton] at hx
        subst hx
        exact hkey.keeps ho hd (Heap.SameBut.update ..)
    · rw [storedN_new (atN_none_of_get hno), List.map_append, List.nodup_append]
      refine ⟨hn, by simp, ?_⟩
      intro x hx y hy
      simp only [List.map_cons, List.map_nil, List.mem_singleton] at hy
      subst hy
      exact fun e => hnot (e ▸ hx)
  · intro j p hj
    refine wpAny_bind (wpAny_rule (wpAny_bind (wpAny_updateDict (s := { s with toks := tk }) ho hd (wpAny_point (hQ _ tk ⟨_, _, ep, Heap.get?_update_self _ ho (Obj.isFreed_of_dict (Obj.data_mapDict hd _)),
      hc.mapDict _, Obj.data_mapDict hd _, ?_, ?_, ?_⟩ (Heap.SameBut.update ..))))))
    · rw [storedN_old (atN_of_get hn hj)]
      have := modify_putN (entN w) (fun e : DictEntry => { e with val := v }) k v (fun _ _ => rfl) hn hj
      rw [← he] at this
      obtain ⟨l⟩ := es
      simpa using this
    · rw [storedN_old (atN_of_get hn hj)]
      intro x hx
      obtain ⟨y, hy, rfl⟩ := List.mem_map.mp hx
      unfold putN
      split <;> exact (his y hy).keeps ho hd (Heap.SameBut.update ..)
    · rw [storedN_old (atN_of_get hn hj), keys_putN]; exact hn
theorem contains_nk {Q : Bool → Shared → Prop} (hu : A.units + 10 < cLine) (hkey : NkIs s.heap k key) (hd : (d == sysModules) = false) (hm : DictN w s.heap d xs)
    (h : ∀ tk, Q (atN xs k).isSome { s with toks := tk }) : wpAny (model prog w) A (contains (.ref d) key) Q E s := by
  refine wpAny_contains_slot hm.typeIs F.slot_dict_contains ?_
  refine call_meetsIn F.slot_dict_contains hm.typeIs F.entry_dict_contains (F.args_dict_contains_2 _ _) (S := fun A' R s' => A' = A ∧ s' = s ∧ ∀ tk, R (.ok (.ret (.bool (atN xs k).isSome))) { s with toks := tk }) (fun A' R s' hS => ?_) ⟨rfl, rfl, fun tk => wpAny_truthy_bool (h tk)⟩
  obtain ⟨rfl, rfl, hq⟩ := hS
  show wpAny _ _ (dictGet d key >>= _) _ _ _
  refine wpAny_bind (dictGet_nk (by show A'.units + 1 + 9 < cLine; omega) hkey hm fun tk => ?_)
  cases hf : atN xs k with
  | some p =>
    rw [hf] at hq
    show wpAny _ _ (ret (.bool true)) _ _ _
    exact wpAny_pure (hq tk)
  | none =>
    rw [hf] at hq
    show wpAny _ _ (Builtin.Dict.pendingKey? d key >>= _) _ _ _
    exact wpAny_bind (wpAny_pendingKey_other hd (wpAny_pure (hq tk)))
theorem in_nk {Q : Value → Shared → Prop} (hu : A.units + 10 < cLine) (hkey : NkIs s.heap k key) (hd : (d == sysModules) = false) (hm : DictN w s.heap d xs)
    (h : ∀ tk, Q (.bool (atN xs k).isSome) { s with toks := tk }) : wpAny (model prog w) A (compareOp .In key (.ref d)) Q E s := by
  show wpAny _ _ (do return .bool (← contains (.ref d) key)) Q E s
  exact wpAny_bind (contains_nk hu hkey hd hm fun tk => wpAny_pure (h tk))
theorem notIn_nk {Q : Value → Shared → Prop} (hu : A.units + 10 < cLine) (hkey : NkIs s.heap k key) (hd : (d == sysModules) = false) (hm : DictN w s.heap d xs)
    (h : ∀ tk, Q (.bool (!(atN xs k).isSome)) { s with toks := tk }) : wpAny (model prog w) A (compareOp .NotIn key (.ref d)) Q E s := by
  show wpAny _ _ (do return .bool (!(← contains (.ref d) key))) Q E s
  exact wpAny_bind (contains_nk hu hkey hd hm fun tk => wpAny_pure (h tk))
theorem getItem_nk {p : Value × Value} {Q : Value → Shared → Prop} (hu : A.units + 10 < cLine) (hkey : NkIs s.heap k key) (hm : DictN w s.heap d xs) (hp : atN xs k = some p)
    (h : ∀ tk, Q p.2 { s with toks := tk }) : wpAny (model prog w) A (getItem (.ref d) key) Q E s := by
  unfold getItem
  try with_reducible refine wpAny_holding ?_
  refine wpAny_bind (wpAny_sequenceKey hm.typeIs (by decide) ?_)
  refine wpAny_bind (wpAny_callSpecial?_slot (name := Str.ofString "__getitem__") hm.typeIs slot_dict_getitem
    (wpAny_call_entry slot_dict_getitem hm.typeIs entry_dict_getitem ?_ (args_dict_getitem _ _)))
  show wpAny _ _ (dictGet d key >>= _) _ _ s
  refine wpAny_bind (dictGet_nk (by show A.units + 1 + 9 < cLine; omega) hkey hm fun tk => ?_)
  rw [hp]
  exact wpAny_pure ⟨p.2, rfl, wpAny_pure (h tk)⟩
theorem setItem_nk {v : Value} {Q : Unit → Shared → Prop} (hu : A.units + 10 < cLine) (hkey : NkIs s.heap k key) (hm : DictN w s.heap d xs) (hsz : xs.length ≤ sizeLine)
    (hQ : ∀ h' tk, DictN w h' d (storedN xs k key v) → Heap.SameBut d s.heap h' → Q () { s with heap := h', toks := tk }) :
    wpAny (model prog w) A (setItem (.ref d) key v) Q E s := by
  unfold setItem
  try with_reducible refine wpAny_holding ?_
  refine wpAny_bind (wpAny_sequenceKey hm.typeIs (by decide) ?_)
  refine wpAny_bind (wpAny_callSpecial?_slot (name := Str.ofString "__setitem__") hm.typeIs slot_dict_setitem
    (wpAny_call_entry slot_dict_setitem hm.typeIs entry_dict_setitem ?_ (args_dict_setitem _ _ _)))
  show wpAny _ _ (Builtin.Dict.notOrdered "__setitem__" ⟨[.ref d, key, v], []⟩ >>= _) _ _ s
  refine wpAny_bind (wpAny_notOrdered_dict hm.typeIs ?_)
  show wpAny _ _ (dictSet d key v >>= _) _ _ s
  exact wpAny_bind (dictSet_nk (by show A.units + 1 + 9 < cLine; omega) hkey hm hsz fun h' tk hm' hs' => wpAny_pure ⟨.none, rfl, wpAny_pure (hQ h' tk hm' hs')⟩)
/-! dict(pairs) -/
def PairsN (n : Nat) (Rel : Nat → Value → Value → Prop) (ps : List Ent) : Prop := ps.length = n ∧ ∀ i key v, Rel i key v → ∃ k, ps[i]? = some (k, key, v)
def StayN (h : Heap) (d : Addr) (wr : List Addr) (xs : List Ent) : Prop := ∀ h', (∀ b o, b ≠ d → b ∉ wr → h.get? b = some o → h'.get? b = some o) → NkAll h' xs
variable {T : String} {a : Addr} {fp wr : List Addr} {n : Nat} {Rel : Nat → Value → Value → Prop} {OK : Heap → Prop}
theorem updateFrom_nk {R : Result → Shared → Prop} {nm : String} {acc ps : List Ent} (P : PairArg prog w T a fp wr n Rel OK) (res : Value) (hh : A.handled = none) (hu : A.units + 10 < cLine) (ok : OK s.heap) (hdf : d ∉ fp) (hc : PairsN n Rel ps)
    (hst : StayN s.heap d wr (acc ++ ps)) (hm : DictN w s.heap d acc)
    (hsz : acc.length + n ≤ sizeLine) (hR : ∀ h' tk, DictN w h' d (storedAllN acc ps) → (∀ b o, b ≠ d → b ∉ wr → s.heap.get? b = some o → h'.get? b = some o) → R (.ok (.ret res)) { s with heap := h', toks := tk }) :
    wpAny (model prog w) A.in1 (Builtin.Dict.updateFrom nm d (.ref a) [] res)
      (fun fin s' => match fin with | .done f => R (.ok f) s' | .again c' => c'.quiet = true ∧ codeAny (model prog w) A c' R s') (fun e s' => R (.error e) s') s := by
  have his : ∀ i h, (∀ b o, b ≠ d → b ∉ wr → s.heap.get? b = some o → h.get? b = some o) → NkAll h (storedAllN acc (ps.take i)) := fun i h hk =>
    storedAllN_keys (P := fun k b => NkIs h k b) (fun x hx => hst h hk x (List.mem_append_left _ hx)) fun x hx => hst h hk x (List.mem_append_right _ (List.mem_of_mem_take hx))
  refine updateFrom_arg (Tab := fun i h => DictN w h d (storedAllN acc (ps.take i)) ∧ ∀ b o, b ≠ d → b ∉ wr → s.heap.get? b = some o → h.get? b = some o) P res hh ok hdf ⟨hm, fun _ _ _ _ e => e⟩ (fun _ _ tb => tb.1.lt) ?_ ?_ ?_
  · intro i h h' wr' hd hw tb hk
    have hk' : ∀ b o, b ≠ d → b ∉ wr → s.heap.get? b = some o → h'.get? b = some o := fun b o h1 h2 e => hk b o (fun hm' => by
      rcases hw b hm' with q | q
      · exact h2 q
      · rw [q] at e; cases e) (tb.2 b o h1 h2 e)
    exact ⟨tb.1.at' (fun o e => hk d o hd e) (his i h' hk'), hk'⟩
  · intro i key v s' Q E' hi hrel tb _ hQ
    obtain ⟨k, hk⟩ := hc.2 i key v hrel
    refine dictSet_nk (by show A.units + 1 + 9 < cLine; omega) (hst _ tb.2 _ (List.mem_append_right _ (List.mem_of_getElem? hk))) tb.1 (by have := storedAllN_length (ps.take i) acc; rw [List.length_take] at this; omega) fun h' tk hm' hs => ?_
    exact hQ h' tk ⟨by rw [storedAllN_take acc ps i _ hk]; exact hm', fun c o h1 h2 e => hs.extBut c o h1 (tb.2 c o h1 h2 e)⟩ hs
  · intro h' tk tb hk
    have e : ps.take n = ps := List.take_of_length_le (Nat.le_of_eq hc.1)
    rw [e] at tb
    exact hR h' tk tb.1 hk
theorem call_dict_nk {ps : List Ent} {Q : Value → Shared → Prop} (P : PairArg prog w T a fp wr n Rel OK) (hh : A.handled = none) (hu : A.units + 12 < cLine) (ok : OK s.heap) (hc : PairsN n Rel ps) (hst : StayN s.heap s.heap.objs.size wr ps) (hsz : n ≤ sizeLine)
    (h : ∀ h' tk, DictN w h' s.heap.objs.size (storedAllN [] ps) → (∀ b o, b ∉ wr → s.heap.get? b = some o → h'.get? b = some o) → Q (.ref s.heap.objs.size) { s with heap := h', toks := tk }) :
    wpAny (model prog w) A (call (.type "dict") [.ref a]) Q E s := by
  refine call_dict_arg P ok fun s₁ hs₁ hdf ok₁ => ?_
  subst hs₁
  refine updateFrom_nk (A := A.in1) (acc := []) P .none hh (by show A.units + 1 + 10 < cLine; omega) ok₁ hdf hc (fun h' hk x hx => hst h' (fun b o h1 h2 e => hk b o h1 h2 (Heap.get?_push_of_some _ e)) x (by simpa using hx)) (DictN.new w s.heap) (by simpa using hsz) fun h' tk hd' hk => ?_
  exact ⟨rfl, h h' tk hd' fun b o hw e => hk b o (Nat.ne_of_lt (Heap.lt_size e)) hw (Heap.get?_push_of_some _ e)⟩
/-! a display -/
def CarriesN (h : Heap) : List (Value × Value) → List Ent → Prop
  | [], [] => True
  | (key, v) :: vs, (k, a, v') :: ps => key = a ∧ v = v' ∧ NkIs h k a ∧ CarriesN h vs ps
  | _, _ => False
theorem CarriesN.length {h : Heap} : ∀ {vs : List (Value × Value)} {ps : List Ent}, CarriesN h vs ps → ps.length = vs.length
  | [], [], _ => rfl
  | (_, _) :: _, (_, _, _) :: _, c => by rw [List.length_cons, List.length_cons, CarriesN.length c.2.2.2]
  | [], _ :: _, c => c.elim
  | _ :: _, [], c => c.elim
theorem CarriesN.keeps {h h' : Heap} {d : Addr} {xs : List Ent} (hd : DictN w h d xs) (hs : Heap.SameBut d h h') : ∀ {vs : List (Value × Value)} {ps : List Ent}, CarriesN h vs ps → CarriesN h' vs ps
  | [], [], _ => trivial
  | (_, _) :: _, (_, _, _) :: _, c => by
    obtain ⟨o, es, ep, ho, _, hdat, _⟩ := id hd
    exact ⟨c.1, c.2.1, c.2.2.1.keeps ho hdat hs, CarriesN.keeps hd hs c.2.2.2⟩
  | [], _ :: _, c => c.elim
  | _ :: _, [], c => c.elim
theorem storeAllN {d : Addr} (hu : A.units + 9 < cLine) : ∀ (vs : List (Value × Value)) (ps acc : List Ent) (s : Shared) (Q : PUnit → Shared → Prop), CarriesN s.heap vs ps → DictN w s.heap d acc → acc.length + ps.length ≤ sizeLine →
    (∀ h' tk, DictN w h' d (storedAllN acc ps) → Heap.SameBut d s.heap h' → Q PUnit.unit { s with heap := h', toks := tk }) →
    wpAny (model prog w) A (forIn vs PUnit.unit fun (x : Value × Value) (_ : PUnit) => (do dictSet d x.1 x.2; pure (ForInStep.yield PUnit.unit) : Sem (ForInStep PUnit))) Q E s
  | [], [], acc, s, Q, _, hm, _, hQ => by
    rw [List.forIn_nil]
    exact wpAny_pure (hQ s.heap s.toks hm (Heap.SameBut.refl _ _))
  | (key, v) :: vs, (k, a, v') :: ps, acc, s, Q, hc, hm, hsz, hQ => by
    obtain ⟨rfl, rfl, hkey, hc'⟩ := hc
    rw [List.length_cons] at hsz
    rw [List.forIn_cons]
    refine wpAny_bind (wpAny_bind (dictSet_nk hu hkey hm (by omega) fun h₁ tk₁ hm₁ hs₁ => wpAny_pure ?_))
    exact storeAllN hu vs ps (storedN acc k key v) _ Q (hc'.keeps hm hs₁) hm₁ (by have e := storedN_length acc k key v; omega) fun h' tk hm' hs' => hQ h' tk hm' (hs₁.trans hs')
  | [], _ :: _, _, _, _, hc, _, _, _ => hc.elim
  | _ :: _, [], _, _, _, hc, _, _, _ => hc.elim
theorem subDictN {pairs : List (Sem Value × Sem Value)} {Q : Addr → Shared → Prop} (hu : A.units + 9 < cLine) (hlen : pairs.length ≤ 15)
    (h : wpAny (model prog w) A (evalPairs pairs) (fun vs s₁ => ∃ ps, CarriesN s₁.heap vs ps ∧ DictN w s₁.heap s.heap.objs.size [] ∧
      ∀ h' tk, DictN w h' s.heap.objs.size (storedAllN [] ps) → Heap.SameBut s.heap.objs.size s₁.heap h' → Q s.heap.objs.size { s₁ with heap := h', toks := tk }) E
      { s with heap := s.heap.push { cls := .type "dict", data := .dict #[] } }) :
    wpAny (model prog w) A (subDict pairs) Q E s := by
  unfold subDict
  refine wpAny_bind (wpAny_alloc ?_)
  refine wpAny_bind (wpAny_holding ?_)
  rw [if_pos hlen]
  refine wpAny_bind (wpAny_mono (wpAny_evalPairs_len h) (fun vs s₁ h₁ => ?_) fun _ _ e => e)
  obtain ⟨hvl, ps, hc, hm, hQ⟩ := h₁
  have hsz : ([] : List Ent).length + ps.length ≤ sizeLine := by
    have e := hc.length
    rw [sizeLine_eq, List.length_nil]; omega
  refine wpAny_holding ?_
  exact wpAny_bind (storeAllN hu vs ps [] s₁ _ hc hm hsz fun h' tk hm' hs' => wpAny_pure (wpAny_pure (hQ h' tk hm' hs')))
end
end TH
end
section
set_option Elab.async false
set_option linter.all false
set_option maxRecDepth 100000
namespace TH
open PySem PySem.Spec PyProof.Rows L2

theorem beq_dec {α : Type} [BEq α] [LawfulBEq α] [DecidableEq α] (a b : α) : (a == b) = decide (a = b) := by
  by_cases h : a = b
  · subst h; simp
  · rw [decide_eq_false h]; exact beq_eq_false_iff_ne.mpr h
mutual
theorem nk_beq : ∀ a b : D, imm a = true → imm b = true → eqD a b = NestedKey.beq (nk a) (nk b)
  | .none, b, _, hb => by cases b <;> first | rfl | (simp [imm] at hb; done) | (simp [eqD, nk, NestedKey.beq])
  | .bool x, b, _, hb => by
    cases b <;> first | (simp [imm] at hb; done) | (simp [eqD, nk, NestedKey.beq]; done) | skip
    · rename_i y; cases x <;> cases y <;> rfl
    · rename_i j; simp only [eqD, nk, NestedKey.beq]; exact beq_dec _ _
  | .int i, b, _, hb => by
    cases b <;> first | (simp [imm] at hb; done) | (simp [eqD, nk, NestedKey.beq]; done) | skip
    · rename_i y; simp only [eqD, nk, NestedKey.beq]; exact beq_dec _ _
    · rename_i j; simp only [eqD, nk, NestedKey.beq]; exact beq_dec _ _
  | .str x, b, _, hb => by
    cases b <;> first | (simp [imm] at hb; done) | (simp [eqD, nk, NestedKey.beq]; done) | skip
    · rename_i y
      simp only [eqD, nk, NestedKey.beq]
      exact Bool.beq_eq_decide_eq ..
  | .tuple xs, b, ha, hb => by
    cases b <;> first | (simp [imm] at hb; done) | (simp [eqD, nk, NestedKey.beq]; done) | skip
    · rename_i ys
      simp only [eqD, nk, NestedKey.beq]
      exact nks_beq xs ys (by simpa [imm] using ha) (by simpa [imm] using hb)
  | .list _, _, ha, _ => by simp [imm] at ha
  | .dict _, _, ha, _ => by simp [imm] at ha
theorem nks_beq : ∀ xs ys : List D, immL xs = true → immL ys = true → eqDs xs ys = NestedKey.beqAll (nks xs) (nks ys)
  | [], [], _, _ => rfl
  | [], _ :: _, _, _ => rfl
  | _ :: _, [], _, _ => rfl
  | x :: xs, y :: ys, ha, hb => by
    simp [immL] at ha hb
    simp only [eqDs, nks, NestedKey.beqAll, nk_beq x y ha.1 hb.1, nks_beq xs ys ha.2 hb.2]
end
theorem eqD_nk {a b : D} (ha : hashable a = true) (hb : hashable b = true) : eqD a b = decide (nk a = nk b) := by
  rw [nk_beq a b (hashable_imm ha) (hashable_imm hb), NestedKey.decide_eq]
theorem eqD_nk' {a b : D} (ha : hashable a = true) (hb : hashable b = true) : eqD a b = decide (nk b = nk a) := by
  rw [eqD_nk ha hb]
  by_cases h : nk a = nk b
  · rw [h]
  · rw [decide_eq_false h, decide_eq_false (fun z => h z.symm)]

section
variable {X : Cx} {pins : List (Addr × Obj)} {σ : L2.St} {H : Hp} {s : Shared}
mutual
theorem DRep.nested (I : Inv X pins σ H s) : ∀ {c : Bool} {v : V} {d : D} {as : List Addr} {u : Value}, DRep X.w X.K H c v d as → RelV v u → imm d = true → NestedIs s.heap (nk d) u
  | _, _, _, _, _, .none, r, _ => by cases r; exact .none
  | _, _, _, _, _, .bool b, r, _ => by cases r; exact .bool rfl
  | _, _, _, _, _, .int i, r, _ => by obtain ⟨t, rfl⟩ := r; exact .int i t
  | _, _, _, _, _, .str x _, r, _ => by obtain ⟨t, rfl⟩ := r; exact .text x t
  | _, _, _, _, _, .list _ _, _, h => by simp [imm] at h
  | _, _, _, _, _, .listF _ _ _, _, h => by simp [imm] at h
  | _, _, _, _, _, .tup e q, r, h => by
    cases r
    obtain ⟨its, rv, ⟨o, h1, h2, n, h4⟩, _⟩ := I.tuple e
    exact .tup h1 h2 h4 (by simpa using DAll.nested I q rv (by simpa [imm] using h))
  | _, _, _, _, _, .dict _ _ _ _ _, _, h => by simp [imm] at h
  | _, _, _, _, _, .dictF _ _ _ _ _ _ _ _, _, h => by simp [imm] at h
theorem DAll.nested (I : Inv X pins σ H s) : ∀ {c : Bool} {vs : List V} {ds : List D} {as : List Addr} {us : List Value}, DAll X.w X.K H c vs ds as → Vals vs us → immL ds = true → NestedAll s.heap (nks ds) us
  | _, _, _, _, _, .nil, r, _ => by cases r; exact .nil
  | _, _, _, _, _, .cons q qs, r, h => by
    simp [immL] at h
    cases r with
    | cons r rs => exact .cons (DRep.nested I q r h.1) (DAll.nested I qs rs h.2)
end
theorem key_is (I : Inv X pins σ H s) {c : Bool} {v : V} {d : D} {as : List Addr} {u : Value} (q : DRep X.w X.K H c v d as) (r : RelV v u) (h : hashable d = true) : NkIs s.heap (nk d) u := ⟨q.nested I r (hashable_imm h), hashable_depth h⟩
/-- the entries of a dict, as dict rules ask -/
theorem DEnts.toN (I : Inv X pins σ H s) : ∀ {c : Bool} {es : List DictEntry} {kvs : List (D × D)} {as : List Addr}, DEnts X.w X.K H c es kvs as →
    ∃ xs : List Ent, es = xs.map (entN X.w) ∧ xs.map (·.1) = kvs.map (fun p => nk p.1) ∧ NkAll s.heap xs
  | _, _, _, _, .nil => ⟨[], rfl, rfl, fun _ h => by simp at h⟩
  | _, _, _, _, .cons (e := e) (k := k) h1 r1 h2 h3 h4 r rs => by
    obtain ⟨xs, q1, q2, q3⟩ := DEnts.toN I rs
    refine ⟨(nk k, e.key, e.val) :: xs, ?_, ?_, fun x hx => ?_⟩
    · rw [q1, List.map_cons]
      congr 1
      show e = ⟨(nk k).hash X.w, e.key, e.val⟩
      rw [← h3]
    · rw [List.map_cons, List.map_cons, q2]
    · rcases List.mem_cons.mp hx with rfl | hx
      · exact key_is I r1 h1 h2
      · exact q3 x hx
end
section
variable {w : World} {K : PySem.W.Frag} {H : Hp} {c : Bool}
theorem DEnts.keysOk : ∀ {es : List DictEntry} {kvs : List (D × D)} {as : List Addr}, DEnts w K H c es kvs as → ∀ p ∈ kvs, hashable p.1 = true
  | _, _, _, .nil, p, h => by simp at h
  | _, _, _, .cons _ _ h2 _ _ _ rs, p, h => by
    rcases List.mem_cons.mp h with rfl | h
    · exact h2
    · exact rs.keysOk p h
theorem distinct_nodup : ∀ {kvs : List (D × D)}, (∀ p ∈ kvs, hashable p.1 = true) → Distinct kvs → (kvs.map (fun p => nk p.1)).Nodup
  | [], _, _ => .nil
  | p :: kvs, hk, h => by
    have h := List.pairwise_cons.mp h
    rw [List.map_cons, List.nodup_cons]
    refine ⟨fun hm => ?_, distinct_nodup (fun q hq => hk q (List.mem_cons_of_mem _ hq)) h.2⟩
    obtain ⟨q, hq, e⟩ := List.mem_map.mp hm
    have := h.1 q hq
    rw [eqD_nk (hk p (by simp)) (hk q (List.mem_cons_of_mem _ hq)), decide_eq_false_iff_not] at this
    exact this e.symm
theorem nodup_distinct : ∀ {kvs : List (D × D)}, (∀ p ∈ kvs, hashable p.1 = true) → (kvs.map (fun p => nk p.1)).Nodup → Distinct kvs
  | [], _, _ => .nil
  | p :: kvs, hk, h => by
    rw [List.map_cons, List.nodup_cons] at h
    refine List.pairwise_cons.mpr ⟨fun q hq => ?_, nodup_distinct (fun q hq => hk q (List.mem_cons_of_mem _ hq)) h.2⟩
    rw [eqD_nk (hk p (by simp)) (hk q (List.mem_cons_of_mem _ hq)), decide_eq_false_iff_not]
    exact fun e => h.1 (List.mem_map.mpr ⟨q, hq, e.symm⟩)
/-- what is looked up -/
theorem DEnts.look {k : D} (hk : hashable k = true) : ∀ {xs : List Ent} {kvs : List (D × D)} {as : List Addr}, DEnts w K H c (xs.map (entN w)) kvs as → xs.map (·.1) = kvs.map (fun p => nk p.1) →
    (dGet kvs k = none → atN xs (nk k) = none) ∧ ∀ d, dGet kvs k = some d → ∃ p vv bs, atN xs (nk k) = some p ∧ RelV vv p.2 ∧ DRep w K H c vv d bs ∧ ∀ a ∈ bs, a ∈ as
  | [], _, _, h, _ => by
    cases h
    exact ⟨fun _ => rfl, fun d e => by cases e⟩
  | x :: xs, kvs, as, h, he => by
    cases kvs with
    | nil => simp at he
    | cons p kvs =>
      rw [List.map_cons] at h
      cases h with
      | @cons _ _ k0 d0 _ _ as0 bs0 _ h1 r1 h2 h3 h4 r rs =>
        rw [List.map_cons, List.map_cons] at he
        injection he with e1 e2
        obtain ⟨g1, g2⟩ := DEnts.look hk rs e2
        have e1 : x.1 = nk k0 := e1
        by_cases hkk : x.1 = nk k
        · have he2 : eqD k k0 = true := by rw [eqD_nk' hk h2]; exact decide_eq_true (e1 ▸ hkk)
          refine ⟨fun z => ?_, fun d z => ?_⟩
          · simp [dGet, he2] at z
          · simp [dGet, he2] at z
            subst z
            exact ⟨x.2, _, _, by simp [atN, hkk], h4, r, fun a ha => List.mem_append_left _ ha⟩
        · have he2 : eqD k k0 = false := by rw [eqD_nk' hk h2]; exact decide_eq_false (e1 ▸ hkk)
          refine ⟨fun z => ?_, fun d z => ?_⟩
          · have := g1 (by simpa [dGet, he2] using z)
            simpa [atN, hkk] using this
          · obtain ⟨p', vv, bs, q1, q2, q3, q4⟩ := g2 d (by simpa [dGet, he2] using z)
            exact ⟨p', vv, bs, by simpa [atN, hkk] using q1, q2, q3, fun a ha => List.mem_append_right _ (q4 a ha)⟩
theorem dHas_atN {k : D} (hk : hashable k = true) {xs : List Ent} {kvs : List (D × D)} {as : List Addr} (h : DEnts w K H c (xs.map (entN w)) kvs as) (he : xs.map (·.1) = kvs.map (fun p => nk p.1)) : dHas kvs k = (atN xs (nk k)).isSome := by
  obtain ⟨g1, g2⟩ := h.look hk he
  unfold dHas
  cases e : dGet kvs k with
  | none => rw [g1 e]; rfl
  | some d =>
    obtain ⟨p, _, _, q, _⟩ := g2 d e
    rw [q]; rfl
theorem DEnts.append : ∀ {es fs : List DictEntry} {kvs kws : List (D × D)} {as bs : List Addr}, DEnts w K H c es kvs as → DEnts w K H c fs kws bs → DEnts w K H c (es ++ fs) (kvs ++ kws) (as ++ bs)
  | _, _, _, _, _, _, .nil, s => s
  | _, _, _, _, _, _, .cons h1 r1 h2 h3 h4 r rs, s => by rw [List.append_assoc]; exact .cons h1 r1 h2 h3 h4 r (rs.append s)
theorem map_noop {k : D} {d : D} : ∀ {kvs : List (D × D)}, (∀ p ∈ kvs, eqD k p.1 = false) → (kvs.map fun p => if eqD k p.1 then (p.1, d) else p) = kvs
  | [], _ => rfl
  | p :: kvs, h => by
    rw [List.map_cons, map_noop fun q hq => h q (List.mem_cons_of_mem _ hq), h p (by simp)]
    rfl
/-- a value is put at a key that is there -/
theorem DEnts.put {k : D} {u : Value} {vv : V} {d : D} {bs : List Addr} (hk : hashable k = true) (hv : RelV vv u) (rv : DRep w K H c vv d bs) : ∀ {xs : List Ent} {kvs : List (D × D)} {as : List Addr}, DEnts w K H c (xs.map (entN w)) kvs as →
    xs.map (·.1) = kvs.map (fun p => nk p.1) → Distinct kvs → (atN xs (nk k)).isSome = true →
    ∃ pre old post, as = pre ++ old ++ post ∧ DEnts w K H c ((xs.map (putN (nk k) u)).map (entN w)) (kvs.map fun p => if eqD k p.1 then (p.1, d) else p) (pre ++ bs ++ post)
  | [], _, _, _, _, _, hs => by simp [atN] at hs
  | x :: xs, kvs, as, h, he, hd, hs => by
    cases kvs with
    | nil => simp at he
    | cons p kvs =>
      have hko := h.keysOk
      rw [List.map_cons] at h
      cases h with
      | @cons _ _ k0 d0 _ _ as0 bs0 _ h1 r1 h2 h3 h4 r rs =>
        rw [List.map_cons, List.map_cons] at he
        injection he with e1 e2
        have e1 : x.1 = nk k0 := e1
        have hd := List.pairwise_cons.mp hd
        by_cases hkk : x.1 = nk k
        · have he2 : eqD k k0 = true := by rw [eqD_nk' hk h2]; exact decide_eq_true (e1 ▸ hkk)
          refine ⟨[], as0, bs0, rfl, ?_⟩
          have hn : nk k ∉ xs.map (·.1) := fun hm => by
            rw [e2] at hm
            obtain ⟨q, hq, e⟩ := List.mem_map.mp hm
            have := hd.1 q hq
            rw [eqD_nk h2 (hko q (List.mem_cons_of_mem _ hq)), decide_eq_false_iff_not] at this
            exact this (by rw [← e1, hkk]; exact e.symm)
          have hno : (kvs.map fun p => if eqD k p.1 then (p.1, d) else p) = kvs := map_noop fun q hq => by
            rw [eqD_nk' hk (hko q (List.mem_cons_of_mem _ hq))]
            exact decide_eq_false fun e => hn (by rw [e2]; exact List.mem_map.mpr ⟨q, hq, e⟩)
          rw [List.map_cons, List.map_cons, List.map_cons, hno, putN_of_not_mem xs (nk k) u hn, he2]
          have ep : putN (nk k) u x = (x.1, x.2.1, u) := by unfold putN; rw [if_pos hkk]
          rw [ep]
          exact .cons (e := entN w (x.1, x.2.1, u)) h1 r1 h2 h3 hv rv rs
        · have he2 : eqD k k0 = false := by rw [eqD_nk' hk h2]; exact decide_eq_false (e1 ▸ hkk)
          obtain ⟨pre, old, post, q1, q2⟩ := DEnts.put hk hv rv rs e2 hd.2 (by simpa [atN, hkk] using hs)
          refine ⟨as0 ++ pre, old, post, by rw [q1]; simp, ?_⟩
          rw [List.map_cons, List.map_cons, List.map_cons, he2]
          have ep : putN (nk k) u x = x := by unfold putN; rw [if_neg hkk]
          rw [ep, List.append_assoc, List.append_assoc, ← List.append_assoc pre]
          exact .cons (e := entN w x) h1 r1 h2 h3 h4 r q2
/-- .. at any key -/
theorem DEnts.stored {k : D} {kv : V} {ku u : Value} {vv : V} {d : D} {bs : List Addr} (hk : hashable k = true) (hkv : RelV kv ku) (rk : DRep w K H c kv k []) (hv : RelV vv u) (rv : DRep w K H c vv d bs) {xs : List Ent} {kvs : List (D × D)} {as : List Addr} (h : DEnts w K H c (xs.map (entN w)) kvs as)
    (he : xs.map (·.1) = kvs.map (fun p => nk p.1)) (hd : Distinct kvs) :
    ∃ pre old post, as = pre ++ old ++ post ∧ DEnts w K H c ((storedN xs (nk k) ku u).map (entN w)) (dPut kvs k d) (pre ++ bs ++ post) ∧ (storedN xs (nk k) ku u).map (·.1) = (dPut kvs k d).map (fun p => nk p.1) ∧ Distinct (dPut kvs k d) := by
  have hh := dHas_atN hk h he
  have hko := h.keysOk
  by_cases ha : (atN xs (nk k)).isSome = true
  · obtain ⟨pre, old, post, q1, q2⟩ := DEnts.put hk hv rv h he hd ha
    have ep : dPut kvs k d = kvs.map fun p => if eqD k p.1 then (p.1, d) else p := by unfold dPut; rw [hh, ha]; rfl
    have es : storedN xs (nk k) ku u = xs.map (putN (nk k) u) := by unfold storedN; rw [if_pos ha]
    have ek : (kvs.map fun p => if eqD k p.1 then (p.1, d) else p).map (fun p => nk p.1) = kvs.map (fun p => nk p.1) := by
      rw [List.map_map]
      refine List.map_congr_left fun p _ => ?_
      simp only [Function.comp]
      split <;> rfl
    refine ⟨pre, old, post, q1, by rw [ep, es]; exact q2, ?_, ?_⟩
    · rw [ep, es, keys_putN, he, ek]
    · rw [ep]
      refine nodup_distinct q2.keysOk ?_
      rw [ek]
      exact distinct_nodup hko hd
  · have ep : dPut kvs k d = kvs ++ [(k, d)] := by unfold dPut; rw [hh, if_neg ha]
    have es : storedN xs (nk k) ku u = xs ++ [(nk k, ku, u)] := by unfold storedN; rw [if_neg ha]
    have q2 : DEnts w K H c ((storedN xs (nk k) ku u).map (entN w)) (dPut kvs k d) (as ++ bs) := by
      rw [ep, es, List.map_append]
      have one : DEnts w K H c [entN w (nk k, ku, u)] [(k, d)] bs := by
        have := DEnts.cons (e := entN w (nk k, ku, u)) (es := []) hkv rk hk rfl hv rv .nil
        simpa using this
      exact h.append one
    refine ⟨as, [], [], by simp, by simpa using q2, ?_, ?_⟩
    · rw [ep, es, List.map_append, List.map_append, he]; rfl
    · refine nodup_distinct q2.keysOk ?_
      rw [ep, List.map_append, List.nodup_append]
      refine ⟨distinct_nodup hko hd, by simp, fun x hx y hy => ?_⟩
      simp only [List.map_cons, List.map_nil, List.mem_singleton] at hy
      subst hy
      rw [← he] at hx
      intro e
      subst e
      obtain ⟨q, hq, e⟩ := List.mem_map.mp hx
      have : atN xs (nk k) = none := by simpa using ha
      unfold atN at this
      rw [Option.map_eq_none_iff, List.find?_eq_none] at this
      exact this q hq (decide_eq_true e)
end
end TH
end
section
set_option Elab.async false
set_option linter.all false
set_option maxRecDepth 100000
namespace TH
open PySem PySem.Spec PyProof.Rows L2

section
variable {X : Cx} {Z : Cf} {pins : List (Addr × Obj)} {σ : L2.St} {H : Hp} {s : Shared}
/-- a dict's entries, as the rules of Dl read them -/
structure DN (X : Cx) (H : Hp) (s : Shared) (p : Addr) (xs : List Ent) (kvs : List (D × D)) (as : List Addr) : Prop where
  dict : DictN X.w s.heap p xs
  sys : (p == sysModules) = false
  line : xs.length ≤ sizeLine
  ents : DEnts X.w X.K H true (xs.map (entN X.w)) kvs as
  keys : xs.map (·.1) = kvs.map (fun p => nk p.1)
  dist : Distinct kvs
theorem dict_core (I : Inv X pins σ H s) {v : V} {u : Value} {kvs : List (D × D)} {as : List Addr} (q : DRep X.w X.K H true v (.dict kvs) as) (r : RelV v u) :
    ∃ p xs as0, v = .ref p ∧ u = .ref p ∧ DN X H s p xs kvs as0 ∧ ((as = p :: as0 ∧ ∃ es ep, H p = some (.ext (isObj p (dO es ep))) ∧ es.toList = xs.map (entN X.w) ∧ s.heap.get? p = some (dO es ep)) ∨ (as = as0 ∧ ∃ o, X.K.lookup p = some o)) := by
  cases q with
  | @dict p es ep _ as0 e h1 h2 r' h3 =>
    cases r
    obtain ⟨xs, e1, e2, e3⟩ := r'.toN I
    have r2 := r'
    rw [e1] at r2
    exact ⟨p, xs, as0, rfl, rfl, ⟨⟨_, es, ep, ext_at I e, ⟨rfl, rfl, rfl⟩, rfl, e1, e3, by rw [e2]; exact distinct_nodup r'.keysOk h3⟩, beq_eq_false_iff_ne.mpr h1, by have := sizeN e1; omega, r2, e2, h3⟩, .inl ⟨rfl, es, ep, e, e1, ext_at I e⟩⟩
  | @dictF p o es ep _ _ _ e hc hd h1 h2 r' h3 =>
    cases r
    obtain ⟨xs, e1, e2, e3⟩ := r'.toN I
    have r2 := r'
    rw [e1] at r2
    exact ⟨p, xs, as, rfl, rfl, ⟨⟨_, es, ep, I.kIn _ _ e, hc, hd, e1, e3, by rw [e2]; exact distinct_nodup r'.keysOk h3⟩, beq_eq_false_iff_ne.mpr h1, by have := sizeN e1; omega, r2, e2, h3⟩, .inr ⟨rfl, o, e⟩⟩
theorem Arg0.dictN (zx : ZX Z X) (I : Inv X pins σ H s) {v : V} {u : Value} {kvs : List (D × D)} (h : Arg0 Z H v (.dict kvs)) (r : RelV v u) : ∃ p xs as, v = .ref p ∧ u = .ref p ∧ DN X H s p xs kvs as := by
  obtain ⟨as, q⟩ := h
  rw [zx.w, zx.K] at q
  obtain ⟨p, xs, as0, e1, e2, d, _⟩ := dict_core I q r
  exact ⟨p, xs, as0, e1, e2, d⟩
theorem Arg1.dictN (zx : ZX Z X) (I : Inv X pins σ H s) {own : Nat → List Addr} {v : V} {u : Value} {kvs : List (D × D)} (h : Arg1 Z H own v (.dict kvs)) (r : RelV v u) : ∃ p xs as, v = .ref p ∧ u = .ref p ∧ DN X H s p xs kvs as ∧ Shr Z own as := by
  obtain ⟨as, q, sh⟩ := h
  rw [zx.w, zx.K] at q
  obtain ⟨p, xs, as0, e1, e2, d, e3⟩ := dict_core I q r
  refine ⟨p, xs, as0, e1, e2, d, ?_⟩
  rcases sh with sh | ⟨a, as', q1, q2, q3, sh⟩
  · rcases e3 with ⟨e3, _⟩ | ⟨e3, _⟩
    · subst e3; exact sh.sub fun x hx => List.mem_cons_of_mem _ hx
    · subst e3; exact sh
  · rcases e3 with ⟨e3, _⟩ | ⟨e3, o, e4⟩
    · rw [e3] at q2
      injection q2 with _ q2
      subst q2
      exact sh
    · obtain ⟨b, bs, t1, _, _, t3⟩ := q3.own
      rw [e1] at t1
      cases t1
      exact absurd (knone I _ _ e4) t3.some
/-! in -/
theorem inD_dict {a : D} {kvs : List (D × D)} {c : Bool} (h : inD a (.dict kvs) = some c) : hashable a = true ∧ c = dHas kvs a := by
  simp only [inD] at h
  split at h
  · rename_i hc; cases h; exact ⟨hc, rfl⟩
  · cases h
theorem key_arg (zx : ZX Z X) (I : Inv X pins σ H s) {v : V} {u : Value} {d : D} (h : Arg0 Z H v d) (r : RelV v u) (hk : hashable d = true) : NkIs s.heap (nk d) u ∧ DRep X.w X.K H true v d [] := by
  obtain ⟨as, q⟩ := h
  rw [zx.w, zx.K] at q
  have := q.imm_nil (hashable_imm hk)
  subst this
  exact ⟨key_is I q r hk, q⟩
theorem in_any (hu : X.A.units + 200 < cLine) (zx : ZX Z X) {x y : V} {v u : Value} {a b : D} {c : Bool} {Q : Value → Shared → Prop} (I : Inv X pins σ H s) (rx : RelV x v) (ry : RelV y u)
    (h1 : Arg0 Z H x a) (h2 : Arg0 Z H y b) (e : inD a b = some c) :
    ((∀ tk, Q (.bool c) { s with toks := tk }) → wpAny (model X.prog X.w) X.A (compareOp .In v u) Q X.xe s) ∧ ((∀ tk, Q (.bool (!c)) { s with toks := tk }) → wpAny (model X.prog X.w) X.A (compareOp .NotIn v u) Q X.xe s) := by
  by_cases hb : ∃ kvs, b = .dict kvs
  · obtain ⟨kvs, rfl⟩ := hb
    obtain ⟨hk, rfl⟩ := inD_dict e
    obtain ⟨p, xs, as, rfl, rfl, dn⟩ := h2.dictN zx I ry
    obtain ⟨ki, _⟩ := key_arg zx I h1 rx hk
    rw [dHas_atN hk dn.ents dn.keys]
    exact ⟨fun q => in_nk (by omega) ki dn.sys dn.dict q, fun q => notIn_nk (by omega) ki dn.sys dn.dict q⟩
  · obtain ⟨g1, g2⟩ := in_seq (Q := Q) hu zx I rx ry h1 h2 (fun kvs z => hb ⟨kvs, z⟩) e
    exact ⟨fun q => g1 (q s.toks), fun q => g2 (q s.toks)⟩
theorem pr_in (hu : X.A.units + 200 < cLine) (zx : ZX Z X) : OpR X (compareOp .In) (fun x y H Q => PrimT Z .isin [x, y] H Q) := by
  intro pins s σ H x y v u Q I rx ry h
  obtain ⟨Y, R, foot, own, ⟨a, ka⟩, ⟨b, kb⟩, d, k, o, h1, h2, h3, e, fin⟩ := h.two
  have e : okB (inD a b) = some (d, k) := e
  obtain ⟨c, e1, e⟩ := okB_some e
  exact (in_any hu zx I rx ry h1 h2 e1).1 fun tk => ⟨.bl _, H, I.tok tk, rfl, give_atom o e (.bool _) fin⟩
theorem pr_notin (hu : X.A.units + 200 < cLine) (zx : ZX Z X) : OpR X (compareOp .NotIn) (fun x y H Q => PrimT Z .notin [x, y] H Q) := by
  intro pins s σ H x y v u Q I rx ry h
  obtain ⟨Y, R, foot, own, ⟨a, ka⟩, ⟨b, kb⟩, d, k, o, h1, h2, h3, e, fin⟩ := h.two
  have e : okB ((inD a b).map (!·)) = some (d, k) := e
  obtain ⟨c, e1, e⟩ := okB_some e
  obtain ⟨c', e2, rfl⟩ := Option.map_eq_some_iff.mp e1
  exact (in_any hu zx I rx ry h1 h2 e2).2 fun tk => ⟨.bl _, H, I.tok tk, rfl, give_atom o e (.bool _) fin⟩
/-! d[k] -/
theorem pr_idx_all (hu : X.A.units + 200 < cLine) (zx : ZX Z X) : IxR X (fun x y H Q => PrimT Z .idx [x, y] H Q) := by
  intro value slice pins s σ H x y v u Q I rx ry h hs
  by_cases nd : ∀ kvs, ¬ Arg0 Z H x (.dict kvs)
  · exact pr_idx zx value slice pins s σ H x y v u Q I rx ry ⟨nd, h⟩ hs
  · obtain ⟨Y, R, foot, own, ⟨a, ka⟩, ⟨b, kb⟩, d, k, o, h1, h2, h3, e, fin⟩ := h.two
    have e : idxD a b = some (d, k) := e
    have hd : ∃ kvs, a = .dict kvs := by
      obtain ⟨kvs, h1'⟩ := Classical.not_forall.mp nd
      have h1' := Classical.not_not.mp h1'
      obtain ⟨b1, r1⟩ := h1.reads zx I rx
      obtain ⟨b2, r2⟩ := h1'.reads zx I rx
      have e3 := (PyProof.Rows.reads_det (fun _ _ q _ => q) r1 r2).1
      exact ⟨kvs, e3.symm⟩
    obtain ⟨kvs, rfl⟩ := hd
    obtain ⟨g1, _⟩ := h3 rfl
    simp only [idxD] at e
    obtain ⟨hk, e⟩ := some_if e
    obtain ⟨d', e1, e⟩ := Option.bind_eq_some_iff.mp e
    obtain ⟨p, xs, as, rfl, rfl, dn, sh⟩ := g1.dictN zx I rx
    obtain ⟨ki, _⟩ := key_arg zx I h2 ry hk
    obtain ⟨q, vv, bs, q1, q2, q3, q4⟩ := (dn.ents.look hk dn.keys).2 d' e1
    exact tail_any dn.dict.typeIs slot_dict_getitem.lookup (getItem_nk (by omega) ki dn.dict q1 fun tk => ⟨vv, H, I.tok tk, q2, give_part o e (by rw [zx.w, zx.K]; exact q3) (sh.sub q4) fin⟩) hs
/-! something new: a dict -/
theorem give_dict {Y : L2.St} {R : Ev} {foot own : Nat → List Addr} {d : D} {k : Own} {kvs : List (D × D)} {es : Array DictEntry} {ep : Nat} {as : List Addr} {Q : VK} (o : OkW Z Y R H foot own) (e : okN (.dict kvs) = some (d, k)) (r : DEnts Z.w Z.K H true es.toList kvs as) (sh : Shr Z own as) (hd : Distinct kvs) (hz : es.size ≤ sizeLine)
    (fin : ∀ v H', Ok Z (Y ++ [some v]) (R ++ [.vl k d]) H' → Q v H') {p : Addr} (hp : H p = none) (hs : p ≠ sysModules) : Q (.ref p) (upd H p (.ext (isObj p (dO es ep)))) := by
  cases e
  have hown := r.own
  have ents : ∀ {c : Bool}, DEnts Z.w Z.K H c es.toList kvs as → DRep Z.w Z.K (upd H p (.ext (isObj p (dO es ep)))) c (.ref p) (.dict kvs) (p :: as) := fun r =>
    .dict upd_same hs hz (DEnts.keep (S := []) (KeepBut.new hp) (by simp) r (fun _ _ z => by simp at z)) hd
  by_cases hi : immL (kvs.map (·.2)) = true
  · have ha := r.imm_nil hi
    subst ha
    refine fin _ _ ?_
    have ek : mkK false (.dict kvs) = .fr := by simp [mkK, immKids, hi]
    rw [ek]
    refine ⟨_, _, (o.alloc hp).push (k := .fr) (as := [p]) (ow := [p]) (ents (r.imm_any false hi)) ?_ ?_ ?_ ⟨rfl, by simp⟩⟩
    · refine ⟨fun a ha j hb => ?_, fun a ha => ?_⟩
      · have e : a = p := by simpa using ha
        subst e
        exact (o.footOwn (o.mine j _ hb).1).some hp
      · have e : a = p := by simpa using ha
        subst e
        exact o.notB hp
    · intro a ha
      have e : a = p := by simpa using ha
      subst e
      refine ⟨by simp, .inr ?_⟩
      cases q : Z.He a with
      | none => rfl
      | some y =>
        by_cases z : a ∈ Z.Lio
        · exact absurd hp (o.io a z).some
        · have := o.keep a y q z
          rw [hp] at this; cases this
    · intro i a ha hb
      have e : a = p := by simpa using hb
      subst e
      exact (o.footOwn ha).some hp
  · have ek : mkK false (.dict kvs) = .top := by simp [mkK, immKids, hi]
    rw [ek] at fin
    exact fin _ _ (o.pushTop hp ⟨p, as, rfl, rfl, fun z => (hown p z).some hp, .inr ⟨es, ep, kvs, rfl, upd_same, hs, hz, DEnts.keep (S := []) (KeepBut.new hp) (by simp) r (fun _ _ z => by simp at z), hd⟩⟩ sh hown)
/-- the object of a new dict -/
theorem DictN.obj {w : World} {h : Heap} {p : Addr} {xs : List Ent} (x : DictN w h p xs) : ∃ es ep, h.get? p = some (dO es ep) ∧ es.toList = xs.map (entN w) := by
  obtain ⟨⟨cl, dd, dat, sl⟩, es, ep, ho, ⟨h1, h2, h3⟩, hd, he, _⟩ := x
  simp only at h1 h2 h3 hd
  subst h1 h2 h3 hd
  exact ⟨es, ep, ho, he⟩
theorem ext_ok {P : Program} {w : World} {H : Hp} {h : Heap} {p : Addr} {o : Obj} (e : h.get? p = some o) : ObjOk P w H h p (.ext (isObj p o)) := ⟨e, ⟨_, e⟩, fun _ _ q k => k _ q⟩
/-! pairs merged -/
theorem merge_ok {w : World} {K : PySem.W.Frag} {H : Hp} : ∀ {ps : List Ent} {kws : List (D × D)} {bs : List Addr} {xs : List Ent} {kvs : List (D × D)} {as : List Addr}, DEnts w K H true (xs.map (entN w)) kvs as → xs.map (·.1) = kvs.map (fun p => nk p.1) → Distinct kvs →
    DEnts w K H true (ps.map (entN w)) kws bs → ps.map (·.1) = kws.map (fun p => nk p.1) →
    ∃ cs, DEnts w K H true ((storedAllN xs ps).map (entN w)) (dMerge kvs kws) cs ∧ (storedAllN xs ps).map (·.1) = (dMerge kvs kws).map (fun p => nk p.1) ∧ Distinct (dMerge kvs kws) ∧ ∀ a ∈ cs, a ∈ as ∨ a ∈ bs
  | [], kws, bs, xs, kvs, as, h1, h2, h3, h4, h5 => by
    cases h4
    exact ⟨as, h1, h2, h3, fun a ha => .inl ha⟩
  | p :: ps, kws, bs, xs, kvs, as, h1, h2, h3, h4, h5 => by
    cases kws with
    | nil => simp at h5
    | cons q kws =>
      rw [List.map_cons] at h4
      cases h4 with
      | @cons _ _ k0 d0 kv vv as0 bs0 _ g1 r1 g2 g3 g4 r rs =>
        rw [List.map_cons, List.map_cons] at h5
        injection h5 with e1 e2
        have e1 : p.1 = nk k0 := e1
        have g1 : RelV kv p.2.1 := g1
        have g4 : RelV vv p.2.2 := g4
        obtain ⟨pre, old, post, q1, q2, q3, q4⟩ := h1.stored g2 g1 r1 g4 r h2 h3
        rw [← e1] at q2 q3
        obtain ⟨cs, c1, c2, c3, c4⟩ := merge_ok q2 q3 q4 rs e2
        refine ⟨cs, c1, c2, c3, fun a ha => ?_⟩
        rcases c4 a ha with h | h
        · rw [q1]
          simp only [List.mem_append] at h ⊢
          rcases h with (h | h) | h
          · exact .inl (.inl (.inl h))
          · exact .inr (.inl h)
          · exact .inl (.inr h)
        · exact .inr (List.mem_append_right _ h)
/-- the pairs that dict() takes -/
theorem pairs_read (I : Inv X pins σ H s) : ∀ {ds : List D} {vs : List V} {as : List Addr} {its : List Value} {kvs : List (D × D)}, DAll X.w X.K H true vs ds as → Vals vs its → pairsOf ds = some kvs → (kvs.all fun p => hashable p.1) = true →
    ∃ (Ts : List Addr) (ps : List Ent), its = Ts.map .ref ∧ Ts.length = ps.length ∧ (∀ (j : Nat) (x : Ent), ps[j]? = some x → ∃ T, Ts[j]? = some T ∧ PairAt s.heap T x.2.1 x.2.2) ∧ NkAll s.heap ps ∧ ps.map (·.1) = kvs.map (fun p => nk p.1) ∧
      ∃ bs, DEnts X.w X.K H true (ps.map (entN X.w)) kvs bs ∧ ∀ a ∈ bs, a ∈ as
  | [], _, _, _, _, .nil, r, e, _ => by
    cases r; cases e
    exact ⟨[], [], rfl, rfl, fun j x h => by simp at h, fun _ h => by simp at h, rfl, [], .nil, by simp⟩
  | x :: ds, _, _, _, kvs, .cons q qs, r, e, hh => by
    cases r with
    | cons r rs =>
      match x, q, e with
      | .tuple [a, b], q, e =>
        simp only [pairsOf] at e
        obtain ⟨l, e1, rfl⟩ := Option.map_eq_some_iff.mp e
        rw [List.all_cons, Bool.and_eq_true] at hh
        obtain ⟨Ts, ps, q1, q2, q3, q4, q5, bs, q6, q7⟩ := pairs_read I qs rs e1 hh.2
        cases q with
        | @tup T vs2 _ as2 sq al =>
          cases r
          obtain ⟨its2, rv2, it2, _⟩ := I.tuple sq
          cases al with
          | cons ra al =>
            cases al with
            | cons rb al =>
              cases al
              cases rv2 with
              | @cons va ua _ _ r1 rv2 =>
                cases rv2 with
                | @cons vb ub _ _ r2 rv2 =>
                  cases rv2
                  have hka : hashable a = true := hh.1
                  have en := ra.imm_nil (hashable_imm hka)
                  subst en
                  refine ⟨T :: Ts, (nk a, ua, ub) :: ps, by rw [q1]; rfl, by simp [q2], fun j x hx => ?_, fun x hx => ?_, by simp [q5], _, .cons (e := entN X.w (nk a, ua, ub)) r1 ra hka rfl r2 rb q6, fun c hc => ?_⟩
                  · cases j with
                    | zero =>
                      simp at hx; subst hx
                      exact ⟨T, rfl, .inl it2⟩
                    | succ j =>
                      obtain ⟨T', h1, h2⟩ := q3 j x (by simpa using hx)
                      exact ⟨T', by simpa using h1, h2⟩
                  · rcases List.mem_cons.mp hx with rfl | hx
                    · exact key_is I ra r1 hka
                    · exact q4 x hx
                  · simp only [List.mem_append, List.nil_append, List.append_nil] at hc ⊢
                    exact hc.imp id (q7 c)
theorem pr_dict (hu : X.A.units + 200 < cLine) : CallR X (.type "dict") (fun xs H Q => ZX Z X ∧ X.A.handled = none ∧ PrimT Z .dict xs H Q) := by
  intro pins s σ H xs us Q I r ⟨zx, hh, h⟩
  obtain ⟨x, rfl⟩ := len1 (h.arity arN_dict)
  obtain ⟨Y, R, foot, own, ⟨a, ka⟩, d, k, o, h1, h3, e, fin⟩ := h.one
  have kn := True.intro
  obtain ⟨u, rfl, rx⟩ := vals1 r
  have e0 : dictD a = some (d, k) := e
  clear e
  cases a with
  | list ds =>
    simp only [dictD] at e0
    obtain ⟨kvs, e1, e9⟩ := Option.bind_eq_some_iff.mp e0
    clear e0
    obtain ⟨hc, e⟩ := some_if e9
    clear e9
    obtain ⟨p, vs, as, rfl, q, rs, sh⟩ := (h3 rfl).list kn
    cases rx
    rw [zx.w, zx.K] at rs
    rw [zx.K] at q
    obtain ⟨its, rv, ⟨ob, n, g1, g2, g3, g4⟩, hz⟩ := I.list q
    obtain ⟨Ts, ps, q1, q2, q3, q4, q5, bs, q6, q7⟩ := pairs_read I rs rv e1 hc
    have hlen := rv.length
    have hn : ps.length = vs.length := by rw [hlen, q1, List.length_map, q2]
    have hitem : ∀ (j : Nat) (x : Ent), ps[j]? = some x → ∃ T, Ts[j]? = some T ∧ PairAt s.heap T x.2.1 x.2.2 := q3
    refine call_dict_nk (ps := ps) (PairArg.list p its.toArray (fun j => (Ts[j]?).getD 0) (ps.map fun x => (x.2.1, x.2.2))) hh (by omega) ⟨⟨ob, n, g1, g2, g3, g4⟩, ?_, ?_⟩ ⟨by simp, fun i key v hr => ?_⟩ (fun h' kp x hx => ?_) (by simp; omega) fun h' tk hd' kp => ?_
    · rw [q1]; simp [q2]
    · intro j kk vv hj
      rw [List.getElem?_map] at hj
      obtain ⟨x, hx, ex⟩ := Option.map_eq_some_iff.mp hj
      injection ex with ex1 ex2
      obtain ⟨T, hT, pa⟩ := hitem j x hx
      refine ⟨?_, ?_⟩
      · rw [q1]; simp [hT]
      · show PairAt s.heap (Ts[j]?.getD 0) kk vv
        rw [hT, ← ex1, ← ex2]; exact pa
    · have hr : (ps.map fun x => (x.2.1, x.2.2))[i]? = some (key, v) := hr
      rw [List.getElem?_map] at hr
      obtain ⟨x, hx, ex⟩ := Option.map_eq_some_iff.mp hr
      injection ex with ex1 ex2
      subst ex1 ex2
      exact ⟨x.1, hx⟩
    · have := q4 x hx
      exact ⟨NestedIs.at (fun b ob vs n hb _ => kp b ob (Nat.ne_of_lt (Heap.lt_size hb)) (by simp) hb) _ _ this.1, this.2⟩
    · obtain ⟨es, ep, ho, he⟩ := hd'.obj
      obtain ⟨cs, c1, c2, c3, c4⟩ := merge_ok (xs := []) (kvs := []) (as := []) .nil rfl .nil q6 q5
      rw [← he] at c1
      have hsz : es.size ≤ sizeLine := by
        have e1 : es.size = (storedAllN [] ps).length := by have := congrArg List.length he; simpa using this
        have e2 := storedAllN_length ps []
        rw [e1]
        simp at e2
        omega
      refine ⟨.ref s.heap.objs.size, upd H s.heap.objs.size (.ext (isObj s.heap.objs.size (dO es ep))), I.laid (t' := tk) (fun b o' q => kp b o' (by simp) q) (Nat.le_refl _) (ext_ok ho), rfl, ?_⟩
      exact give_dict o e (by rw [zx.w, zx.K]; exact c1) (sh.sub fun a ha => (c4 a ha).elim (fun z => by simp at z) (q7 a)) c3 hsz fin I.fresh (Nat.ne_of_gt I.big)
  | _ => cases e0
end
end TH
end
section
set_option Elab.async false
set_option linter.all false
set_option maxRecDepth 100000
namespace TH
open PySem PySem.Spec PyProof.Rows L2

def tyNames : List String := ["int", "bool", "str", "list", "tuple", "dict"]
theorem kit_none : ∀ t ∈ tyNames, kitB "NoneType" t = some false := by decide +kernel
theorem kit_bool : ∀ t ∈ tyNames, kitB "bool" t = some (t == "bool" || t == "int") := by decide +kernel
theorem kit_int : ∀ t ∈ tyNames, kitB "int" t = some (t == "int") := by decide +kernel
theorem kit_str : ∀ t ∈ tyNames, kitB "str" t = some (t == "str") := by decide +kernel
theorem kit_list : ∀ t ∈ tyNames, kitB "list" t = some (t == "list") := by decide +kernel
theorem kit_tuple : ∀ t ∈ tyNames, kitB "tuple" t = some (t == "tuple") := by decide +kernel
theorem kit_dict : ∀ t ∈ tyNames, kitB "dict" t = some (t == "dict") := by decide +kernel
theorem kit_tree {K : PySem.W.Frag} {t : String} (ht : t ∈ tyNames) (d : D) : PySem.W.kitOne K (.type (tyN d)) (.type t) = some (isType t d) := by
  cases d with
  | none => exact kit_ty (kit_none t ht)
  | bool => exact kit_ty (kit_bool t ht)
  | int => exact kit_ty (kit_int t ht)
  | str => exact kit_ty (kit_str t ht)
  | list => exact kit_ty (kit_list t ht)
  | tuple => exact kit_ty (kit_tuple t ht)
  | dict => exact kit_ty (kit_dict t ht)
section
variable {X : Cx} {Z : Cf} {pins : List (Addr × Obj)} {σ : L2.St} {H : Hp} {s : Shared}
/-- what isinstance asks -/
theorem kit_arg (zx : ZX Z X) (I : Inv X pins σ H s) {v : V} {u : Value} {d : D} (h : Arg0 Z H v d) (r : RelV v u) : ∃ P : Heap → Prop, PySem.W.KitX X.K u (.type (tyN d)) P ∧ P s.heap ∧ u ≠ .builtin "__main__.__loader__#opaque" := by
  obtain ⟨bs, q⟩ := h.reads zx I r
  cases q with
  | none => exact ⟨_, PySem.W.kitx_none, True.intro, fun z => nomatch z⟩
  | bool => exact ⟨_, PySem.W.kitx_bool, True.intro, fun z => nomatch z⟩
  | int => exact ⟨_, PySem.W.kitx_int, True.intro, fun z => nomatch z⟩
  | str => exact ⟨_, PySem.W.kitx_str, True.intro, fun z => nomatch z⟩
  | list h1 h2 _ _ => exact ⟨_, PySem.W.kitx_list, ⟨_, h1, h2⟩, fun z => nomatch z⟩
  | tuple h1 h2 _ _ => exact ⟨_, PySem.W.kitx_tuple, ⟨_, h1, h2⟩, fun z => nomatch z⟩
  | dict h1 h2 _ _ _ => exact ⟨_, PySem.W.kitx_dict, ⟨_, h1, h2⟩, fun z => nomatch z⟩
theorem pr_isi {t : String} (ht : t ∈ tyNames) : CallR X (.builtin "isinstance") (fun xs H Q => ZX Z X ∧ ∃ x, xs = [x, .ty t] ∧ PrimT Z (.isi t) [x] H Q) := by
  intro pins s σ H xs us Q I r ⟨zx, x, ex, h⟩
  subst ex
  obtain ⟨Y, R, foot, own, ⟨a, ka⟩, d, k, o, h1, h3, e, fin⟩ := h.one
  obtain ⟨u1, u2, rfl, r1, r2⟩ := vals2 r
  cases (show u2 = Value.type t from r2)
  have e : okA (.bool (isType t a)) = some (d, k) := e
  obtain ⟨P, Z', p, hx⟩ := kit_arg zx I h1 r1
  exact PySem.W.kia_one Z' I.kIn p (kit_tree ht a) hx fun tk => ⟨.bl _, H, I.tok tk, rfl, give_atom o e (.bool _) fin⟩
/-! is -/
def isD (y a : D) : Bool := match y with
  | .bool c => isBoolD c a
  | _ => isNoneD a
def notIf (n b : Bool) : Bool := if n then !b else b
/-- the constant that is asked for, as a value -/
def IsC (y : D) (vy : Value) : Prop := (y = .none ∧ vy = .none) ∨ ∃ c, y = .bool c ∧ vy = .bool c
theorem pr_is {p : P} {n : Bool} {y : D} {vy : Value} (hp : ∀ a : D × Own, prim p [a] = okA (.bool (notIf n (isD y a.1)))) (hy : IsC y vy)
    {x : V} {v : Value} {Q : VK} (zx : ZX Z X) (I : Inv X pins σ H s) (rx : RelV x v) (h : PrimT Z p [x] H Q) : wpAny (model X.prog X.w) X.A (compareOp (if n then .IsNot else .Is) v vy) (EP X pins σ Q) X.xe s := by
  obtain ⟨Y, R, foot, own, ⟨a, ka⟩, d, k, o, h1, h3, e, fin⟩ := h.one
  rw [hp] at e
  obtain ⟨bs, rr⟩ := h1.reads zx I rx
  have ev : (v == vy) = isD y a := by
    rcases hy with ⟨rfl, rfl⟩ | ⟨c, rfl, rfl⟩
    · cases rr <;> rfl
    · cases rr <;> first | rfl | skip
      rename_i b
      cases b <;> cases c <;> rfl
  have hpl : plainIs v vy = true := by
    rcases hy with ⟨rfl, rfl⟩ | ⟨c, rfl, rfl⟩ <;> cases rr <;> rfl
  cases n with
  | false =>
    refine wpAny_is_plain hpl ?_
    rw [ev]
    exact ⟨.bl (isD y a), H, I, rfl, give_atom (d' := .bool (isD y a)) o e (.bool _) fin⟩
  | true =>
    refine wpAny_isNot_plain hpl ?_
    rw [ev]
    exact ⟨.bl (!isD y a), H, I, rfl, give_atom (d' := .bool (!isD y a)) o e (.bool _) fin⟩
/-! truth -/
theorem truthy_raw {prog : Program} {w : World} {A : Around} {E : Value → Shared → Prop} {d : Addr} {es : Array DictEntry} {ep : Nat} {Q : Bool → Shared → Prop} (hd : (d == sysModules) = false) (hm : s.heap.DictRaw d es ep) (hfit : es.size ≤ sizeLine)
    (h : ∀ tk, Q (!es.isEmpty) { s with toks := tk }) : wpAny (model prog w) A (truthy (.ref d)) Q E s := by
  have hn := line63'
  have hne : ((es.size : Int) != 0) = !es.isEmpty := by
    by_cases h0 : es.size = 0
    · have : es = #[] := Array.eq_empty_of_size_eq_zero h0
      subst this; rfl
    · have e1 : ((es.size : Int) != 0) = true := by simp; exact fun z => h0 (by rw [z]; rfl)
      have e2 : es.isEmpty = false := by simp; exact fun z => h0 (by rw [z]; rfl)
      rw [e1, e2]; rfl
  have key : wpAny (model prog w) A (runValue (.builtin "len" ⟨[.ref d], []⟩)) (fun r s' => (∃ t, r = .int es.size t) ∧ Q (!es.isEmpty) s') E s := by
    refine wpAny_runValue (codeAny_builtin entry_len ?_)
    rw [Around.under_plainId plain_len _]
    unfold Builtin.«len»
    refine wpAny_bind (m := oneArg "len" _) (wpAny_pure ?_)
    refine wpAny_bind (m := callSpecial? (.ref d) (Str.ofString "__len__")) (wpAny_callSpecial?_slot (name := Str.ofString "__len__") hm.typeIs F.slot_dict_len (call_len_raw hd hm ?_))
    show wpAny _ _ _ _ _ { s with toks := s.toks + 1 }
    refine wpAny_bind (wpAny_holding (wpAny_pure ?_))
    refine wpAny_bind (wpAny_letGo ?_)
    show wpAny _ _ (if ((es.size : Nat) : Int) < 0 then _ else _) _ _ _
    rw [if_neg (by omega)]
    show wpAny _ _ (if ((es.size : Nat) : Int) ≥ 2 ^ 63 then _ else _) _ _ _
    rw [if_neg (by omega)]
    exact wpAny_bind (wpAny_mkInt (wpAny_pure ⟨⟨_, rfl⟩, h _⟩))
  unfold truthy
  first
    | refine wpAny_bind (wpAny_callSpecial?_none (name := Str.ofString "__bool__") hm.typeIs noBool_dict ?_)
    | refine wpAny_bind (wpAny_specialOf_none (name := Str.ofString "__bool__") hm.typeIs noBool_dict ?_)
  first
    | refine wpAny_bind (wpAny_specialOf (name := Str.ofString "__len__") hm.typeIs F.slot_dict_len.lookup ?_)
    | refine wpAny_bind (wpAny_pure (wpAny_bind (wpAny_specialOf (name := Str.ofString "__len__") hm.typeIs F.slot_dict_len.lookup ?_)))
  first
    | exact wpAny_bind (wpAny_mono key (fun r s' h' => by obtain ⟨⟨t, rfl⟩, hq⟩ := h'; exact wpAny_pure (hne ▸ hq)) fun _ _ e => e)
    | exact wpAny_bind (wpAny_pure (wpAny_bind (wpAny_mono key (fun r s' h' => by obtain ⟨⟨t, rfl⟩, hq⟩ := h'; exact wpAny_pure (hne ▸ hq)) fun _ _ e => e)))
theorem truth_ok (zx : ZX Z X) (I : Inv X pins σ H s) {x : V} {v : Value} {a : D} {Q : Bool → Shared → Prop} (rx : RelV x v) (h1 : Arg0 Z H x a) (h : ∀ tk, Q (truth a) { s with toks := tk }) : wpAny (model X.prog X.w) X.A (truthy v) Q X.xe s := by
  have hn := line63'
  cases a with
  | none => cases h1.none; cases rx; exact truthy_none (h s.toks)
  | bool b => cases h1.bool; cases rx; exact wpAny_truthy_bool (h s.toks)
  | int i => cases h1.int; obtain ⟨t, rfl⟩ := rx; exact PySem.P.truthy_int (h s.toks)
  | str y =>
    have hz := h1.strLen
    cases h1.str; obtain ⟨t, rfl⟩ := rx
    have e : truth (.str y) = ((y.length : Int) != 0) := by
      show (y.length != 0) = _
      rw [Bool.eq_iff_iff]; simp
    rw [e] at h
    exact PySem.P.truthy_str (by omega) (h _)
  | list ds =>
    obtain ⟨p, vs, its, as, rfl, rfl, q, rv, pl, hz, hl, rr⟩ := seq_arg zx I h1 rx
    have hlen := rv.length
    refine wpAny_truthy_list pl.isList (by simp only [List.size_toArray] <;> omega) ?_
    have e : (!its.toArray.isEmpty) = truth (.list ds) := by
      show _ = !ds.isEmpty
      rw [Bool.eq_iff_iff]; simp
      constructor
      · intro z w; exact z (List.length_eq_zero_iff.mp (by rw [← hlen, hl, w]; rfl))
      · intro z w; exact z (List.length_eq_zero_iff.mp (by rw [← hl, hlen, w]; rfl))
    rw [e]; exact h _
  | tuple ds =>
    obtain ⟨p, vs, its, as, rfl, rfl, q, rv, pl, hz, hl, rr⟩ := tup_arg zx I h1 rx
    have hlen := rv.length
    refine truthy_tuple pl (by simp only [List.size_toArray] <;> omega) ?_
    have e : (!its.toArray.isEmpty) = truth (.tuple ds) := by
      show _ = !ds.isEmpty
      rw [Bool.eq_iff_iff]; simp
      constructor
      · intro z w; exact z (List.length_eq_zero_iff.mp (by rw [← hlen, hl, w]; rfl))
      · intro z w; exact z (List.length_eq_zero_iff.mp (by rw [← hl, hlen, w]; rfl))
    rw [e]; exact h _
  | dict kvs =>
    obtain ⟨p, es, ep, as, rfl, rfl, raw, hsm, hz, hl, _⟩ := dict_arg zx I h1 rx
    refine truthy_raw (beq_eq_false_iff_ne.mpr hsm) raw hz fun tk => ?_
    have e : (!es.isEmpty) = truth (.dict kvs) := by
      show _ = !kvs.isEmpty
      rw [Bool.eq_iff_iff]; simp
      constructor
      · intro z w; exact z (Array.eq_empty_of_size_eq_zero (by rw [hl, w]; rfl))
      · intro z w; exact z (List.length_eq_zero_iff.mp (by rw [← hl, w]; rfl))
    rw [e]; exact h tk
end
end TH
end
section
set_option Elab.async false
set_option linter.all false
set_option maxRecDepth 100000
namespace TH
open PySem PySem.Spec PyProof.Rows L2

section
variable {Z : Cf} {σ : L2.St} {ρ : Ev} {H H' : Hp} {foot own : Nat → List Addr}
theorem put_mem {f : Nat → List Addr} {n j : Nat} {a : Addr} (h : a ∈ put f n [] j) : j ≠ n ∧ a ∈ f j := by
  by_cases hj : j = n
  · rw [hj, put_same] at h; simp at h
  · rw [put_ne hj] at h; exact ⟨hj, h⟩
theorem OkW.lk_set (o : OkW Z σ ρ H foot own) {i j : Nat} {s : Slot} (e : (ρ.set i s)[j]? = some .lk) (hs : s ≠ .lk) : σ[j]? = some (Z.hid j) := by
  by_cases hj : j = i
  · subst hj
    have hl := lt_of_get e
    rw [List.length_set] at hl
    rw [List.getElem?_set_self hl] at e
    exact absurd (Option.some.inj e) hs
  · rw [List.getElem?_set_ne (Ne.symm hj)] at e
    exact o.lk j e
/-- a slot is emptied -/
theorem OkW.take (o : OkW Z σ ρ H foot own) (i : Nat) : OkW Z σ (ρ.set i .un) H (put foot i []) (put own i []) := by
  refine ⟨by simpa using o.len, fun j ov s e1 e2 => ?_, fun j hj => ?_, fun j l a ha hb => ?_, fun j a ha => ?_, o.keep, o.io, o.oth, fun j e => o.lk_set e (by simp)⟩
  · by_cases hj : j = i
    · subst hj
      have hl := lt_of_get e2
      rw [List.length_set] at hl
      rw [List.getElem?_set_self hl] at e2
      cases e2
      rw [put_same, put_same]
      exact ⟨rfl, rfl⟩
    · rw [List.getElem?_set_ne (Ne.symm hj)] at e2
      rw [put_ne hj, put_ne hj]
      exact o.slot j ov s e1 e2
  · rw [List.length_set] at hj
    by_cases hji : j = i
    · subst hji; rw [put_same, put_same]; exact ⟨rfl, rfl⟩
    · rw [put_ne hji, put_ne hji]; exact o.nil j hj
  · exact o.sep j l a (put_mem ha).2 (put_mem hb).2
  · obtain ⟨h1, h2⟩ := put_mem ha
    rw [put_ne h1]
    exact o.mine j a h2
/-- .. and filled -/
theorem OkW.fill (o : OkW Z σ ρ H foot own) {i : Nat} {v : V} {k : Own} {d : D} {as ow : List Addr} (hi : ρ[i]? = some .un) (hv : σ[i]? = some (some v)) (r : DRep Z.w Z.K H (k != .fr) v d as)
    (h1 : Shr Z own as) (hs : ∀ a ∈ ow, a ∈ as ∧ (a ∈ Z.Lio ∨ Z.He a = none)) (hf : ∀ j, Off (foot j) ow) (h3 : KOwn Z.ia Z.w Z.K H v d as ow k) : OkW Z σ (ρ.set i (.vl k d)) H (put foot i as) (put own i ow) := by
  have hl := lt_of_get hi
  refine ⟨by simpa using o.len, fun j ov s e1 e2 => ?_, fun j hj => ?_, fun j l a ha hb => ?_, fun j a ha => ?_, o.keep, o.io, o.oth, fun j e => o.lk_set e (by simp)⟩
  · by_cases hj : j = i
    · subst hj
      rw [List.getElem?_set_self hl] at e2
      cases e2
      rw [put_same, put_same]
      rw [hv] at e1; cases e1
      exact ⟨v, rfl, r, h3, h1.2⟩
    · rw [List.getElem?_set_ne (Ne.symm hj)] at e2
      rw [put_ne hj, put_ne hj]
      exact o.slot j ov s e1 e2
  · rw [List.length_set] at hj
    rw [put_ne (by omega), put_ne (by omega)]
    exact o.nil j hj
  · by_cases hj : j = i
    · by_cases hl' : l = i
      · rw [hj, hl']
      · rw [hj, put_same] at ha
        rw [put_ne hl'] at hb
        exact absurd hb (h1.1 a ha l)
    · rw [put_ne hj] at ha
      by_cases hl' : l = i
      · rw [hl', put_same] at hb
        exact absurd hb (hf j a ha)
      · rw [put_ne hl'] at hb
        exact o.sep j l a ha hb
  · by_cases hj : j = i
    · subst hj
      rw [put_same] at ha ⊢
      exact hs a ha
    · rw [put_ne hj] at ha ⊢
      exact o.mine j a ha
/-- an empty slot's value is any -/
theorem OkW.sset (o : OkW Z σ ρ H foot own) {i : Nat} (hi : ρ[i]? = some .un) (x : Option V) : OkW Z (σ.set i x) ρ H foot own := by
  refine ⟨by simpa using o.len, fun j ov s e1 e2 => ?_, o.nil, o.sep, o.mine, o.keep, o.io, o.oth, fun j e => by
    by_cases hj : j = i
    · subst hj; rw [hi] at e; cases e
    · rw [List.getElem?_set_ne (Ne.symm hj)]; exact o.lk j e⟩
  by_cases hj : j = i
  · subst hj
    rw [hi] at e2; cases e2
    have hl : j < σ.length := by rw [o.len]; exact lt_of_get hi
    have q := o.slot j _ .un (List.getElem?_eq_getElem hl) hi
    exact q
  · rw [List.getElem?_set_ne (Ne.symm hj)] at e1
    exact o.slot j ov s e1 e2
theorem set_set_same {α : Type} {l : List α} {i : Nat} {x y : α} : (l.set i x).set i y = l.set i y := by simp
/-- the last thing goes to a slot -/
theorem Ok.store {v : V} {k : Own} {d : D} (o : Ok Z (σ ++ [some v]) (ρ ++ [.vl k d]) H) {i : Nat} (hi : i < ρ.length) : Ok Z (σ.set i (some v)) (ρ.set i (.vl k d)) H := by
  obtain ⟨foot, own, q⟩ := o
  obtain ⟨v', e, r, ko, hb, sh⟩ := q.last
  cases e
  have hl : σ.length = ρ.length := by have := q.len; simpa using this
  have q1 := q.pop.take i
  have hu : (ρ.set i .un)[i]? = some .un := by rw [List.getElem?_set_self hi]
  have q2 := q1.sset hu (some v)
  have hm : ∀ a ∈ own ρ.length, a ∈ foot ρ.length ∧ (a ∈ Z.Lio ∨ Z.He a = none) := fun a ha => q.mine _ a ha
  have q3 := q2.fill (i := i) (v := v) (k := k) (d := d) hu (by rw [List.getElem?_set_self (by rw [hl]; exact hi)]) r (sh.less put_less) hm (fun j a ha hb' => by
    obtain ⟨_, ha⟩ := put_mem ha
    obtain ⟨hj, ha⟩ := put_mem ha
    exact hj (q.sep j _ a ha hb')) ko
  rw [set_set_same] at q3
  exact ⟨_, _, q3⟩
/-- a slot's thing is moved to the end -/
theorem Ok.hide {i : Nat} {k : Own} {d : D} (o : Ok Z σ ρ H) (h : ρ[i]? = some (.vl k d)) : ∃ v, σ[i]? = some (some v) ∧ Ok Z (σ ++ [some v]) (ρ.set i .un ++ [.vl k d]) H := by
  obtain ⟨foot, own, q⟩ := o
  obtain ⟨v, e, r, ko, hb⟩ := q.at h
  have q1 := q.take i
  refine ⟨v, e, ?_⟩
  have hl : (ρ.set i .un).length = ρ.length := List.length_set
  refine ⟨_, _, q1.push (v := v) (k := k) (d := d) (as := foot i) (ow := own i) r ⟨fun a ha j hb' => ?_, hb⟩ (fun a ha => q.mine i a ha) (fun j a ha hb' => ?_) ko⟩
  · obtain ⟨hj, hb'⟩ := put_mem hb'
    exact hj (q.sep i j a ha hb').symm
  · obtain ⟨hj, ha⟩ := put_mem ha
    exact hj (q.sep j i a ha hb')
/-- .. and back -/
theorem Ok.unhide {i : Nat} {v : V} {k : Own} {d : D} (o : Ok Z (σ ++ [some v]) (ρ ++ [.vl k d]) H) (hi : i < ρ.length) (hv : σ[i]? = some (some v)) : Ok Z σ (ρ.set i (.vl k d)) H := by
  have := o.store hi
  have e : σ.set i (some v) = σ := by
    apply List.ext_getElem?
    intro j
    by_cases hj : j = i
    · subst hj; rw [List.getElem?_set_self (lt_of_get hv), hv]
    · rw [List.getElem?_set_ne (Ne.symm hj)]
  rw [e] at this
  exact this
/-- the top of a slot's thing is changed: the list at a, its items now ds' -/
theorem OkW.change (o : OkW Z σ ρ H foot own) {i : Nat} {k k' : Own} {d d' : D} {v : V} {a : Addr} {as' asY : List Addr} {x : HO} (h : ρ[i]? = some (.vl k d)) (hv : σ[i]? = some (some v)) (ev : v = .ref a) (ef : foot i = a :: as') (na : a ∉ as') (hk : a ∈ own i) (hoa : OwnA H a)
    (hx : OwnA (upd H a x) a)
    (as2 ow2 : List Addr) (r : DRep Z.w Z.K (upd H a x) (k' != .fr) v d' (a :: as2)) (h2 : ∀ b ∈ as2, b ∈ as' ∨ b ∈ asY) (hY : Shr Z own asY) (ho : ∀ b ∈ ow2, b ∈ a :: as2 ∧ (b ∈ own i ∨ ((b ∈ Z.Lio ∨ Z.He b = none) ∧ ∀ j, b ∉ foot j))) (hn : KOwn Z.ia Z.w Z.K (upd H a x) v d' (a :: as2) ow2 k') :
    Ok Z σ (ρ.set i (.vl k' d')) (upd H a x) := by
  have q1 := o.take i
  have kb : KeepBut [a] H (upd H a x) := KeepBut.at
  have hoff : ∀ j, Off (put foot i [] j) [a] := fun j b hb hba => by
    have e : b = a := by simpa using hba
    subst e
    obtain ⟨hj, hb⟩ := put_mem hb
    exact hj (o.sep j i b hb hk)
  have q2 := q1.heap kb (fun b hb => by have e : b = a := by simpa using hb
                                        rw [e]; exact hoa) hoff (fun b hb => by
    have e : b = a := by simpa using hb
    rw [e]; exact (o.mine i a hk).2) (fun b _ hb => by
    have e : b = a := by simpa using hb
    rw [e]; exact hx)
  obtain ⟨v', e', _, _, hB⟩ := o.at h
  rw [hv] at e'; cases e'
  have hu : (ρ.set i .un)[i]? = some .un := by rw [List.getElem?_set_self (lt_of_get h)]
  have hAs : ∀ b ∈ a :: as2, ∀ j, j ≠ i → b ∉ own j := fun b hb j hj hbj => by
    rcases List.mem_cons.mp hb with rfl | hb
    · exact hj (o.sep i j b (by rw [ef]; simp) hbj).symm
    · rcases h2 b hb with hb | hb
      · exact hj (o.sep i j b (by rw [ef]; exact List.mem_cons_of_mem _ hb) hbj).symm
      · exact hY.1 b hb j hbj
  have hBs : Off (a :: as2) Z.B := fun b hb => by
    rcases List.mem_cons.mp hb with rfl | hb
    · exact hB b (by rw [ef]; simp)
    · rcases h2 b hb with hb | hb
      · exact hB b (by rw [ef]; exact List.mem_cons_of_mem _ hb)
      · exact hY.2 b hb
  have q3 := q2.fill (i := i) (v := v) (k := k') (d := d') (as := a :: as2) (ow := ow2) hu hv r ⟨fun b hb j hbj => by
      obtain ⟨hj, hbj⟩ := put_mem hbj
      exact hAs b hb j hj hbj, hBs⟩ (fun b hb => by
      obtain ⟨g1, g2⟩ := ho b hb
      exact ⟨g1, g2.elim (fun z => (o.mine i b z).2) (·.1)⟩) (fun j b hb hbo => by
      obtain ⟨hj, hb⟩ := put_mem hb
      rcases (ho b hbo).2 with z | z
      · exact hj (o.sep j i b hb z)
      · exact z.2 j hb) hn
  rw [set_set_same] at q3
  exact ⟨_, _, q3⟩
end
end TH
end
section
set_option Elab.async false
set_option linter.all false
set_option maxRecDepth 100000
namespace TH
open PySem PySem.Spec PyProof.Rows L2

section
variable {Z : Cf} {σ : L2.St} {ρ : Ev} {H H' : Hp} {foot own : Nat → List Addr}
/-- a list in a slot that may be changed -/
structure SlotL (Z : Cf) (H : Hp) (foot own : Nat → List Addr) (i : Nat) (k : Own) (v : V) (ds : List D) (a : Addr) (vs : List V) (as' : List Addr) : Prop where
  ref : v = .ref a
  foot : foot i = a :: as'
  na : a ∉ as'
  mem : a ∈ own i
  lst : H a = some (.lst vs)
  all : DAll Z.w Z.K H (k != .fr) vs ds as'
  fr : k = .fr → own i = a :: as' ∧ (a :: as').Nodup
  nfr : k ≠ .fr → own i = [a]
theorem OkW.slotL (o : OkW Z σ ρ H foot own) {i : Nat} {k : Own} {ds : List D} {v : V} (h : ρ[i]? = some (.vl k (.list ds))) (hv : σ[i]? = some (some v)) (hk : k ≠ .sh) : ∃ a vs as', SlotL Z H foot own i k v ds a vs as' := by
  obtain ⟨v', e, r, ko, _⟩ := o.at h
  rw [hv] at e; cases e
  have box : (TRep Z.w Z.K H v (.list ds) (foot i) ∧ ∃ a, v = .ref a ∧ own i = [a]) → k ≠ .fr → ∃ a vs as', SlotL Z H foot own i k v ds a vs as' := fun ⟨t, b, q4, q5⟩ hf => by
    have ek : (k != .fr) = true := by cases k <;> first | rfl | exact absurd rfl hf
    obtain ⟨a, as', q1, q2, q3, t | ⟨_, _, _, t, _⟩⟩ := t
    · obtain ⟨vs, ds', e, q, r⟩ := t
      cases e
      rw [q1] at q4; cases q4
      exact ⟨b, vs, as', q1, q2, q3, by rw [q5]; simp, q, by rw [ek]; exact r, fun z => absurd z hf, fun _ => q5⟩
    · cases t
  cases k with
  | sh => exact absurd rfl hk
  | top => exact box ko (by decide)
  | io => exact box ko.1 (by decide)
  | fr =>
    obtain ⟨q1, q2⟩ := ko
    have r : DRep Z.w Z.K H false v (.list ds) (foot i) := r
    generalize hf : foot i = F at r q1 q2
    cases r with
    | list e r => exact ⟨_, _, _, rfl, hf, (List.nodup_cons.mp q2).1, by rw [q1]; simp, e, r, fun _ => ⟨q1, q2⟩, fun z => absurd rfl z⟩
    | listF z => cases z
/-- the list's items are others, some of them others' parts -/
theorem SlotL.reSh {i : Nat} {k k' : Own} {v : V} {ds ds' : List D} {a : Addr} {vs vs' : List V} {as' as2 asY : List Addr} (l : SlotL Z H foot own i k v ds a vs as') (o : OkW Z σ ρ H foot own) (h : ρ[i]? = some (.vl k (.list ds))) (hv : σ[i]? = some (some v)) (hk : k ≠ .sh) (ek : k' = if k = .fr then .top else k)
    (r : DAll Z.w Z.K H true vs' ds' as2) (h2 : ∀ b ∈ as2, b ∈ as' ∨ b ∈ asY) (hY : Shr Z own asY) : Ok Z σ (ρ.set i (.vl k' (.list ds'))) (upd H a (.lst vs')) := by
  have na2 : a ∉ as2 := fun z => (h2 a z).elim l.na fun z => hY.1 a z i l.mem
  have kf : k' ≠ .fr := by rw [ek]; cases k <;> simp
  have ht : (k' != .fr) = true := by cases k' <;> first | rfl | exact absurd rfl kf
  have ho : OwnA H a := .inl ⟨_, l.lst⟩
  have hx : OwnA (upd H a (.lst vs')) a := .inl ⟨_, upd_same⟩
  have r' : DAll Z.w Z.K (upd H a (.lst vs')) true vs' ds' as2 := DAll.keep KeepBut.at (fun b hb => (show b = a by simpa using hb) ▸ ho) r fun b hb hba => by
    have e : b = a := by simpa using hba
    rw [e] at hb; exact na2 hb
  have ht2 : (k' != .fr) = true := ht
  have ht : TRep Z.w Z.K (upd H a (.lst vs')) v (.list ds') (a :: as2) := ⟨a, as2, l.ref, rfl, na2, .inl ⟨vs', ds', rfl, upd_same, r'⟩⟩
  refine o.change (asY := asY) h hv l.ref l.foot l.na l.mem ho hx as2 [a] ?_ h2 hY (fun b hb => ?_) ?_
  · rw [ht2]
    exact ht.rep
  · have e : b = a := by simpa using hb
    subst e
    exact ⟨by simp, .inl l.mem⟩
  · rw [ek]
    cases k with
    | sh => exact absurd rfl hk
    | fr => exact ⟨ht, a, l.ref, rfl⟩
    | top => exact ⟨ht, a, l.ref, rfl⟩
    | io => exact ⟨⟨ht, a, l.ref, rfl⟩, by
      obtain ⟨v', e', _, ko, _⟩ := o.at h
      rw [hv] at e'; cases e'
      exact ko.2⟩
/-- .. all wholly own -/
theorem SlotL.reFr {i : Nat} {v : V} {ds ds' : List D} {a : Addr} {vs vs' : List V} {as' as2 asY : List Addr} (l : SlotL Z H foot own i .fr v ds a vs as') (o : OkW Z σ ρ H foot own) (h : ρ[i]? = some (.vl .fr (.list ds))) (hv : σ[i]? = some (some v))
    (r : DAll Z.w Z.K H false vs' ds' as2) (nd : as2.Nodup) (h2 : ∀ b ∈ as2, b ∈ as' ∨ b ∈ asY) (hY : Shr Z own asY) (hF : ∀ b ∈ asY, (b ∈ Z.Lio ∨ Z.He b = none) ∧ ∀ j, b ∉ foot j) : Ok Z σ (ρ.set i (.vl .fr (.list ds'))) (upd H a (.lst vs')) := by
  have na2 : a ∉ as2 := fun z => (h2 a z).elim l.na fun z => hY.1 a z i l.mem
  have ho : OwnA H a := .inl ⟨_, l.lst⟩
  have hx : OwnA (upd H a (.lst vs')) a := .inl ⟨_, upd_same⟩
  refine o.change (asY := asY) (k' := .fr) h hv l.ref l.foot l.na l.mem ho hx as2 (a :: as2) ?_ h2 hY (fun b hb => ⟨hb, ?_⟩) ?_
  · rw [l.ref]
    exact .list upd_same (DAll.keep KeepBut.at (fun b hb => by have e : b = a := by simpa using hb
                                                               rw [e]; exact ho) r fun b hb hba => by
      have e : b = a := by simpa using hba
      rw [e] at hb; exact na2 hb)
  · rcases List.mem_cons.mp hb with rfl | hb
    · exact .inl l.mem
    · rcases h2 b hb with z | z
      · exact .inl (by rw [(l.fr rfl).1]; exact List.mem_cons_of_mem _ z)
      · exact .inr (hF b z)
  · exact ⟨rfl, List.nodup_cons.mpr ⟨na2, nd⟩⟩
end
end TH
end
section
set_option Elab.async false
set_option linter.all false
set_option maxRecDepth 100000
namespace TH
open PySem PySem.Spec PyProof.Rows L2

section
variable {Z : Cf} {σ : L2.St} {ρ : Ev} {H H' : Hp} {foot own : Nat → List Addr}
/-- a changing method's last step, by values: x the thing of slot i -/
def MutT (Z : Cf) (m : M) (i : Nat) : V → List V → Hp → VK → Prop := fun x vs H Q => ∃ (Y : L2.St) (R : Ev) (k : Own) (d : D) (dks : List (D × Own)) (a : D) (ka : Own) (d' : D) (wh : Bool), Ok Z (Y ++ vs.map some) (R ++ dks.map fun x => .vl x.2 x.1) H ∧ vs.length = dks.length ∧
  Y[i]? = some (some x) ∧ R[i]? = some (.vl k d) ∧ k ≠ .sh ∧ mutate m d dks = some (a, ka, d', wh) ∧ ∀ v H', Ok Z (Y ++ [some v]) (R.set i (.vl (mutK k wh) d') ++ [.vl ka a]) H' → Q v H'
theorem mutK_eq {k : Own} {wh : Bool} (h : ¬ (k = .fr ∧ wh = true)) (hk : k ≠ .sh) : mutK k wh = if k = .fr then .top else k := by
  cases k <;> cases wh <;> first | rfl | exact absurd ⟨rfl, rfl⟩ h | exact absurd rfl hk
theorem drep_up {w : World} {K : PySem.W.Frag} {H : Hp} {k : Own} {vs : List V} {ds : List D} {as : List Addr} (r : DAll w K H (k != .fr) vs ds as) : DAll w K H true vs ds as := r.all
/-- one value more: as the list's own, or as any -/
theorem one_arg {x : V} {y : V} {yd : D} {ky : Own} {Y : L2.St} {R : Ev} {i : Nat} {k : Own} {ds : List D} (o : Ok Z (Y ++ [some y]) (R ++ [.vl ky yd]) H) (hv : Y[i]? = some (some x)) (h : R[i]? = some (.vl k (.list ds))) (hk : k ≠ .sh) :
    ∃ foot own a vs as' asY, OkW Z Y R H foot own ∧ SlotL Z H foot own i k x ds a vs as' ∧ Shr Z own asY ∧ DRep Z.w Z.K H true y yd asY ∧
      ((ky == .fr || imm yd) = true → DRep Z.w Z.K H false y yd asY ∧ asY.Nodup ∧ ∀ b ∈ asY, (b ∈ Z.Lio ∨ Z.He b = none) ∧ ∀ j, b ∉ foot j) := by
  obtain ⟨foot, own, q⟩ := o
  by_cases hf : ky = .fr
  · subst hf
    obtain ⟨f, w, as, q1, q2, q3, q4, q5⟩ := OkW.useFr [y] [yd] (Y := Y) (R := R) rfl (by simpa using q)
    obtain ⟨a, vs, as', l⟩ := q1.slotL h hv hk
    cases q2 with
    | cons r rs =>
      cases rs
      exact ⟨f, w, a, vs, as', _, q1, l, q3.sub (by simp), r.all, fun _ => ⟨r, by simpa using q4, fun b hb => q5 b (by simpa using hb)⟩⟩
  · obtain ⟨f, w, as, q1, q2, q3⟩ := OkW.useSh [y] [(yd, ky)] (Y := Y) (R := R) rfl (by simpa using q)
    obtain ⟨a, vs, as', l⟩ := q1.slotL h hv hk
    cases q2 with
    | @cons _ _ _ _ as0 _ r rs =>
      cases rs
      refine ⟨f, w, a, vs, as', as0, q1, l, q3.sub (by simp), r, fun z => ?_⟩
      have hi : imm yd = true := by
        rcases Bool.or_eq_true_iff.mp z with z | z
        · exact absurd (by simpa using z) hf
        · exact z
      have r : DRep Z.w Z.K H true y yd as0 := r
      have hn := r.imm_nil hi
      subst hn
      exact ⟨r.imm_any false hi, .nil, fun b hb => by simp at hb⟩
theorem DAll.one {w : World} {K : PySem.W.Frag} {H : Hp} {c : Bool} {y : V} {yd : D} {as : List Addr} (r : DRep w K H c y yd as) : DAll w K H c [y] [yd] as := by
  have := DAll.cons r (DAll.nil (w := w) (K := K) (H := H) (c := c))
  simpa using this
theorem append_ok {i : Nat} {x y : V} {yd : D} {ky k : Own} {ds : List D} {Y : L2.St} {R : Ev} (o : Ok Z (Y ++ [some y]) (R ++ [.vl ky yd]) H) (hx : Y[i]? = some (some x)) (hd : R[i]? = some (.vl k (.list ds))) (hk : k ≠ .sh) :
    ∃ b us, x = .ref b ∧ H b = some (.lst us) ∧ us.length = ds.length ∧ Ok Z Y (R.set i (.vl (mutK k (ky == .fr || imm yd)) (.list (ds ++ [yd])))) (upd H b (.lst (us ++ [y]))) := by
  obtain ⟨foot, own, b, us, as', asY, q, l, sh, ry, rf⟩ := one_arg o hx hd hk
  refine ⟨b, us, l.ref, l.lst, l.all.length, ?_⟩
  by_cases hw : k = .fr ∧ (ky == .fr || imm yd) = true
  · obtain ⟨rfl, hky⟩ := hw
    obtain ⟨rf, nd, hF⟩ := rf hky
    obtain ⟨fo, nf⟩ := l.fr rfl
    have em : mutK .fr (ky == .fr || imm yd) = .fr := by rw [hky]; rfl
    rw [em]
    exact l.reFr q hd hx (ds' := ds ++ [yd]) (vs' := us ++ [y]) (as2 := as' ++ asY) (asY := asY) (DAll.append l.all (.one rf)) (List.nodup_append.mpr ⟨(List.nodup_cons.mp nf).2, nd, fun c hc d hd e => (hF d hd).2 i (by rw [l.foot, ← e]; exact List.mem_cons_of_mem _ hc)⟩)
      (fun c hc => List.mem_append.mp hc) sh hF
  · exact l.reSh q hd hx hk (mutK_eq hw hk) (ds' := ds ++ [yd]) (vs' := us ++ [y]) (as2 := as' ++ asY) (asY := asY) (DAll.append (drep_up l.all) (.one ry)) (fun c hc => List.mem_append.mp hc) sh
theorem mut_append {i : Nat} {x : V} {vs : List V} {Q : VK} (h : MutT Z .append i x vs H Q) : rAppend x vs H Q := by
  obtain ⟨Y, R, k, d, dks, a, ka, d', wh, o, hl, hx, hd, hk, e, fin⟩ := h
  cases d <;> try (simp [mutate] at e; done)
  rename_i ds
  match dks, vs, hl with
  | [], _, _ => simp [mutate] at e
  | [(yd, ky)], [y], _ =>
    simp only [mutate] at e
    obtain ⟨hc, e⟩ := some_if e
    have hc : ds.length < sizeLine := of_decide_eq_true hc
    injection e with e
    injection e with e1 e
    injection e with e2 e
    injection e with e3 e4
    subst e1 e2 e3 e4
    obtain ⟨b, us, q1, q2, q3, ok⟩ := append_ok (i := i) (k := k) (by simpa using o) hx hd hk
    refine ⟨b, us, y, q1, rfl, q2, by omega, ?_⟩
    obtain ⟨_, _, ok⟩ := ok
    exact fin .non _ (ok.pushAtom .none)
  | _ :: _ :: _, _, _ => simp [mutate] at e
/-- an item is another -/
theorem DAll.set {w : World} {K : PySem.W.Frag} {H : Hp} {c : Bool} {y : V} {yd : D} {bs : List Addr} (r : DRep w K H c y yd bs) : ∀ {vs : List V} {ds : List D} {as : List Addr} (j : Nat), DAll w K H c vs ds as → j < ds.length →
    ∃ pre old post, as = pre ++ old ++ post ∧ DAll w K H c (vs.set j y) (ds.set j yd) (pre ++ bs ++ post)
  | _, _, _, _, .nil, h => by simp at h
  | _, _, _, 0, .cons (as := as) (bs := cs) r1 rs, _ => ⟨[], as, cs, by simp, by simpa using DAll.cons r rs⟩
  | _, _, _, j + 1, .cons (as := as) r1 rs, h => by
    obtain ⟨pre, old, post, e, q⟩ := DAll.set r j rs (by simpa using h)
    exact ⟨as ++ pre, old, post, by rw [e]; simp, by simpa using DAll.cons r1 q⟩
theorem mut_setL {n : Nat} {x iv y : V} {ds : List D} {yd : D} {ky k : Own} {ix : Int} {j : Nat} {Y : L2.St} {R : Ev} {Q : Hp → Prop} (o : Ok Z (Y ++ [some y]) (R ++ [.vl ky yd]) H) (hx : Y[n]? = some (some x)) (hd : R[n]? = some (.vl k (.list ds))) (hk : k ≠ .sh)
    (ej : ixAt ds.length ix = some j) (ei : iv = .int ix) (fin : ∀ H', Ok Z Y (R.set n (.vl (mutK k (ky == .fr || imm yd)) (.list (ds.set j yd)))) H' → Q H') : rSetL x iv y H Q := by
  obtain ⟨foot, own, b, us, as', asY, q, l, sh, ry, rf⟩ := one_arg (i := n) (k := k) o hx hd hk
  have hlen := l.all.length
  obtain ⟨_, hjl, _, _⟩ := ixN_seq (show L2.ixN ds.length ix = some j from ej)
  refine ⟨b, us, ix, j, l.ref, ei, l.lst, by rw [hlen]; exact ej, ?_⟩
  refine fin _ ?_
  by_cases hw : k = .fr ∧ (ky == .fr || imm yd) = true
  · obtain ⟨rfl, hky⟩ := hw
    obtain ⟨rf, nd, hF⟩ := rf hky
    obtain ⟨fo, nf⟩ := l.fr rfl
    obtain ⟨pre, old, post, ea, r2⟩ := DAll.set rf j l.all hjl
    have nf2 := (List.nodup_cons.mp nf).2
    rw [ea] at nf2
    have hsub : ∀ c ∈ pre ++ asY ++ post, c ∈ as' ∨ c ∈ asY := fun c hc => by
      rw [ea]
      simp only [List.mem_append] at hc ⊢
      rcases hc with (h | h) | h
      · exact .inl (.inl (.inl h))
      · exact .inr h
      · exact .inl (.inr h)
    have hdis : ∀ c ∈ as', c ∉ asY := fun c hc hd' => (hF c hd').2 n (by rw [l.foot]; exact List.mem_cons_of_mem _ hc)
    have nd2 : (pre ++ asY ++ post).Nodup := by
      rw [List.nodup_append] at nf2
      obtain ⟨n1, n2, n3⟩ := nf2
      rw [List.nodup_append] at n1
      rw [List.nodup_append, List.nodup_append]
      refine ⟨⟨n1.1, nd, fun a ha b hb e => hdis a (by rw [ea]; simp [ha]) (e ▸ hb)⟩, n2, fun a ha b hb e => ?_⟩
      rcases List.mem_append.mp ha with ha | ha
      · exact n3 a (by simp [ha]) b hb e
      · exact hdis b (by rw [ea]; simp [hb]) (e ▸ ha)
    have ok := l.reFr q hd hx (as2 := pre ++ asY ++ post) (asY := asY) r2 nd2 hsub sh hF
    have em : mutK .fr (ky == .fr || imm yd) = .fr := by rw [hky]; rfl
    rw [em]
    exact ok
  · obtain ⟨pre, old, post, ea, r2⟩ := DAll.set ry j (drep_up l.all) hjl
    exact l.reSh q hd hx hk (mutK_eq hw hk) (as2 := pre ++ asY ++ post) (asY := asY) r2 (fun c hc => by
      rw [ea]
      simp only [List.mem_append] at hc ⊢
      rcases hc with (h | h) | h
      · exact .inl (.inl (.inl h))
      · exact .inr h
      · exact .inl (.inr h)) sh
end
end TH
end
section
set_option Elab.async false
set_option linter.all false
set_option maxRecDepth 100000
namespace TH
open PySem PySem.Spec PyProof.Rows L2

section
variable {Z : Cf} {H : Hp}
theorem all_fr {dks : List (D × Own)} (h : (dks.all fun x => x.2 == .fr) = true) : dks.map (fun x => Slot.vl x.2 x.1) = (dks.map (·.1)).map fun d => .vl .fr d := by
  rw [List.map_map]
  refine List.map_congr_left fun x hx => ?_
  have := List.all_eq_true.mp h x hx
  have e : x.2 = .fr := by simpa using this
  simp [e]
theorem fresh_own {Y : L2.St} {R : Ev} {foot own : Nat → List Addr} (o : OkW Z Y R H foot own) {p : Addr} (hp : H p = none) : (p ∈ Z.Lio ∨ Z.He p = none) ∧ (∀ j, p ∉ foot j) ∧ (∀ j, p ∉ own j) := by
  have h2 : ∀ j, p ∉ foot j := fun j hj => (o.footOwn hj).some hp
  refine ⟨.inr ?_, h2, fun j hj => h2 j (o.mine j p hj).1⟩
  cases q : Z.He p with
  | none => rfl
  | some y =>
    by_cases z : p ∈ Z.Lio
    · exact absurd hp (o.io p z).some
    · have := o.keep p y q z
      rw [hp] at this; cases this
theorem disp_tup {vs : List V} {Q : VK} (h : DispT Z .tup vs H Q) : vs.length ≤ sizeLine ∧ ∀ p, H p = none → Q (.ref p) (upd H p (.tup vs)) := by
  obtain ⟨Y, R, dks, d, k, hl, o, e, fin⟩ := h
  simp only [prim] at e
  obtain ⟨hc, e⟩ := some_if e
  refine ⟨by rw [hl]; exact line_le hc, fun p hp => ?_⟩
  injection e with e
  injection e with e1 e2
  subst e1 e2
  obtain ⟨foot, own, o⟩ := o
  by_cases ha : (dks.all fun x => x.2 == .fr) = true
  · rw [if_pos ha] at fin
    rw [all_fr ha] at o
    obtain ⟨f, w, as, q1, q2, q3, q4, q5⟩ := OkW.useFr vs (dks.map (·.1)) (by simpa using hl) o
    refine fin _ _ ⟨_, _, (q1.alloc hp).push (k := .fr) (as := as) (ow := as) (.tup (SqT.of upd_same) (DAll.keep (S := []) (KeepBut.new hp) (by simp) q2 (fun _ _ z => by simp at z))) q3 (fun a ha => ⟨ha, (q5 a ha).1⟩) (fun j a hj ha => (q5 a ha).2 j hj) ⟨rfl, q4⟩⟩
  · rw [if_neg ha] at fin
    obtain ⟨f, w, as, q1, q2, q3⟩ := OkW.useSh vs dks hl o
    exact fin _ _ ((q1.alloc hp).pushSh (.tup (SqT.of upd_same) (DAll.keep (S := []) (KeepBut.new hp) (by simp) q2 (fun _ _ z => by simp at z))) q3)
theorem disp_lst {vs : List V} {Q : VK} (h : DispT Z .lst vs H Q) : vs.length ≤ sizeLine ∧ ∀ p, H p = none → Q (.ref p) (upd H p (.lst vs)) := by
  obtain ⟨Y, R, dks, d, k, hl, o, e, fin⟩ := h
  simp only [prim] at e
  obtain ⟨hc, e⟩ := some_if e
  refine ⟨by rw [hl]; exact line_le hc, fun p hp => ?_⟩
  injection e with e
  injection e with e1 e2
  subst e1 e2
  obtain ⟨foot, own, o⟩ := o
  by_cases ha : (dks.all fun x => x.2 == .fr) = true
  · rw [ha] at fin
    have ek : mkK true (.list (dks.map (·.1))) = .fr := rfl
    rw [ek] at fin
    rw [all_fr ha] at o
    obtain ⟨f, w, as, q1, q2, q3, q4, q5⟩ := OkW.useFr vs (dks.map (·.1)) (by simpa using hl) o
    obtain ⟨g1, g2, g3⟩ := fresh_own q1 hp
    have np : p ∉ as := fun z => (q2.own p z).some hp
    refine fin _ _ ⟨_, _, (q1.alloc hp).push (k := .fr) (as := p :: as) (ow := p :: as) (.list upd_same (DAll.keep (S := []) (KeepBut.new hp) (by simp) q2 (fun _ _ z => by simp at z))) ⟨fun a ha j => ?_, fun a ha => ?_⟩ (fun a ha => ⟨ha, ?_⟩) (fun j a hj ha => ?_) ⟨rfl, List.nodup_cons.mpr ⟨np, q4⟩⟩⟩
    · rcases List.mem_cons.mp ha with rfl | ha
      · exact g3 j
      · exact q3.1 a ha j
    · rcases List.mem_cons.mp ha with rfl | ha
      · exact q1.notB hp
      · exact q3.2 a ha
    · rcases List.mem_cons.mp ha with rfl | ha
      · exact g1
      · exact (q5 a ha).1
    · rcases List.mem_cons.mp ha with rfl | ha
      · exact g2 j hj
      · exact (q5 a ha).2 j hj
  · have ha : (dks.all fun x => x.2 == .fr) = false := by simpa using ha
    rw [ha] at fin
    obtain ⟨f, w, as, q1, q2, q3⟩ := OkW.useSh vs dks hl o
    exact give_list (d := .list (dks.map (·.1))) (k := mkK false (.list (dks.map (·.1)))) q1 rfl q2 q3 fin hp
end
end TH
end
section
set_option Elab.async false
set_option linter.all false
set_option maxRecDepth 100000
namespace TH
open PySem PySem.Spec PyProof.Rows L2

/-! another entry: what is own now may be changed, what is hidden is others' -/
def Cf.sub (Z : Cf) (H1 : Hp) (L P : List Addr) (hid : Nat → Option V) : Cf := ⟨Z.w, Z.K, H1, L, P ++ Z.B, hid, Z.ia⟩
structure Back (Z : Cf) (H1 : Hp) (L : List Addr) : Prop where
  keep : KeepBut Z.Lio Z.He H1
  io : ∀ a ∈ Z.Lio, OwnA H1 a
  own : ∀ a ∈ L, a ∈ Z.Lio ∨ Z.He a = none
  oth : ∀ b ∈ Z.B, Z.He b ≠ none ∧ b ∉ Z.Lio
section
variable {Z : Cf} {σ : L2.St} {ρ : Ev} {H H1 : Hp} {foot own : Nat → List Addr} {L P : List Addr} {hid : Nat → Option V}
theorem OkW.rebase (o : OkW Z σ ρ H foot own) (hP : ∀ a ∈ P, H a ≠ none ∧ ∀ j, a ∉ foot j) (hh : ∀ i : Nat, ρ[i]? = some .lk → σ[i]? = some (hid i)) :
    ∃ L, OkW (Z.sub H L P hid) σ ρ H foot own ∧ Back Z H L ∧ (∀ a ∈ L, ∃ j, a ∈ own j) ∧ ∀ j, ∀ a ∈ own j, a ∈ L := by
  have hin : ∀ j, ∀ a ∈ own j, a ∈ (List.range ρ.length).flatMap own := fun j a ha => by
    refine List.mem_flatMap.mpr ⟨j, List.mem_range.mpr ?_, ha⟩
    by_cases hj : j < ρ.length
    · exact hj
    · rw [(o.nil j (by omega)).2] at ha; simp at ha
  have hout : ∀ a ∈ (List.range ρ.length).flatMap own, ∃ j, a ∈ own j := fun a ha => by
    obtain ⟨j, _, h⟩ := List.mem_flatMap.mp ha
    exact ⟨j, h⟩
  refine ⟨(List.range ρ.length).flatMap own, ⟨o.len, fun i ov s e1 e2 => ?_, o.nil, o.sep, fun i a h => ⟨(o.mine i a h).1, .inl (hin i a h)⟩, KeepBut.refl, fun a ha => ?_, fun b hb => ?_, hh⟩, ⟨o.keep, o.io, fun a ha => ?_, o.oth⟩, hout, hin⟩
  · have h := o.slot i ov s e1 e2
    cases s with
    | un => exact h
    | lk => exact h
    | vl k d =>
      obtain ⟨v, q1, q2, q3, q4⟩ := h
      refine ⟨v, q1, q2, q3, fun a ha hb => ?_⟩
      rcases List.mem_append.mp hb with hb | hb
      · exact (hP a hb).2 i ha
      · exact q4 a ha hb
  · obtain ⟨j, h⟩ := hout a ha
    exact o.footOwn (o.mine j a h).1
  · have hb : b ∈ P ++ Z.B := hb
    rcases List.mem_append.mp hb with hb | hb
    · refine ⟨(hP b hb).1, fun z => ?_⟩
      obtain ⟨j, h⟩ := hout b z
      exact (hP b hb).2 j (o.mine j b h).1
    · refine ⟨fun z => o.notB z hb, fun z => ?_⟩
      obtain ⟨j, h⟩ := hout b z
      exact o.ownB h hb
  · obtain ⟨j, h⟩ := hout a ha
    exact (o.mine j a h).2
theorem OkW.back (o : OkW (Z.sub H1 L P hid) σ ρ H foot own) (b : Back Z H1 L) (hh : ∀ i : Nat, ρ[i]? = some .lk → σ[i]? = some (Z.hid i)) : OkW Z σ ρ H foot own := by
  have hk : KeepBut L H1 H := o.keep
  refine ⟨o.len, fun i ov s e1 e2 => ?_, o.nil, o.sep, fun i a h => ?_, fun a x e n => ?_, fun a ha => ?_, b.oth, hh⟩
  · have h := o.slot i ov s e1 e2
    cases s with
    | un => exact h
    | lk => exact h
    | vl k d =>
      obtain ⟨v, q1, q2, q3, q4⟩ := h
      exact ⟨v, q1, q2, q3, fun a ha hb => q4 a ha (List.mem_append_right _ hb)⟩
  · obtain ⟨q1, q2⟩ := o.mine i a h
    refine ⟨q1, ?_⟩
    rcases q2 with q2 | q2
    · exact b.own a q2
    · by_cases z : a ∈ Z.Lio
      · exact .inl z
      · refine .inr ?_
        cases e : Z.He a with
        | none => rfl
        | some y =>
          have := b.keep a y e z
          have q2 : H1 a = none := q2
          rw [q2] at this; cases this
  · refine hk a x (b.keep a x e n) fun z => ?_
    rcases b.own a z with q | q
    · exact n q
    · rw [q] at e; cases e
  · by_cases z : a ∈ L
    · exact o.io a z
    · exact (b.io a ha).keep hk z
end
/-! what is walked, while nothing of it changes -/
structure WalkOk (w : World) (K : PySem.W.Frag) (H1 : Hp) (L B : List Addr) (J : It) (items : List D) : Prop where
  stop : ∀ H i, KeepBut L H1 H → items.length ≤ i → J.stop i H
  go : ∀ (H : Hp) (i : Nat) (d : D), KeepBut L H1 H → items[i]? = some d → J.go i H ∧ ∀ x H', J.yld i H x H' → KeepBut [] H H' ∧ ∃ as, DRep w K H' true x d as ∧ ∀ a ∈ as, H1 a ≠ none ∧ a ∉ L ∧ a ∉ B
section
variable {w : World} {K : PySem.W.Frag} {H1 : Hp} {L B : List Addr}
theorem sql_stay (hL : ∀ x ∈ L, OwnA H1 x) {a : Addr} {vs : List V} (q : SqL K H1 a vs) (na : (∃ us, H1 a = some (.lst us)) → a ∉ L) {H : Hp} (k : KeepBut L H1 H) : SqL K H a vs := by
  rcases q with (q | ⟨o, q⟩) | q
  · exact .inl (.inl (k a _ q (na ⟨_, q⟩)))
  · exact .inl (.inr ⟨o, k a _ q fun z => (hL a z).not_frz q⟩)
  · exact .inr q
theorem sqt_stay (hL : ∀ x ∈ L, OwnA H1 x) {a : Addr} {vs : List V} (q : SqT K H1 a vs) {H : Hp} (k : KeepBut L H1 H) : SqT K H a vs := SqT.keep q k hL
theorem walk_list (hL : ∀ x ∈ L, OwnA H1 x) {a : Addr} {vs : List V} {ds : List D} {as : List Addr} (q : SqL K H1 a vs) (na : (∃ us, H1 a = some (.lst us)) → a ∉ L) (r : DAll w K H1 true vs ds as) (hs : ∀ x ∈ as, x ∉ L ∧ x ∉ B) : WalkOk w K H1 L B (Itl K a) ds where
  stop := fun H i k h => ⟨vs, sql_stay hL q na k, by rw [r.length]; exact h⟩
  go := fun H i d k e => by
    obtain ⟨v, bs, e1, e2, e3⟩ := r.get e
    refine ⟨⟨vs, v, sql_stay hL q na k, e1⟩, fun x H' ⟨y1, y2⟩ => ?_⟩
    subst y1
    have := y2 vs (sql_stay hL q na k)
    rw [e1] at this; cases this
    exact ⟨KeepBut.refl, bs, e2.keep k hL fun c hc => (hs c (e3 c hc)).1, fun c hc => ⟨(e2.own c hc).some, hs c (e3 c hc)⟩⟩
theorem walk_tup (hL : ∀ x ∈ L, OwnA H1 x) {a : Addr} {vs : List V} {ds : List D} {as : List Addr} (q : SqT K H1 a vs) (r : DAll w K H1 true vs ds as) (hs : ∀ x ∈ as, x ∉ L ∧ x ∉ B) : WalkOk w K H1 L B (Itt K a) ds where
  stop := fun H i k h => ⟨vs, sqt_stay hL q k, by rw [r.length]; exact h⟩
  go := fun H i d k e => by
    obtain ⟨v, bs, e1, e2, e3⟩ := r.get e
    refine ⟨⟨vs, v, sqt_stay hL q k, e1⟩, fun x H' ⟨y1, y2⟩ => ?_⟩
    subst y1
    have := y2 vs (sqt_stay hL q k)
    rw [e1] at this; cases this
    exact ⟨KeepBut.refl, bs, e2.keep k hL fun c hc => (hs c (e3 c hc)).1, fun c hc => ⟨(e2.own c hc).some, hs c (e3 c hc)⟩⟩
theorem walk_str {x : Str} : WalkOk w K H1 L B (Its x) (x.cps.toList.map fun c => .str ⟨#[c]⟩) where
  stop := fun H i k h => by
    show x.cps.size ≤ i
    simpa using h
  go := fun H i d k e => by
    have hi := lt_of_get e
    simp at hi
    refine ⟨hi, fun y H' ⟨y1, c, y2, y3⟩ => ?_⟩
    subst y1 y3
    rw [List.getElem?_map, Array.getElem?_toList, y2] at e
    cases e
    exact ⟨KeepBut.refl, [], .str _ (by rw [sizeLine_eq]; exact (by decide : 1 ≤ 16777216)), by simp⟩
theorem walk_rng {lo : Int} {n : Nat} : WalkOk w K H1 L B (Itr lo n) ((List.range n).map fun (k : Nat) => PyData.int (lo + (k : Int))) where
  stop := fun H i k h => by
    show n ≤ i
    simpa using h
  go := fun H i d k e => by
    have hi := lt_of_get e
    simp at hi
    refine ⟨hi, fun y H' ⟨y1, y2⟩ => ?_⟩
    subst y1 y2
    rw [List.getElem?_map, List.getElem?_range hi] at e
    cases e
    exact ⟨KeepBut.refl, [], .int _, by simp⟩
theorem zip_go {a b : Addr} {x y : V} {d1 d2 : D} {as bs : List Addr} {H : Hp} {T : Addr} (hL : ∀ x ∈ L, OwnA H1 x) (k : KeepBut L H1 H) (r1 : DRep w K H1 true x d1 as) (r2 : DRep w K H1 true y d2 bs) (h1 : ∀ c ∈ as, c ∉ L ∧ c ∉ B) (h2 : ∀ c ∈ bs, c ∉ L ∧ c ∉ B) (hT : H T = none) :
    KeepBut [] H (upd H T (.tup [x, y])) ∧ ∃ as, DRep w K (upd H T (.tup [x, y])) true (.ref T) (.tuple [d1, d2]) as ∧ ∀ a ∈ as, H1 a ≠ none ∧ a ∉ L ∧ a ∉ B := by
  refine ⟨KeepBut.new hT, as ++ bs, ?_, fun c hc => ?_⟩
  · have q1 := (r1.keep k hL fun c hc => (h1 c hc).1).keep (S := []) (KeepBut.new hT (o := .tup [x, y])) (by simp) (fun _ _ z => by simp at z)
    have q2 := (r2.keep k hL fun c hc => (h2 c hc).1).keep (S := []) (KeepBut.new hT (o := .tup [x, y])) (by simp) (fun _ _ z => by simp at z)
    have := DAll.cons q1 (DAll.one q2)
    exact .tup (SqT.of upd_same) this
  · rcases List.mem_append.mp hc with hc | hc
    · exact ⟨(r1.own c hc).some, h1 c hc⟩
    · exact ⟨(r2.own c hc).some, h2 c hc⟩
theorem zip_get {ds es : List D} {i : Nat} {d : D} (e : ((ds.zip es).map fun p => PyData.tuple [p.1, p.2])[i]? = some d) : ∃ d1 d2, ds[i]? = some d1 ∧ es[i]? = some d2 ∧ d = .tuple [d1, d2] := by
  rw [List.getElem?_map] at e
  obtain ⟨p, e1, rfl⟩ := Option.map_eq_some_iff.mp e
  obtain ⟨h1, h2⟩ := List.getElem?_zip_eq_some.mp e1
  exact ⟨p.1, p.2, h1, h2, rfl⟩
theorem walk_zip (hL : ∀ x ∈ L, OwnA H1 x) {a b : Addr} {vs us : List V} {ds es : List D} {as bs : List Addr} (q : ∀ H, KeepBut L H1 H → SqL K H a vs) (r : DAll w K H1 true vs ds as) (hs : ∀ x ∈ as, x ∉ L ∧ x ∉ B)
    (q' : ∀ H, KeepBut L H1 H → SqL K H b us) (r' : DAll w K H1 true us es bs) (hs' : ∀ x ∈ bs, x ∉ L ∧ x ∉ B) : WalkOk w K H1 L B (Itz K a b) ((ds.zip es).map fun p => .tuple [p.1, p.2]) where
  stop := fun H i k h => ⟨vs, us, q H k, q' H k, by
    simp only [List.length_map, List.length_zip] at h
    rw [r.length, r'.length]; omega⟩
  go := fun H i d k e => by
    obtain ⟨d1, d2, g1, g2, rfl⟩ := zip_get e
    obtain ⟨v, b1, e1, e2, e3⟩ := r.get g1
    obtain ⟨u, b2, e1', e2', e3'⟩ := r'.get g2
    refine ⟨⟨vs, us, v, u, q H k, q' H k, e1, e1'⟩, fun x H' ⟨T, x1, y1, t1, t2, t3, t4, t5⟩ => ?_⟩
    have w1 := t4 vs (q H k)
    have w2 := t5 us (q' H k)
    rw [e1] at w1; cases w1
    rw [e1'] at w2; cases w2
    subst t1 t3
    exact zip_go (a := a) (b := b) hL k e2 e2' (fun c hc => hs c (e3 c hc)) (fun c hc => hs' c (e3' c hc)) t2
theorem walk_zipT (hL : ∀ x ∈ L, OwnA H1 x) {a b : Addr} {vs us : List V} {ds es : List D} {as bs : List Addr} (q : SqT K H1 a vs) (r : DAll w K H1 true vs ds as) (hs : ∀ x ∈ as, x ∉ L ∧ x ∉ B)
    (q' : SqT K H1 b us) (r' : DAll w K H1 true us es bs) (hs' : ∀ x ∈ bs, x ∉ L ∧ x ∉ B) : WalkOk w K H1 L B (RZ.ItzT K a b) ((ds.zip es).map fun p => .tuple [p.1, p.2]) where
  stop := fun H i k h => ⟨vs, us, sqt_stay hL q k, sqt_stay hL q' k, by
    simp only [List.length_map, List.length_zip] at h
    rw [r.length, r'.length]; omega⟩
  go := fun H i d k e => by
    obtain ⟨d1, d2, g1, g2, rfl⟩ := zip_get e
    obtain ⟨v, b1, e1, e2, e3⟩ := r.get g1
    obtain ⟨u, b2, e1', e2', e3'⟩ := r'.get g2
    refine ⟨⟨vs, us, v, u, sqt_stay hL q k, sqt_stay hL q' k, e1, e1'⟩, fun x H' ⟨T, x1, y1, t1, t2, t3, t4, t5⟩ => ?_⟩
    have w1 := t4 vs (sqt_stay hL q k)
    have w2 := t5 us (sqt_stay hL q' k)
    rw [e1] at w1; cases w1
    rw [e1'] at w2; cases w2
    subst t1 t3
    exact zip_go (a := a) (b := b) hL k e2 e2' (fun c hc => hs c (e3 c hc)) (fun c hc => hs' c (e3' c hc)) t2
end
end TH
end
section
set_option Elab.async false
set_option linter.all false
set_option maxRecDepth 100000
namespace TH
open PySem PySem.Spec PyProof.Rows L2

/-! the keys of a dict that stays as it is -/
def RawAt (K : PySem.W.Frag) (H : Hp) (p : Addr) (o : Obj) : Prop := H p = some (.ext (isObj p o)) ∨ K.lookup p = some o
def Itkr (K : PySem.W.Frag) (p : Addr) (o : Obj) (ks : List V) : It :=
  ⟨fun i H => RawAt K H p o ∧ i < ks.length, fun i H x H' => H' = H ∧ ks[i]? = some x, fun i H => RawAt K H p o ∧ ks.length ≤ i⟩
theorem RawAt.at {X : Cx} {pins : List (Addr × Obj)} {σ : L2.St} {H : Hp} {s : Shared} (I : Inv X pins σ H s) {p : Addr} {o : Obj} (h : RawAt X.K H p o) : s.heap.get? p = some o := h.elim (ext_at I) (I.kIn _ _)
theorem turn_rawkeys {P : Program} {w : World} {K : PySem.W.Frag} {tg : Expr} {p : Addr} {o : Obj} {es : Array DictEntry} {ep : Nat} {ks : List V} (it : Addr) (hc : o.ExactDict) (hod : o.data = .dict es ep) (hk : Vals ks (es.toList.map (·.key))) :
    Turn P w K tg (Itkr K p o ks) [it] it (fun i h => h.IsKeyIter it p i es.size ep) where
  mem := by simp
  obj := fun i h st b hb => by
    have e : b = it := by simpa using hb
    subst e
    obtain ⟨oi, e, c, dd⟩ := st
    exact ⟨oi, e, fun v z => by rw [dd] at z; cases z⟩
  keep := fun i h h' st k => st.at fun oi e => k it (by simp) oi e
  item := by
    intro X hP hw hK hcm i pins s σ H E I hf st hg
    subst hP hw hK
    obtain ⟨hd, hi⟩ := hg
    obtain ⟨f0, f1, f2, f3, f4, f5⟩ := hf it (by simp)
    have hl := hk.length
    simp only [List.length_map, Array.length_toList] at hl
    have hr : s.heap.DictRaw p es ep := ⟨o, hd.at I, hc, hod⟩
    refine wpAny_pyNext_keys_item_raw st hr (by omega) fun h' st' sb => ?_
    have I1 : Inv X pins σ H { s with heap := h' } := I.turned (t' := s.toks) (fun b ob hb e => (sb.2 b hb).trans e) f0 f1 f3 f4 f5
    obtain ⟨oi, e, c, dd⟩ := id st'
    obtain ⟨x, hx⟩ : ∃ x, ks[i]? = some x := ⟨ks[i], List.getElem?_eq_getElem hi⟩
    obtain ⟨u, hu, ru⟩ := hk.get hx
    have hu2 : es[i] = es[i] := rfl
    have eu : u = es[i].key := by
      rw [List.getElem?_map, Array.getElem?_toList, Array.getElem?_eq_getElem (by omega)] at hu
      simpa using hu.symm
    subst eu
    exact ⟨_, rfl, go_of (s := { s with heap := h' }) e c dd (by decide) ⟨x, H, I1, ru, ⟨rfl, hx⟩, st', fun b hb => (hf b hb).1⟩⟩
  done := by
    intro X hP hw hK hcm i pins s σ H E I hf st hg
    subst hP hw hK
    obtain ⟨hd, hi⟩ := hg
    obtain ⟨f0, f1, f2, f3, f4, f5⟩ := hf it (by simp)
    have hl := hk.length
    simp only [List.length_map, Array.length_toList] at hl
    have hr : s.heap.DictRaw p es ep := ⟨o, hd.at I, hc, hod⟩
    exact wpAny_pyNext_keys_end_raw (I.ok.hd hcm) st hr (by omega) fun h' eb => ⟨rfl, I.turned (t' := s.toks) (fun b ob hb e => eb b ob hb e) f0 f1 f3 f4 f5⟩
  self := fun A i s Q E st h => wpAny_pyIter_keyiter st h
theorem walk_keys {w : World} {K : PySem.W.Frag} {H1 : Hp} {L B : List Addr} (hL : ∀ x ∈ L, OwnA H1 x) {p : Addr} {o : Obj} {ks : List V} {ds : List D} (q : RawAt K H1 p o) (na : (∃ o, H1 p = some (.ext (isObj p o))) → p ∉ L) (r : DAll w K H1 true ks ds []) : WalkOk w K H1 L B (Itkr K p o ks) ds where
  stop := fun H i k h => ⟨q.elim (fun e => .inl (k p _ e (na ⟨_, e⟩))) .inr, by rw [r.length]; exact h⟩
  go := fun H i d k e => by
    obtain ⟨v, bs, e1, e2, e3⟩ := r.get e
    refine ⟨⟨q.elim (fun e => .inl (k p _ e (na ⟨_, e⟩))) .inr, lt_of_get e1⟩, fun x H' ⟨y1, y2⟩ => ?_⟩
    subst y1
    rw [e1] at y2; cases y2
    exact ⟨KeepBut.refl, bs, e2.keep k hL fun c hc => by simpa using e3 c hc, fun c hc => by simpa using e3 c hc⟩
/-! any value that is walked -/
section
variable {X : Cx} {tg e : Expr} {te : TE}
def iAny (X : Cx) (te : TE) : TI := fun σ H R => te σ H fun x H1 => (∃ a, x = .ref a ∧ (∃ xs, SqL X.K H1 a xs) ∧ R (Itl X.K a) H1) ∨ (∃ a, x = .ref a ∧ (∃ xs, SqT X.K H1 a xs) ∧ R (Itt X.K a) H1) ∨ (∃ z, x = .str z ∧ R (Its z) H1) ∨
  ∃ p o es ep ks, x = .ref p ∧ RawAt X.K H1 p o ∧ o.ExactDict ∧ o.data = .dict es ep ∧ p ≠ sysModules ∧ Vals ks (es.toList.map (·.key)) ∧ R (Itkr X.K p o ks) H1
theorem pi_any (he : PE X e te) : PI X tg e (iAny X te) := by
  refine ⟨fun pins s σ H R I h => ?_⟩
  refine thn (he.run pins s σ H _ I h) fun v s1 ⟨x, H1, I1, r1, q1⟩ => ?_
  rcases q1 with ⟨a, ex, ⟨xs, hq⟩, q⟩ | ⟨a, ex, ⟨xs, hq⟩, q⟩ | ⟨z, ex, q⟩ | ⟨p, o, es, ep, ks, ex, hr, hc, hd, hs, hk, q⟩
  · subst ex; cases r1
    obtain ⟨its, rv, p, hz⟩ := I1.list hq
    exact wpAny_pyIter_list p.isList (pi_one (tk := s1.toks) I1 _ (turn_list a _) ⟨_, Heap.get?_push_size _ rfl, rfl, rfl⟩ q)
  · subst ex; cases r1
    obtain ⟨its, rv, p, hz⟩ := I1.tuple hq
    exact wpAny_pyIter_tuple (show s1.heap.IsTuple a its.toArray from p) (pi_one (tk := s1.toks) I1 _ (turn_tuple a _) ⟨_, Heap.get?_push_size _ rfl, rfl, rfl⟩ q)
  · subst ex
    obtain ⟨t, rfl⟩ := r1
    cases ha : z.cps.all (· < 128)
    · exact wpAny_pyIter_wide ha (pi_one (tk := s1.toks) I1 _ (turn_str _ z t "str_iterator" (.inr rfl)) ⟨_, Heap.get?_push_size _ rfl, rfl, rfl⟩ q)
    · exact wpAny_pyIter_ascii ha (pi_one (tk := s1.toks) I1 _ (turn_str _ z t "str_ascii_iterator" (.inl rfl)) ⟨_, Heap.get?_push_size _ rfl, rfl, rfl⟩ q)
  · subst ex; cases r1
    exact iter_keys (beq_eq_false_iff_ne.mpr hs) (hr.at I1) hc hd (pi_one (tk := s1.toks) I1 _ (turn_rawkeys _ hc hd hk) ⟨_, Heap.get?_push_size _ rfl, rfl, rfl⟩ q)
end
/-! what is at hand of a source -/
def hideOf : C → Option Nat
  | .pt i => some i
  | _ => none
def hidB (own : Nat → List Addr) : Option Nat → List Addr
  | some i => own i
  | none => []
/-- the state behind a source: its items, how they are walked -/
def SrcAt (Z : Cf) (σ : L2.St) (ρ : Ev) (tv : L2.St) (ts : Ev) (H1 : Hp) (J : It) (items : List D) (src : C) : Prop :=
  ρ.length = σ.length ∧ ∃ foot own, OkW Z (σ ++ tv) (ρ ++ ts) H1 foot own ∧ ∀ L, (∀ a ∈ L, ∃ j, a ∈ own j ∧ some j ≠ hideOf src) → WalkOk Z.w Z.K H1 L (hidB own (hideOf src) ++ Z.B) J items
theorem own_in {Z : Cf} {Y : L2.St} {R : Ev} {H : Hp} {foot own : Nat → List Addr} (o : OkW Z Y R H foot own) {L : List Addr} (hl : ∀ a ∈ L, ∃ j, a ∈ own j) : ∀ x ∈ L, OwnA H x := fun x hx => by
  obtain ⟨j, h⟩ := hl x hx
  exact o.footOwn (o.mine j x h).1
theorem shr_out {Z : Cf} {own : Nat → List Addr} {as L : List Addr} (sh : Shr Z own as) (hl : ∀ a ∈ L, ∃ j, a ∈ own j) : ∀ x ∈ as, x ∉ L := fun x hx z => by
  obtain ⟨j, h⟩ := hl x z
  exact sh.1 x hx j h
/-- what iAny asks -/
def AnyD (X : Cx) (x : V) (H1 : Hp) (R : It → Hp → Prop) : Prop := (∃ a, x = .ref a ∧ (∃ xs, SqL X.K H1 a xs) ∧ R (Itl X.K a) H1) ∨ (∃ a, x = .ref a ∧ (∃ xs, SqT X.K H1 a xs) ∧ R (Itt X.K a) H1) ∨ (∃ z, x = .str z ∧ R (Its z) H1) ∨
  ∃ p o es ep ks, x = .ref p ∧ RawAt X.K H1 p o ∧ o.ExactDict ∧ o.data = .dict es ep ∧ p ≠ sysModules ∧ Vals ks (es.toList.map (·.key)) ∧ R (Itkr X.K p o ks) H1
theorem any_sh {X : Cx} {H : Hp} {v : V} {d : D} {as : List Addr} {items : List D} {R : It → Hp → Prop} (r : DRep X.w X.K H true v d as) (e : seqOf d = some items)
    (k : ∀ J, (∀ L B, (∀ x ∈ L, OwnA H x) → (∀ x ∈ as, x ∉ L ∧ x ∉ B) → WalkOk X.w X.K H L B J items) → R J H) : AnyD X v H R := by
  cases r with
  | none => cases e
  | bool => cases e
  | int => cases e
  | str x hx =>
    cases e
    exact .inr (.inr (.inl ⟨x, rfl, k _ fun L B _ _ => walk_str⟩))
  | list q r =>
    cases e
    exact .inl ⟨_, rfl, ⟨_, SqL.of q⟩, k _ fun L B hL hs => walk_list hL (SqL.of q) (fun _ => (hs _ (by simp)).1) r fun x hx => hs x (List.mem_cons_of_mem _ hx)⟩
  | listF _ q r =>
    cases e
    refine .inl ⟨_, rfl, ⟨_, q.sql⟩, k _ fun L B hL hs => ?_⟩
    rcases q with ⟨o, q⟩ | q
    · exact walk_list hL (.inl (.inr ⟨o, q⟩)) (fun ⟨us, z⟩ => by rw [q] at z; cases z) r hs
    · refine ⟨fun H i k h => ⟨_, .inr q, by rw [r.length]; exact h⟩, fun H i d k e => ?_⟩
      obtain ⟨v, bs, e1, e2, e3⟩ := r.get e
      refine ⟨⟨_, v, .inr q, e1⟩, fun x H' ⟨y1, y2⟩ => ?_⟩
      subst y1
      have := y2 _ (.inr q)
      rw [e1] at this; cases this
      exact ⟨KeepBut.refl, bs, e2.keep k hL fun c hc => (hs c (e3 c hc)).1, fun c hc => ⟨(e2.own c hc).some, hs c (e3 c hc)⟩⟩
  | tup q r =>
    cases e
    exact .inr (.inl ⟨_, rfl, ⟨_, q⟩, k _ fun L B hL hs => walk_tup hL q r hs⟩)
  | dict q h1 h2 r h3 =>
    cases e
    obtain ⟨ks, g1, g2, _⟩ := keys_all (c' := true) r
    exact .inr (.inr (.inr ⟨_, _, _, _, ks, rfl, .inl q, ⟨rfl, rfl, rfl⟩, rfl, h1, g2, k _ fun L B hL hs => walk_keys hL (.inl q) (fun _ => (hs _ (by simp)).1) g1⟩))
  | dictF _ q hc hd h1 h2 r h3 =>
    cases e
    obtain ⟨ks, g1, g2, _⟩ := keys_all (c' := true) r
    refine .inr (.inr (.inr ⟨_, _, _, _, ks, rfl, .inr q, hc, hd, h1, g2, k _ fun L B hL hs => ?_⟩))
    refine ⟨fun H i k h => ⟨.inr q, by rw [g1.length]; exact h⟩, fun H i d k e => ?_⟩
    obtain ⟨v, bs, e1, e2, e3⟩ := g1.get e
    refine ⟨⟨.inr q, lt_of_get e1⟩, fun x H' ⟨y1, y2⟩ => ?_⟩
    subst y1
    rw [e1] at y2; cases y2
    exact ⟨KeepBut.refl, bs, e2.keep k hL fun c hc => by simpa using e3 c hc, fun c hc => by simpa using e3 c hc⟩
theorem any_top {X : Cx} {H : Hp} {v : V} {d : D} {as : List Addr} {items : List D} {R : It → Hp → Prop} (t : TRep X.w X.K H v d as) (e : seqOf d = some items)
    (k : ∀ J, (∀ L B, (∀ x ∈ L, OwnA H x) → (∀ x ∈ as, x ∉ L) → (∀ x ∈ as, v ≠ .ref x → x ∉ B) → WalkOk X.w X.K H L B J items) → R J H) : AnyD X v H R := by
  obtain ⟨a, as', ev, ea, na, ⟨vs, ds, ed, q, r⟩ | ⟨es, ep, kvs, ed, q, h1, h2, r, h3⟩⟩ := t
  · subst ed ev ea
    cases e
    exact .inl ⟨_, rfl, ⟨_, SqL.of q⟩, k _ fun L B hL hs hB => walk_list hL (SqL.of q) (fun _ => hs _ (by simp)) r fun x hx => ⟨hs x (List.mem_cons_of_mem _ hx), hB x (List.mem_cons_of_mem _ hx) fun z => by cases z; exact na hx⟩⟩
  · subst ed ev ea
    cases e
    obtain ⟨ks, g1, g2, _⟩ := keys_all (c' := true) r
    exact .inr (.inr (.inr ⟨_, _, _, _, ks, rfl, .inl q, ⟨rfl, rfl, rfl⟩, rfl, h1, g2, k _ fun L B hL hs hB => walk_keys hL (.inl q) (fun _ => hs _ (by simp)) g1⟩))
/-- a value at hand that is walked -/
theorem src_val {X : Cx} {Z : Cf} (zx : ZX Z X) {σ : L2.St} {ρ : Ev} {tv : L2.St} {ts : Ev} {H : Hp} {v : V} {k : Own} {d : D} {items : List D} {src : C} {R : It → Hp → Prop} (hsrc : hideOf src = none) (hl : ρ.length = σ.length) (o : Ok Z ((σ ++ tv) ++ [some v]) ((ρ ++ ts) ++ [.vl k d]) H) (e : seqOf d = some items)
    (fin : ∀ J, SrcAt Z σ ρ tv ts H J items src → R J H) : AnyD X v H R := by
  obtain ⟨foot, own, q⟩ := o
  obtain ⟨f, w, as, q1, q2, q3⟩ := OkW.useSh (Y := σ ++ tv) (R := ρ ++ ts) [v] [(d, k)] rfl q
  cases q2 with
  | @cons _ _ _ _ as0 _ r rs =>
    cases rs
    have r' : DRep X.w X.K H true v d as0 := by rw [← zx.w, ← zx.K]; exact r
    refine any_sh r' e fun J hJ => fin J ⟨hl, f, w, q1, fun L hL => ?_⟩
    have hL' : ∀ a ∈ L, ∃ j, a ∈ w j := fun a ha => let ⟨j, h, _⟩ := hL a ha; ⟨j, h⟩
    rw [zx.w, zx.K, hsrc]
    have sh := q3
    exact hJ L _ (own_in q1 hL') fun x hx => ⟨shr_out (sh.sub (by simp)) hL' x hx, fun z => sh.2 x (by simpa using hx) (by simpa [hidB] using z)⟩
/-- a slot's thing that is walked -/
theorem src_slot {X : Cx} {Z : Cf} (zx : ZX Z X) {σ : L2.St} {ρ : Ev} {tv : L2.St} {ts : Ev} {H : Hp} {v : V} {k : Own} {d : D} {items : List D} {i : Nat} {R : It → Hp → Prop} (hl : ρ.length = σ.length) (o : Ok Z (σ ++ tv) (ρ ++ ts) H) (hs : getS ρ i = .vl k d) (hv : σ[i]? = some (some v)) (hk : k = .fr → immKids d = true) (e : seqOf d = some items)
    (fin : ∀ J, SrcAt Z σ ρ tv ts H J items (.pt i) → R J H) : AnyD X v H R := by
  obtain ⟨foot, own, q⟩ := o
  have hi : (ρ ++ ts)[i]? = some (.vl k d) := by rw [List.getElem?_append_left (getS_lt hs)]; exact getS_at hs
  have hvi : (σ ++ tv)[i]? = some (some v) := by rw [List.getElem?_append_left (lt_of_get hv)]; exact hv
  obtain ⟨v', ev, r, ko, hB⟩ := q.at hi
  rw [hvi] at ev; cases ev
  have top : TRep Z.w Z.K H v d (foot i) → (∀ z ∈ own i, v = .ref z) → AnyD X v H R := fun t ho => by
    have t' : TRep X.w X.K H v d (foot i) := by rw [← zx.w, ← zx.K]; exact t
    refine any_top t' e fun J hJ => fin J ⟨hl, foot, own, q, fun L hL => ?_⟩
    have hL' : ∀ a ∈ L, ∃ j, a ∈ own j := fun a ha => let ⟨j, h, _⟩ := hL a ha; ⟨j, h⟩
    rw [zx.w, zx.K]
    refine hJ L _ (own_in q hL') (fun x hx z => ?_) fun x hx hne z => ?_
    · obtain ⟨j, h1, h2⟩ := hL x z
      exact h2 (congrArg some (q.sep i j x hx h1).symm)
    · rcases List.mem_append.mp z with z | z
      · exact hne (ho x z)
      · exact hB x hx z
  have sh : own i = [] → AnyD X v H R := fun ho => by
    have r' : DRep X.w X.K H true v d (foot i) := by rw [← zx.w, ← zx.K]; exact k_true r
    refine any_sh r' e fun J hJ => fin J ⟨hl, foot, own, q, fun L hL => ?_⟩
    have hL' : ∀ a ∈ L, ∃ j, a ∈ own j := fun a ha => let ⟨j, h, _⟩ := hL a ha; ⟨j, h⟩
    rw [zx.w, zx.K]
    refine hJ L _ (own_in q hL') fun x hx => ⟨fun z => ?_, fun z => ?_⟩
    · obtain ⟨j, h1, h2⟩ := hL x z
      exact h2 (congrArg some (q.sep i j x hx h1).symm)
    · simp only [hidB, hideOf, ho, List.nil_append] at z
      exact hB x hx z
  have box : (TRep Z.w Z.K H v d (foot i) ∧ ∃ a, v = .ref a ∧ own i = [a]) → AnyD X v H R := fun ⟨t, a, e1, e2⟩ => top t fun z hz => by
    rw [e2] at hz
    rw [e1, List.mem_singleton.mp hz]
  cases k with
  | sh => exact sh ko
  | top => exact box ko
  | io => exact box ko.1
  | fr =>
    obtain ⟨k1, k2⟩ := ko
    rcases kids_nil r rfl (hk rfl) with z | ⟨a, e1, e2, t⟩
    · exact sh (by rw [k1, z])
    · exact box ⟨t, a, e1, by rw [k1, e2]⟩
end TH
end
section
set_option Elab.async false
set_option linter.all false
set_option maxRecDepth 100000
namespace TH
open PySem PySem.Spec PyProof.Rows L2

def noEx : Str → D → Prop := fun _ _ => False
def tSrc (G : Glob) (Z : Cf) (src : C) : TI := fun σ H R => ∃ ρ tv ts, Sta Z σ ρ tv ts H ∧ OutR (fun r => ∀ J H1, SrcAt Z σ r.2 tv ts H1 J r.1 src → R J H1) noEx (evSrc G src ρ)
theorem pi_imp {X : Cx} {tg iter : Expr} {wi wi' : TI} (h : PI X tg iter wi) (k : ∀ σ H R, wi' σ H R → wi σ H R) : PI X tg iter wi' := ⟨fun pins s σ H R I q => h.run pins s σ H R I (k σ H R q)⟩
theorem pe_imp {X : Cx} {e : Expr} {t t' : TE} (h : PE X e t) (k : ∀ σ H Q, t' σ H Q → t σ H Q) : PE X e t' := ⟨fun pins s σ H Q I q => h.run pins s σ H Q I (k σ H Q q)⟩
/-- a source that is a value -/
def isVal : C → Bool
  | .pt _ => false
  | .sq _ _ => false
  | _ => true
theorem evSrc_val {G : Glob} {c : C} {ρ : Ev} (h : isVal c = true) : evSrc G c ρ = (evE G c ρ).bind fun r => walkR (seqOf r.1) r.2.2 := by
  cases c <;> first | (exact Bool.noConfusion h) | (simp only [evSrc]; done) | (simp only [evSrc]; rfl)
theorem hide_val {c : C} (h : isVal c = true) : hideOf c = none := by cases c <;> first | rfl | exact Bool.noConfusion h
section
variable {G : Glob} {Z : Cf} {X : Cx} {tg e : Expr}
theorem pi_val {c : C} (zx : ZX Z X) (hc : isVal c = true) (he : PE X e (tE G Z noEx c)) : PI X tg e (tSrc G Z c) := by
  refine pi_imp (pi_any he) fun σ H R h => ?_
  obtain ⟨ρ, tv, ts, s, h⟩ := h
  rw [evSrc_val hc] at h
  refine ⟨ρ, tv, ts, s, h.bind.mono fun r hr v H1 s1 => ?_⟩
  cases es : seqOf r.1 with
  | none => rw [es] at hr; exact hr.elim
  | some l =>
    rw [es] at hr
    exact src_val zx (hide_val hc) s1.len (by simpa using s1.ok) es fun J hJ => hr J H1 hJ
theorem pi_pt {i : Nat} (zx : ZX Z X) (he : PE X e (tVar i)) : PI X tg e (tSrc G Z (.pt i)) := by
  refine pi_imp (pi_any he) fun σ H R h => ?_
  obtain ⟨ρ, tv, ts, s, h⟩ := h
  simp only [evSrc] at h
  cases hg : getS ρ i with
  | un => simp [peek, hg, Res.bind] at h; exact h.elim
  | lk => simp [peek, hg, Res.bind] at h; exact h.elim
  | vl k d =>
    obtain ⟨v, hv⟩ := s.val hg
    refine ⟨v, hv, ?_⟩
    by_cases hf : k = .fr ∧ immKids d = false
    · obtain ⟨rfl, hi⟩ := hf
      have h' : OutR (fun r => ∀ J H1, SrcAt Z σ r.2 tv ts H1 J r.1 (.pt i) → R J H1) noEx (walkR (seqOf d) (setS ρ i (.vl (topK d) d))) := by
        simpa [peek, hg, hi, Res.bind] using h
      cases es : seqOf d with
      | none => rw [es] at h'; exact h'.elim
      | some l =>
        rw [es] at h'
        have s2 : Sta Z σ (setS ρ i (.vl (topK d) d)) tv ts H := s.set (getS_lt hg) (s.ok.topK (s.get hg))
        have hg2 : getS (setS ρ i (.vl (topK d) d)) i = .vl (topK d) d := by
          unfold getS setS
          rw [List.getElem?_set_self (getS_lt hg)]; rfl
        exact src_slot zx s2.len s2.ok hg2 hv (fun z => absurd z topK_ne) es fun J hJ => h' J H hJ
    · have h' : OutR (fun r => ∀ J H1, SrcAt Z σ r.2 tv ts H1 J r.1 (.pt i) → R J H1) noEx (walkR (seqOf d) ρ) := by
        cases k with
        | fr =>
          have hi : immKids d = true := by
            cases hi : immKids d with
            | true => rfl
            | false => exact absurd ⟨rfl, hi⟩ hf
          simpa [peek, hg, hi, Res.bind] using h
        | _ => simpa [peek, hg, Res.bind] using h
      cases es : seqOf d with
      | none => rw [es] at h'; exact h'.elim
      | some l =>
        rw [es] at h'
        exact src_slot zx s.len s.ok hg hv (fun z => by
          subst z
          cases hi : immKids d with
          | true => rfl
          | false => exact absurd ⟨rfl, hi⟩ hf) es fun J hJ => h' J H hJ
/-- range, zip: their arguments -/
theorem sq_red {p : P} {cs : List C} {σ : L2.St} {H : Hp} {R : It → Hp → Prop} (hc : ∀ c ∈ cs, peekOf c = none) (h : tSrc G Z (.sq p cs) σ H R) : argsT G Z noEx cs σ H fun vs H1 => ∃ (ρ : Ev) (tv : L2.St) (ts : Ev) (dks : List (D × Own)) (l : List D) (k : Own), ρ.length = σ.length ∧
    Ok Z ((σ ++ tv) ++ vs.map some) ((ρ ++ ts) ++ dks.map fun x => .vl x.2 x.1) H1 ∧ vs.length = dks.length ∧ prim p dks = some (.list l, k) ∧ ∀ J, SrcAt Z σ ρ tv ts H1 J l (.sq p cs) → R J H1 := by
  obtain ⟨ρ, tv, ts, s, h⟩ := h
  simp only [evSrc] at h
  refine args_run cs s (h.bind.mono fun r hr vs H' tvs tss as s2 => ?_)
  obtain ⟨rfl, rfl, hl⟩ := as.vals hc
  by_cases hg : (r.1.all fun x => x.2 != .io) = true
  · rw [if_pos hg] at hr
    cases e : prim p r.1 with
    | none => rw [e] at hr; exact hr.elim
    | some q =>
      rw [e] at hr
      obtain ⟨d, k⟩ := q
      cases d <;> try (exact hr.elim)
      rename_i l
      exact ⟨r.2, tv, ts, r.1, l, k, s2.len, by simpa using s2.ok, hl, e, fun J hJ => hr J H' hJ⟩
  · rw [if_neg hg] at hr
    exact hr.elim
theorem rng_src {src : C} {σ : L2.St} {ρ : Ev} {tv : L2.St} {ts : Ev} {vs : List V} {dks : List (D × Own)} {H : Hp} {lo : Int} {n : Nat} (hs : hideOf src = none) (hl : ρ.length = σ.length) (o : Ok Z ((σ ++ tv) ++ vs.map some) ((ρ ++ ts) ++ dks.map fun x => .vl x.2 x.1) H) (e : vs.length = dks.length) :
    SrcAt Z σ ρ tv ts H (Itr lo n) ((List.range n).map fun (k : Nat) => PyData.int (lo + (k : Int))) src := by
  obtain ⟨foot, own, q⟩ := o
  obtain ⟨f, w, as, q1, q2, q3⟩ := OkW.useSh vs dks e q
  exact ⟨hl, f, w, q1, fun L hL => walk_rng⟩
theorem int_arg {v : V} {i : Int} {k : Own} {σ : L2.St} {ρ : Ev} {H : Hp} (o : Ok Z (σ ++ [some v]) (ρ ++ [.vl k (.int i)]) H) : v = .int i := by
  obtain ⟨foot, own, q⟩ := o
  obtain ⟨v', e, r, _⟩ := q.last
  cases e
  exact r.int_inv
theorem argT_mono {c : C} {σ : L2.St} {H : Hp} {Q Q' : VK} (k : ∀ v H, Q v H → Q' v H) (q : argT G Z noEx c σ H Q) : argT G Z noEx c σ H Q' := by
  unfold argT at q ⊢
  cases hp : peekOf c with
  | some i =>
    rw [hp] at q
    obtain ⟨v, h1, h2⟩ := q
    exact ⟨v, h1, k _ _ h2⟩
  | none =>
    rw [hp] at q
    obtain ⟨ρ, tv, ts, s, o⟩ := q
    exact ⟨ρ, tv, ts, s, o.mono fun r g v H' s' => k _ _ (g v H' s')⟩
theorem argsT_mono : ∀ {cs : List C} {σ : L2.St} {H : Hp} {Q Q' : List V → Hp → Prop}, (∀ vs H, Q vs H → Q' vs H) → argsT G Z noEx cs σ H Q → argsT G Z noEx cs σ H Q'
  | [], _, _, _, _, k, q => k _ _ q
  | _ :: _, _, _, _, _, k, q => argT_mono (fun _ _ q => argsT_mono (fun _ _ q => k _ _ q) q) q
theorem arN_range1 : ArN .range1 1 := fun dks hd => by rcases dks with _ | ⟨a, _ | ⟨b, _ | ⟨c, _ | _⟩⟩⟩ <;> first | rfl | exact absurd rfl hd
theorem arN_range2 : ArN .range2 2 := fun dks hd => by rcases dks with _ | ⟨a, _ | ⟨b, _ | ⟨c, _ | _⟩⟩⟩ <;> first | rfl | exact absurd rfl hd
theorem arN_zip : ArN .zip 2 := fun dks hd => by rcases dks with _ | ⟨a, _ | ⟨b, _ | ⟨c, _ | _⟩⟩⟩ <;> first | rfl | exact absurd rfl hd
theorem ar_eq {p : P} {n : Nat} {dks : List (D × Own)} {x : D × Own} (h : ArN p n) (e : prim p dks = some x) : dks.length = n := by
  by_cases hd : dks.length = n
  · exact hd
  · rw [h dks hd] at e; cases e
theorem src_range1 {a : Expr} {c : C} {p pos : Pos} (hg : Gl X "range") (hm : X.mg "range" = none) (hc : peekOf c = none) (ha : PA X [a] (argsT G Z noEx [c])) (hs : starEach [a] X.env = [(false, eval a X.env)]) : PI X tg (.Call (.Name "range" p) [a] [] pos) (tSrc G Z (.sq .range1 [c])) := by
  refine pi_imp (pi_range1 hg hm ha hs) fun σ H R h => ?_
  refine argsT_mono (fun vs H1 ⟨ρ, tv, ts, dks, l, k, hl, o, e, hp, fin⟩ => ?_) (sq_red (by simpa using hc) h)
  have ea := ar_eq arN_range1 hp
  obtain ⟨⟨d, kd⟩, rfl⟩ := len1 ea
  obtain ⟨v, rfl⟩ := len1 (e.trans ea)
  cases d <;> try (simp [prim] at hp; done)
  case int j =>
    have hp : rangeD 0 j = some (.list l, k) := hp
    unfold rangeD at hp
    obtain ⟨hb, hp⟩ := some_if hp
    have ev : v = .int j := int_arg (σ := σ ++ tv) (ρ := ρ ++ ts) (k := kd) o
    injection hp with hp
    injection hp with hp _
    injection hp with hp
    have hn : (j - 0).toNat = j.toNat := by rw [Int.sub_zero]
    rw [hn] at hp
    subst hp
    exact ⟨j, by rw [ev], hb.2.2.1, hb.2.2.2, fin _ (rng_src rfl hl o rfl)⟩
theorem src_range2 {a b : Expr} {c c2 : C} {p pos : Pos} (hg : Gl X "range") (hm : X.mg "range" = none) (hc : peekOf c = none) (hc2 : peekOf c2 = none) (ha : PA X [a, b] (argsT G Z noEx [c, c2])) (hs : starEach [a, b] X.env = [(false, eval a X.env), (false, eval b X.env)]) (hs2 : starEach [b] X.env = [(false, eval b X.env)]) :
    PI X tg (.Call (.Name "range" p) [a, b] [] pos) (tSrc G Z (.sq .range2 [c, c2])) := by
  refine pi_imp (pi_range2 hg hm ha hs hs2) fun σ H R h => ?_
  refine argsT_mono (fun vs H1 ⟨ρ, tv, ts, dks, l, k, hl, o, e, hp, fin⟩ => ?_) (sq_red (by simp [hc, hc2]) h)
  have ea := ar_eq arN_range2 hp
  obtain ⟨⟨d, kd⟩, ⟨d2, kd2⟩, rfl⟩ := len2 ea
  obtain ⟨v, v2, rfl⟩ := len2 (e.trans ea)
  cases d <;> cases d2 <;> try (simp [prim] at hp; done)
  case int.int i j =>
    have hp : rangeD i j = some (.list l, k) := hp
    unfold rangeD at hp
    obtain ⟨hb, hp⟩ := some_if hp
    have o2 : Ok Z (((σ ++ tv) ++ [some v]) ++ [some v2]) (((ρ ++ ts) ++ [.vl kd (.int i)]) ++ [.vl kd2 (.int j)]) H1 := by simpa using o
    have ev2 : v2 = .int j := int_arg o2
    have ev : v = .int i := int_arg o2.pop
    injection hp with hp
    injection hp with hp _
    injection hp with hp
    subst hp
    exact ⟨i, j, by rw [ev, ev2], hb, fin _ (rng_src rfl hl o rfl)⟩
theorem list_stay {H1 : Hp} {w : Nat → List Addr} {p : Addr} {ds : List D} {bs : List Addr} (g : DRep Z.w Z.K H1 true (.ref p) (.list ds) bs) (sh : Shr Z w bs) :
    ∃ vs as', SqL Z.K H1 p vs ∧ DAll Z.w Z.K H1 true vs ds as' ∧ Shr Z w as' ∧ ∀ L, (∀ x ∈ L, OwnA H1 x) → (∀ a ∈ L, ∃ j, a ∈ w j) → ∀ H, KeepBut L H1 H → SqL Z.K H p vs := by
  cases g with
  | list q r => exact ⟨_, _, SqL.of q, r, sh.sub fun x hx => List.mem_cons_of_mem _ hx, fun L hL hL' H k => sql_stay hL (SqL.of q) (fun _ => shr_out sh hL' p (by simp)) k⟩
  | listF _ q r =>
    refine ⟨_, _, q.sql, r, sh, fun L hL hL' H k => ?_⟩
    rcases q with ⟨o, q⟩ | q
    · exact sql_stay hL (.inl (.inr ⟨o, q⟩)) (fun ⟨us, z⟩ => by rw [q] at z; cases z) k
    · exact .inr q
theorem src_zip {a b : Expr} {c c2 : C} {p pos tpos : Pos} {elts : List Expr} {kk : Nat} (zx : ZX Z X) (hg : Gl X "zip") (hm : X.mg "zip" = none) (hc : peekOf c = none) (hc2 : peekOf c2 = none) (ha : PA X [a, b] (argsT G Z noEx [c, c2]))
    (hs : starEach [a, b] X.env = (false, eval a X.env) :: starEach [b] X.env) (hpl : (backTo pos (starEach [b] X.env)).any (·.1) = false) :
    PI X (.Tuple elts kk tpos) (.Call (.Name "zip" p) [a, b] [] pos) (tSrc G Z (.sq .zip [c, c2])) := by
  refine pi_imp (RZ.pi_zipA hg hm ha hs hpl) fun σ H R h => ?_
  refine argsT_mono (fun vs H1 ⟨ρ, tv, ts, dks, l, k, hl, o, e, hp, fin⟩ => ?_) (sq_red (by simp [hc, hc2]) h)
  have ea := ar_eq arN_zip hp
  obtain ⟨⟨d, kd⟩, ⟨d2, kd2⟩, rfl⟩ := len2 ea
  obtain ⟨v, v2, rfl⟩ := len2 (e.trans ea)
  have hp : zipD d d2 = some (.list l, k) := hp
  obtain ⟨foot, own, q⟩ := o
  obtain ⟨f, w, as, q1, q2, q3⟩ := OkW.useSh [v, v2] [(d, kd), (d2, kd2)] rfl q
  obtain ⟨w1, w2, a1, a2, ev, ea', r1, r2⟩ := DAll.split (d1 := [d]) (d2 := [d2]) q2
  have r1' : ∃ x, w1 = [x] ∧ ∃ b1, DRep Z.w Z.K H1 true x d b1 ∧ ∀ z ∈ b1, z ∈ a1 := by
    cases r1 with
    | cons r rs => cases rs; exact ⟨_, rfl, _, r, by simp⟩
  have r2' : ∃ x, w2 = [x] ∧ ∃ b1, DRep Z.w Z.K H1 true x d2 b1 ∧ ∀ z ∈ b1, z ∈ a2 := by
    cases r2 with
    | cons r rs => cases rs; exact ⟨_, rfl, _, r, by simp⟩
  obtain ⟨x1, rfl, b1, g1, s1⟩ := r1'
  obtain ⟨x2, rfl, b2, g2, s2⟩ := r2'
  injection ev with ev1 ev2
  injection ev2 with ev2 _
  subst ev1 ev2
  subst ea'
  have sh1 : Shr Z w b1 := q3.sub fun z hz => List.mem_append_left _ (s1 z hz)
  have sh2 : Shr Z w b2 := q3.sub fun z hz => List.mem_append_right _ (s2 z hz)
  have mk : ∀ {as' : List Addr} {L : List Addr}, Shr Z w as' → (∀ a ∈ L, ∃ j, a ∈ w j ∧ some j ≠ hideOf (.sq .zip [c, c2])) → ∀ x ∈ as', x ∉ L ∧ x ∉ hidB w (hideOf (.sq .zip [c, c2])) ++ Z.B := fun sh hL x hx =>
    ⟨shr_out sh (fun a ha => let ⟨j, h, _⟩ := hL a ha; ⟨j, h⟩) x hx, fun z => sh.2 x hx (by simpa [hidB, hideOf] using z)⟩
  cases d <;> cases d2 <;> try (cases hp; done)
  case list.list xs ys =>
    cases hp
    have t1 : ∃ p1, v = .ref p1 := by cases g1 <;> exact ⟨_, rfl⟩
    have t2 : ∃ p2, v2 = .ref p2 := by cases g2 <;> exact ⟨_, rfl⟩
    obtain ⟨p1, rfl⟩ := t1
    obtain ⟨p2, rfl⟩ := t2
    obtain ⟨vs1, as1, u1, v1, m1, st1⟩ := list_stay g1 sh1
    obtain ⟨vs2, as2, u2, v2', m2, st2⟩ := list_stay g2 sh2
    refine ⟨p1, p2, vs1, vs2, rfl, .inl ⟨by rw [← zx.K]; exact u1, by rw [← zx.K]; exact u2, fin _ ⟨hl, f, w, q1, fun L hL => ?_⟩⟩⟩
    have hL' : ∀ a ∈ L, ∃ j, a ∈ w j := fun a ha => let ⟨j, h, _⟩ := hL a ha; ⟨j, h⟩
    rw [← zx.K]
    exact walk_zip (own_in q1 hL') (st1 L (own_in q1 hL') hL') v1 (mk m1 hL) (st2 L (own_in q1 hL') hL') v2' (mk m2 hL)
  case tuple.tuple xs ys =>
    cases hp
    obtain ⟨p1, vs1, e1, t1, u1, v1, w1⟩ := Arg1.tuple (own := w) True.intro ⟨b1, g1, .inl sh1⟩
    obtain ⟨p2, vs2, e2, t2, u2, v2', w2⟩ := Arg1.tuple (own := w) True.intro ⟨b2, g2, .inl sh2⟩
    subst t1 t2
    refine ⟨p1, p2, vs1, vs2, rfl, .inr ⟨by rw [← zx.K]; exact u1, by rw [← zx.K]; exact u2, fin _ ⟨hl, f, w, q1, fun L hL => ?_⟩⟩⟩
    have hL' : ∀ a ∈ L, ∃ j, a ∈ w j := fun a ha => let ⟨j, h, _⟩ := hL a ha; ⟨j, h⟩
    rw [← zx.K]
    exact walk_zipT (own_in q1 hL') u1 v1 (mk w1 hL) u2 v2' (mk w2 hL)
end
end TH
end
section
set_option Elab.async false
set_option linter.all false
set_option maxRecDepth 100000
namespace TH
open PySem PySem.Spec PyProof.Rows L2

mutual
/-- the slots that a target stores -/
def ixT : T → List Nat
  | .nm i => [i]
  | .tp ts => ixTs ts
def ixTs : List T → List Nat
  | [] => []
  | t :: ts => ixT t ++ ixTs ts
end
/-- σ' is σ but for these slots -/
def Same (is : List Nat) (σ σ' : L2.St) : Prop := σ'.length = σ.length ∧ ∀ i, i ∉ is → σ'[i]? = σ[i]?
theorem Same.refl {is : List Nat} {σ : L2.St} : Same is σ σ := ⟨rfl, fun _ _ => rfl⟩
theorem Same.trans {is js : List Nat} {a b c : L2.St} (h : Same is a b) (g : Same js b c) : Same (is ++ js) a c := ⟨g.1.trans h.1, fun i hi => (g.2 i fun z => hi (List.mem_append_right _ z)).trans (h.2 i fun z => hi (List.mem_append_left _ z))⟩
/-- a shared value goes to a target -/
def gSh (Z : Cf) (t : T) : TG := fun v σ H Q => ∃ (ρ : Ev) (tv : L2.St) (ts : Ev) (foot own : Nat → List Addr) (as : List Addr) (d : D), ρ.length = σ.length ∧ OkW Z (σ ++ tv) (ρ ++ ts) H foot own ∧ DRep Z.w Z.K H true v d as ∧ Shr Z own as ∧
  OutR (fun ρ' => ∀ σ', Same (ixT t) σ σ' → ∀ foot' own', OkW Z (σ' ++ tv) (ρ' ++ ts) H foot' own' → ρ'.length = σ'.length → (∀ j a, a ∈ own' j → a ∈ own j) → Q σ' H) noEx (bindT t d .sh ρ)
def gShs (Z : Cf) (t : List T) : TGs := fun vs σ H Q => ∃ (ρ : Ev) (tv : L2.St) (ts : Ev) (foot own : Nat → List Addr) (as : List Addr) (ds : List D), ρ.length = σ.length ∧ OkW Z (σ ++ tv) (ρ ++ ts) H foot own ∧ DAll Z.w Z.K H true vs ds as ∧ Shr Z own as ∧
  OutR (fun ρ' => ∀ σ', Same (ixTs t) σ σ' → ∀ foot' own', OkW Z (σ' ++ tv) (ρ' ++ ts) H foot' own' → ρ'.length = σ'.length → (∀ j a, a ∈ own' j → a ∈ own j) → Q σ' H) noEx (bindTs t ds ρ)
section
variable {Z : Cf} {X : Cx}
theorem pg_imp {e : Expr} {t t' : TG} (h : PG X e t) (k : ∀ v σ H Q, t' v σ H Q → t v σ H Q) : PG X e t' := ⟨fun pins s σ H v u Q I r q => h.run pins s σ H v u Q I r (k v σ H Q q)⟩
theorem pgs_imp {es : List Expr} {t t' : TGs} (h : PGs X es t) (k : ∀ v σ H Q, t' v σ H Q → t v σ H Q) : PGs X es t' := ⟨fun pins s σ H v u Q I r q => h.run pins s σ H v u Q I r (k v σ H Q q)⟩
/-- a shared value is stored in a slot -/
theorem store_sh {σ : L2.St} {ρ : Ev} {tv : L2.St} {ts : Ev} {H : Hp} {foot own : Nat → List Addr} (hl : ρ.length = σ.length) (o : OkW Z (σ ++ tv) (ρ ++ ts) H foot own) {v : V} {d : D} {as : List Addr} (r : DRep Z.w Z.K H true v d as) (sh : Shr Z own as) (i : Nat) :
    ∃ foot' own', OkW Z (σ.set i (some v) ++ tv) (setS ρ i (.vl .sh d) ++ ts) H foot' own' ∧ ∀ j a, a ∈ own' j → a ∈ own j := by
  by_cases hi : i < ρ.length
  · have q1 := o.take i
    have hi2 : i < (ρ ++ ts).length := by simp; omega
    have hu : ((ρ ++ ts).set i .un)[i]? = some .un := by rw [List.getElem?_set_self hi2]
    have q2 := q1.sset hu (some v)
    have q3 := q2.fill (i := i) (v := v) (k := .sh) (d := d) (ow := []) hu (by rw [List.getElem?_set_self (by simp; omega)]) r (sh.less put_less) (by simp) (fun j a _ h => by simp at h) rfl
    rw [set_set_same, List.set_append_left _ _ hi, List.set_append_left _ _ (by rw [← hl]; exact hi)] at q3
    refine ⟨_, _, q3, fun j a ha => ?_⟩
    obtain ⟨h1, h2⟩ := put_mem ha
    exact put_less j a h2
  · refine ⟨foot, own, ?_, fun _ _ h => h⟩
    have e1 : setS ρ i (.vl .sh d) = ρ := by unfold setS; exact List.set_eq_of_length_le (by omega)
    have e2 : σ.set i (some v) = σ := List.set_eq_of_length_le (by omega)
    rw [e1, e2]; exact o
theorem set_same {σ : L2.St} {i : Nat} {x : Option V} : Same [i] σ (σ.set i x) := ⟨by simp, fun j hj => List.getElem?_set_ne (fun e => hj (by simp [e]))⟩
theorem g_nm {i : Nat} {v : V} {σ : L2.St} {H : Hp} {Q : L2.St → Hp → Prop} (h : gSh Z (.nm i) v σ H Q) : gName i v σ H Q := by
  obtain ⟨ρ, tv, ts, foot, own, as, d, hl, o, r, sh, h⟩ := h
  simp only [bindT] at h
  obtain ⟨f, w, q, hw⟩ := store_sh hl o r sh i
  have fin : OutR (fun ρ' => ∀ σ', Same (ixT (.nm i)) σ σ' → ∀ foot' own', OkW Z (σ' ++ tv) (ρ' ++ ts) H foot' own' → ρ'.length = σ'.length → (∀ j a, a ∈ own' j → a ∈ own j) → Q σ' H) noEx (.ok (setS ρ i (.vl .sh d))) := by
    revert h
    split
    · exact fun h => h.elim
    · exact fun h => h.elim
    · exact fun h => h
  exact fin _ (by show Same [i] σ _; exact set_same) f w q (by unfold setS; simp [hl]) hw
theorem g_tp {X : Cx} (zx : ZX Z X) {t : List T} {v : V} {σ : L2.St} {H : Hp} {Q : L2.St → Hp → Prop} {n : Nat} (hn : t.length = n) (h : gSh Z (.tp t) v σ H Q) : gTup X.K n (gShs Z t) v σ H Q := by
  obtain ⟨ρ, tv, ts, foot, own, as, d, hl, o, r, sh, h⟩ := h
  cases d with
  | tuple ds =>
    simp only [bindT] at h
    obtain ⟨p, vs, as', rfl, q, rs, sh'⟩ := Arg1.tuple (own := own) True.intro ⟨as, r, .inl sh⟩
    refine ⟨p, vs, rfl, by rw [← zx.K]; exact q, ?_, ρ, tv, ts, foot, own, as', ds, hl, o, rs, sh', h⟩
    rw [rs.length, ← hn]
    have : ∀ (t : List T) (ds : List D) (ρ : Ev) (P : Ev → Prop), OutR P noEx (bindTs t ds ρ) → ds.length = t.length := by
      intro t
      induction t with
      | nil => intro ds ρ P h; cases ds with
        | nil => rfl
        | cons => exact h.elim
      | cons t ts ih => intro ds ρ P h; cases ds with
        | nil => exact h.elim
        | cons d ds =>
          simp only [bindTs] at h
          have h := h.bind
          cases e : bindT t d .sh ρ with
          | ok ρ' => rw [e] at h; simp [ih ds ρ' P h]
          | exc => rw [e] at h; exact h.elim
          | stk => rw [e] at h; exact h.elim
    exact this t ds ρ _ h
  | _ => exact h.elim
theorem g_nil {vs : List V} {σ : L2.St} {H : Hp} {Q : L2.St → Hp → Prop} (h : gShs Z [] vs σ H Q) : gNil vs σ H Q := by
  obtain ⟨ρ, tv, ts, foot, own, as, ds, hl, o, r, sh, h⟩ := h
  cases ds with
  | nil => cases r; exact ⟨rfl, h σ Same.refl foot own o hl fun _ _ h => h⟩
  | cons => exact h.elim
theorem g_cons {t : T} {ts' : List T} {vs : List V} {σ : L2.St} {H : Hp} {Q : L2.St → Hp → Prop} (h : gShs Z (t :: ts') vs σ H Q) : gCons (gSh Z t) (gShs Z ts') vs σ H Q := by
  obtain ⟨ρ, tv, ts, foot, own, as, ds, hl, o, r, sh, h⟩ := h
  cases ds with
  | nil => exact h.elim
  | cons d ds =>
    simp only [bindTs] at h
    cases r with
    | @cons v vs _ _ a1 a2 r rs =>
      refine ⟨v, vs, rfl, ρ, tv, ts, foot, own, a1, d, hl, o, r, sh.sub fun x hx => List.mem_append_left _ hx, h.bind.mono fun ρ' h σ' sm foot' own' o' hl' hw => ?_⟩
      exact ⟨ρ', tv, ts, foot', own', a2, ds, hl', o', rs, (sh.sub fun x hx => List.mem_append_right _ hx).less hw, h.mono fun ρ2 h σ2 sm2 f2 w2 o2 hl2 hw2 => h σ2 (sm.trans sm2) f2 w2 o2 hl2 fun j a ha => hw j a (hw2 j a ha)⟩
end
end TH
end
section
set_option Elab.async false
set_option linter.all false
set_option maxRecDepth 100000
namespace TH
open PySem PySem.Spec PyProof.Rows L2

section
variable {Z : Cf} {σ : L2.St} {ρ : Ev} {H H1 : Hp} {foot own : Nat → List Addr} {L P : List Addr} {hid : Nat → Option V}
theorem OkW.footB (o : OkW Z σ ρ H foot own) {i : Nat} {a : Addr} (h : a ∈ foot i) : a ∉ Z.B := by
  by_cases hi : i < ρ.length
  · have hs : i < σ.length := by rw [o.len]; exact hi
    have z := o.slot i _ _ (List.getElem?_eq_getElem hs) (List.getElem?_eq_getElem hi)
    cases e : ρ[i] with
    | un => rw [e] at z; rw [z.1] at h; simp at h
    | lk => rw [e] at z; rw [z.1] at h; simp at h
    | vl k d =>
      rw [e] at z
      obtain ⟨v, _, _, _, b⟩ := z
      exact b a h
  · rw [(o.nil i (by omega)).1] at h; simp at h
/-- what is hidden -/
structure Held (Z : Cf) (H1 : Hp) (L : List Addr) (v : V) (k : Own) (d : D) (as ow : List Addr) : Prop where
  rep : DRep Z.w Z.K H1 (k != .fr) v d as
  ko : KOwn Z.ia Z.w Z.K H1 v d as ow k
  offL : ∀ a ∈ as, a ∉ L
  offB : Off as Z.B
  mine : ∀ a ∈ ow, a ∈ as ∧ (a ∈ Z.Lio ∨ Z.He a = none)
theorem OkW.refill {v : V} {k : Own} {d : D} {as ow : List Addr} (b : Back Z H1 L) (hL : ∀ x ∈ L, OwnA H1 x) (h : Held Z H1 L v k d as ow) (o : OkW (Z.sub H1 L P hid) σ ρ H foot own) (hP : ∀ a ∈ ow, a ∈ P) {i : Nat} (hi : ρ[i]? = some .un) (hv : σ[i]? = some (some v))
    (hh : ∀ j : Nat, ρ[j]? = some .lk → σ[j]? = some (Z.hid j)) : OkW Z σ (ρ.set i (.vl k d)) H (put foot i as) (put own i ow) := by
  have q := o.back b hh
  have kb : KeepBut L H1 H := o.keep
  refine q.fill hi hv (h.rep.keep kb hL h.offL) ⟨fun a ha j hj => ?_, h.offB⟩ h.mine (fun j a ha hb => ?_) (h.ko.keep kb hL h.offL)
  · rcases (o.mine j a hj).2 with z | z
    · exact h.offL a ha z
    · exact (h.rep.own a ha).some z
  · exact o.footB ha (List.mem_append_left _ (hP a hb))
theorem OkW.held (o : OkW Z σ ρ H foot own) {i : Nat} {k : Own} {d : D} {v : V} (h : ρ[i]? = some (.vl k d)) (hv : σ[i]? = some (some v)) (hl : ∀ a ∈ L, ∃ j, j ≠ i ∧ a ∈ own j) : Held Z H L v k d (foot i) (own i) := by
  obtain ⟨v', e, r, ko, hB⟩ := o.at h
  rw [hv] at e; cases e
  refine ⟨r, ko, fun a ha z => ?_, hB, fun a ha => o.mine i a ha⟩
  obtain ⟨j, hj, z⟩ := hl a z
  exact hj (o.sep i j a ha z).symm
theorem OkW.mklk (o : OkW Z σ ρ H foot own) {i : Nat} (hi : ρ[i]? = some .un) (hv : σ[i]? = some (Z.hid i)) : OkW Z σ (ρ.set i .lk) H foot own := by
  have hl := lt_of_get hi
  refine ⟨by simpa using o.len, fun j ov s e1 e2 => ?_, fun j hj => o.nil j (by simpa using hj), o.sep, o.mine, o.keep, o.io, o.oth, fun j e => ?_⟩
  · by_cases hj : j = i
    · subst hj
      rw [List.getElem?_set_self hl] at e2
      cases e2
      have q := o.slot j ov .un e1 hi
      exact q
    · rw [List.getElem?_set_ne (Ne.symm hj)] at e2
      exact o.slot j ov s e1 e2
  · by_cases hj : j = i
    · subst hj; exact hv
    · rw [List.getElem?_set_ne (Ne.symm hj)] at e
      exact o.lk j e
end
def flP (Z : Cf) (D : Ends) : Fl → Prop
  | .next ρ => ∀ σ' H', Sta Z σ' ρ [] [] H' → D.nx σ' H'
  | .ret d k ρ => ∀ v σ' H', Sta Z σ' ρ [some v] [.vl k d] H' → D.rt v H'
  | .brk ρ => ∀ σ' H', Sta Z σ' ρ [] [] H' → D.bk σ' H'
  | .cont ρ => ∀ σ' H', Sta Z σ' ρ [] [] H' → D.ct σ' H'
def tS (G : Glob) (Z : Cf) (fuel : Nat) (s : S) : TS := fun D σ H => ∃ ρ, Sta Z σ ρ [] [] H ∧ OutR (flP Z D) noEx (evS G fuel s ρ)
def tSs (G : Glob) (Z : Cf) (fuel : Nat) (s : List S) : TS := fun D σ H => ∃ ρ, Sta Z σ ρ [] [] H ∧ OutR (flP Z D) noEx (evSs G fuel s ρ)
def tSsx (G : Glob) (X : Cx) (fuel : Nat) (s : List S) : TS := fun D σ H => ∃ Z, ZX Z X ∧ tSs G Z fuel s D σ H
def gShx (X : Cx) (t : T) : TG := fun v σ H Q => ∃ Z, ZX Z X ∧ gSh Z t v σ H Q
section
variable {G : Glob} {Z : Cf} {X : Cx}
/-- the loop over what is walked, under another entry -/
theorem for_core {fuel : Nat} {t : T} {body : List S} {E : Ends} {σ : L2.St} {ρ : Ev} {H1 : Hp} {Z' : Cf} {J : It} {items : List D} {post : Fl → Prop} (zx : ZX Z' X) (he : Z'.He = H1) (wk : WalkOk Z'.w Z'.K H1 Z'.Lio Z'.B J items) (hl : ρ.length = σ.length) (o : Ok Z' σ ρ H1)
    (pn : ∀ ρ', post (.next ρ') → ∀ σ' H', ρ'.length = σ'.length → Ok Z' σ' ρ' H' → E.nx σ' H') (pr : ∀ d k ρ', post (.ret d k ρ') → ∀ v σ' H', ρ'.length = σ'.length → Ok Z' (σ' ++ [some v]) (ρ' ++ [.vl k d]) H' → E.rt v H')
    (h : OutR post noEx (forLoop (fun x ρ => (bindT t x .sh ρ).bind fun ρ => evSs G fuel body ρ) items ρ)) :
    ∃ W : Nat → Nat → L2.St → Hp → Prop, (∃ m, W 0 m σ H1) ∧ ∀ i m σ H, W i m σ H → (J.stop i H ∧ E.nx σ H) ∨ (J.go i H ∧ ∃ N : L2.St → Hp → Prop, (∀ σ' H', N σ' H' → ∃ m', m' < m ∧ W (i + 1) m' σ' H') ∧
      ∀ x H', J.yld i H x H' → gShx X t x σ H' fun σ2 H2 => tSsx G X fuel body { E with nx := N, ct := N, bk := E.nx } σ2 H2) := by
  let F := fun x ρ => (bindT t x .sh ρ).bind fun ρ => evSs G fuel body ρ
  refine ⟨fun i m σ H => m = items.length - i ∧ i ≤ items.length ∧ ∃ ρ, ρ.length = σ.length ∧ Ok Z' σ ρ H ∧ OutR post noEx (forLoop F (items.drop i) ρ), ⟨_, rfl, Nat.zero_le _, ρ, hl, o, by simpa using h⟩, ?_⟩
  rintro i m σ H ⟨rfl, hi, ρ, hl, o, h⟩
  have kb : KeepBut Z'.Lio H1 H := by obtain ⟨f, w, q⟩ := o; rw [← he]; exact q.keep
  by_cases hlt : i < items.length
  · refine .inr ?_
    have hd : items.drop i = items[i] :: items.drop (i + 1) := List.drop_eq_getElem_cons hlt
    rw [hd] at h
    obtain ⟨g1, g2⟩ := wk.go H i _ kb (List.getElem?_eq_getElem hlt)
    refine ⟨g1, fun σ' H' => ∃ ρ', ρ'.length = σ'.length ∧ Ok Z' σ' ρ' H' ∧ OutR post noEx (forLoop F (items.drop (i + 1)) ρ'), fun σ' H' ⟨ρ', q1, q2, q3⟩ => ⟨items.length - (i + 1), by omega, rfl, hlt, ρ', q1, q2, q3⟩, fun x H' hy => ?_⟩
    obtain ⟨k1, as, r, hs⟩ := g2 x H' hy
    obtain ⟨foot, own, q⟩ := o
    have q' : OkW Z' σ ρ H' foot own := q.heap (S := []) k1 (by simp) (fun _ _ _ z => by simp at z) (by simp) (by simp)
    have h2 : OutR post noEx ((F items[i] ρ).bind fun r => match r with | .next ρ => forLoop F (items.drop (i + 1)) ρ | .cont ρ => forLoop F (items.drop (i + 1)) ρ | .brk ρ => .ok (.next ρ) | .ret d k ρ => .ok (.ret d k ρ)) := h
    have h3 : OutR (fun ρ' => OutR (fun r => OutR post noEx (match r with | .next ρ => forLoop F (items.drop (i + 1)) ρ | .cont ρ => forLoop F (items.drop (i + 1)) ρ | .brk ρ => .ok (.next ρ) | .ret d k ρ => .ok (.ret d k ρ))) noEx (evSs G fuel body ρ')) noEx (bindT t items[i] .sh ρ) := (h2.bind).bind
    refine ⟨Z', zx, ρ, [], [], foot, own, as, _, hl, by simpa using q', r, ⟨fun a ha j hj => ?_, fun a ha => (hs a ha).2.2⟩, h3.mono fun ρ' h4 σ2 sm f2 w2 o2 hl2 hw => ⟨Z', zx, ρ', ⟨hl2, f2, w2, o2⟩, h4.mono fun r hr => ?_⟩⟩
    · rcases (q.mine j a hj).2 with z | z
      · exact (hs a ha).2.1 z
      · rw [he] at z; exact (hs a ha).1 z
    · cases r with
      | next ρ2 => exact fun σ' H2 s => ⟨ρ2, s.len, by simpa using s.ok, hr⟩
      | cont ρ2 => exact fun σ' H2 s => ⟨ρ2, s.len, by simpa using s.ok, hr⟩
      | brk ρ2 => exact fun σ' H2 s => pn ρ2 hr σ' H2 s.len (by simpa using s.ok)
      | ret d k ρ2 => exact fun v σ' H2 s => pr d k ρ2 hr v σ' H2 s.len (by simpa using s.ok)
  · refine .inl ⟨wk.stop H i kb (by omega), ?_⟩
    have hd : items.drop i = [] := List.drop_eq_nil_of_le (by omega)
    rw [hd] at h
    exact pn ρ h σ H hl o
theorem sub_zx (zx : ZX Z X) {H1 : Hp} {L P : List Addr} {hid : Nat → Option V} : ZX (Z.sub H1 L P hid) X := ⟨zx.K, zx.w⟩
theorem lock_none {src : C} {ρ : Ev} (h : lockOf src ρ = none) {i : Nat} (hs : hideOf src = some i) : ∀ k d, ρ[i]? = some (.vl k d) → k = .sh := by
  intro k d e
  cases src with
  | pt j =>
    have : j = i := Option.some.inj hs
    subst this
    have hg : getS ρ j = .vl k d := by unfold getS; rw [e]; rfl
    simp only [lockOf, hg] at h
    cases k <;> first | rfl | cases h
  | _ => cases hs
theorem lock_some {src : C} {ρ : Ev} {i : Nat} (h : lockOf src ρ = some i) : hideOf src = some i ∧ ∃ k d, k ≠ .sh ∧ getS ρ i = .vl k d := by
  cases src <;> simp [lockOf] at h
  rename_i j
  cases hg : getS ρ j with
  | un => rw [hg] at h; simp at h
  | lk => rw [hg] at h; simp at h
  | vl k d =>
    rw [hg] at h
    cases k <;> simp at h <;> subst h <;> exact ⟨rfl, _, _, by simp, hg⟩
theorem own_sh {Z : Cf} {σ : L2.St} {ρ : Ev} {H : Hp} {foot own : Nat → List Addr} (o : OkW Z σ ρ H foot own) {i : Nat} (h : ∀ k d, ρ[i]? = some (.vl k d) → k = .sh) : own i = [] := by
  by_cases hi : i < ρ.length
  · have hs : i < σ.length := by rw [o.len]; exact hi
    have z := o.slot i _ _ (List.getElem?_eq_getElem hs) (List.getElem?_eq_getElem hi)
    cases e : ρ[i] with
    | un => rw [e] at z; exact z.2
    | lk => rw [e] at z; exact z.2
    | vl k d =>
      rw [e] at z
      have := h k d (by rw [List.getElem?_eq_getElem hi, e])
      subst this
      obtain ⟨v, _, _, b, _⟩ := z
      exact b
  · exact (o.nil i (by omega)).2
theorem for_red {fuel : Nat} {t : T} {src : C} {body : List S} {E : Ends} {σ : L2.St} {H : Hp} (zx : ZX Z X) (h : tS G Z fuel (.for_ t src body) E σ H) : tFor (tSrc G Z src) (gShx X t) (tSsx G X fuel body) E σ H := by
  obtain ⟨ρ, s, h⟩ := h
  simp only [evS] at h
  refine ⟨ρ, [], [], s, h.bind.mono fun r hr J H1 ⟨hl, foot, own, o, wk⟩ => ?_⟩
  have o : OkW Z σ r.2 H1 foot own := by simpa using o
  cases hk : lockOf src r.2 with
  | none =>
    rw [hk] at hr
    have hr : OutR (flP Z E) noEx (forLoop (fun x ρ => (bindT t x .sh ρ).bind fun ρ => evSs G fuel body ρ) r.1 r.2) := hr
    obtain ⟨L, q, b, hL, _⟩ := o.rebase (P := []) (hid := Z.hid) (by simp) o.lk
    have hidE : hidB own (hideOf src) = [] := by
      cases hh : hideOf src with
      | none => rfl
      | some i => exact own_sh o (lock_none hk hh)
    have wk' := wk L fun a ha => by
      obtain ⟨j, hj⟩ := hL a ha
      refine ⟨j, hj, fun z => ?_⟩
      have : own j = [] := own_sh o (lock_none hk z.symm)
      rw [this] at hj; simp at hj
    rw [hidE] at wk'
    refine for_core (Z' := Z.sub H1 L [] Z.hid) (post := flP Z E) (sub_zx zx) rfl wk' hl ⟨_, _, q⟩ (fun ρ' hp σ' H' hl' o' => ?_) (fun d k ρ' hp v σ' H' hl' o' => ?_) hr
    · obtain ⟨f, w, o'⟩ := o'
      exact hp σ' H' ⟨hl', f, w, by simpa using o'.back b o'.lk⟩
    · obtain ⟨f, w, o'⟩ := o'
      exact hp v σ' H' ⟨hl', f, w, o'.back b o'.lk⟩
  | some i =>
    rw [hk] at hr
    obtain ⟨hh, k, d, hks, hg⟩ := lock_some hk
    have hr : OutR (fun q => OutR (flP Z E) noEx (unlock i (getS r.2 i) q)) noEx (forLoop (fun x ρ => (bindT t x .sh ρ).bind fun ρ => evSs G fuel body ρ) r.1 (setS r.2 i .lk)) := OutR.bind hr
    rw [hg] at hr
    have hgi := getS_at hg
    have hi := getS_lt hg
    obtain ⟨v, hv, _⟩ := o.at hgi
    have q1 := o.take i
    let hid' : Nat → Option V := fun j => if j = i then some v else Z.hid j
    have hoff : ∀ a ∈ own i, H1 a ≠ none ∧ ∀ j, a ∉ put foot i [] j := fun a ha => ⟨(o.footOwn (o.mine i a ha).1).some, fun j hj => by
      obtain ⟨hji, hj⟩ := put_mem hj
      exact hji (o.sep j i a hj ha)⟩
    obtain ⟨L, q2, b, hL, _⟩ := q1.rebase (P := own i) (hid := hid') hoff (fun j e => by
      have hj : j ≠ i := fun z => by
        subst z
        rw [List.getElem?_set_self hi] at e; cases e
      have := q1.lk j e
      show σ[j]? = some (hid' j)
      rw [this]
      simp [hid', hj])
    have hL1 : ∀ a ∈ L, ∃ j, j ≠ i ∧ a ∈ own j := fun a ha => by
      obtain ⟨j, hj⟩ := hL a ha
      obtain ⟨h1, h2⟩ := put_mem hj
      exact ⟨j, h1, h2⟩
    have hLo : ∀ x ∈ L, OwnA H1 x := fun x hx => by
      obtain ⟨j, _, hj⟩ := hL1 x hx
      exact o.footOwn (o.mine j x hj).1
    have held := o.held (L := L) hgi hv hL1
    have q3 := q2.mklk (i := i) (by rw [List.getElem?_set_self hi]) (by
      show σ[i]? = some (hid' i)
      rw [hv]; simp [hid'])
    rw [set_set_same] at q3
    have wk' := wk L fun a ha => by
      obtain ⟨j, h1, h2⟩ := hL1 a ha
      exact ⟨j, h2, fun z => by rw [hh] at z; exact h1 (Option.some.inj z)⟩
    rw [hh] at wk'
    -- behind the loop
    have fin : ∀ (ρ' : Ev) (σ' : L2.St) (H' : Hp) (tv : L2.St) (ts : Ev), ρ'.length = σ'.length → Ok (Z.sub H1 L (own i) hid') (σ' ++ tv) (ρ' ++ ts) H' → isLk (getS ρ' i) = true → Sta Z σ' (setS ρ' i (.vl k d)) tv ts H' := fun ρ' σ' H' tv ts hl' ⟨f, w, o'⟩ hlk => by
      have e1 : ρ'[i]? = some .lk := by
        unfold getS at hlk
        cases e : ρ'[i]? with
        | none => rw [e] at hlk; cases hlk
        | some x => rw [e] at hlk; cases x <;> first | rfl | cases hlk
      have hi' := lt_of_get e1
      have e2 : (ρ' ++ ts)[i]? = some .lk := by rw [List.getElem?_append_left hi']; exact e1
      have e3 := o'.lk i e2
      have e3 : (σ' ++ tv)[i]? = some (some v) := by rw [e3]; simp [Cf.sub, hid']
      have o2 := o'.take i
      have e4 : ((ρ' ++ ts).set i .un)[i]? = some .un := by rw [List.getElem?_set_self (lt_of_get e2)]
      have o3 := o2.refill (v := v) (k := k) (d := d) (as := foot i) (ow := own i) b hLo held (fun a ha => ha) e4 e3 (fun j e => by
        have hj : j ≠ i := fun z => by subst z; rw [e4] at e; cases e
        have := o2.lk j e
        rw [this]; simp [Cf.sub, hid', hj])
      rw [set_set_same, List.set_append_left _ _ hi'] at o3
      exact ⟨by unfold setS; simpa using hl', _, _, o3⟩
    refine for_core (Z' := Z.sub H1 L (own i) hid') (post := fun q => OutR (flP Z E) noEx (unlock i (.vl k d) q)) (sub_zx zx) rfl wk' (by simpa [setS] using hl) ⟨_, _, q3⟩ (fun ρ' hp σ' H' hl' o' => ?_) (fun d' k' ρ' hp v' σ' H' hl' o' => ?_) hr
    · simp only [unlock] at hp
      by_cases hlk : isLk (getS ρ' i) = true
      · rw [if_pos hlk] at hp
        exact hp σ' H' (fin ρ' σ' H' [] [] hl' (by simpa using o') hlk)
      · rw [if_neg hlk] at hp; exact hp.elim
    · simp only [unlock] at hp
      by_cases hlk : isLk (getS ρ' i) = true
      · rw [if_pos hlk] at hp
        exact hp v' σ' H' (fin ρ' σ' H' _ _ hl' o' hlk)
      · rw [if_neg hlk] at hp; exact hp.elim
end
end TH
end
section
set_option Elab.async false
set_option linter.all false
set_option maxRecDepth 100000
namespace TH
open PySem PySem.Spec PyProof.Rows L2

section
variable {Z : Cf} {H : Hp}
theorem getS_set {ρ : Ev} {i j : Nat} {s : Slot} (h : j ≠ i) : getS (setS ρ i s) j = getS ρ j := by
  unfold getS setS
  rw [List.getElem?_set_ne (Ne.symm h)]
theorem set_len {ρ : Ev} {i : Nat} {s : Slot} : (setS ρ i s).length = ρ.length := by unfold setS; simp
/-- slots are shared -/
theorem OkW.shareAll : ∀ (own0 : List Nat) {σ : L2.St} {ρ : Ev} {tv : L2.St} {ts : Ev} {foot own : Nat → List Addr}, OkW Z (σ ++ tv) (ρ ++ ts) H foot own → ρ.length = σ.length →
    ∃ own', OkW Z (σ ++ tv) (shareS ρ own0 ++ ts) H foot own' ∧ (∀ j a, a ∈ own' j → a ∈ own j) ∧ (∀ j, j ∉ own0 → own' j = own j ∧ getS (shareS ρ own0) j = getS ρ j) ∧ (shareS ρ own0).length = ρ.length ∧ (∀ j ∈ own0, ∀ k d, getS (shareS ρ own0) j = .vl k d → k = .sh ∧ own' j = []) ∧ ∀ j, (∀ k d, getS ρ j = .vl k d → k = .sh) → ∀ k d, getS (shareS ρ own0) j = .vl k d → k = .sh
  | [], σ, ρ, tv, ts, foot, own, o, hl => ⟨own, o, fun _ _ h => h, fun _ _ => ⟨rfl, rfl⟩, rfl, fun _ h => by simp at h, fun _ h => h⟩
  | i :: is, σ, ρ, tv, ts, foot, own, o, hl => by
    have step : ∃ ρ1 own1, ρ1 = (match getS ρ i with | .vl _ d => setS ρ i (.vl .sh d) | _ => ρ) ∧ OkW Z (σ ++ tv) (ρ1 ++ ts) H foot own1 ∧ (∀ j a, a ∈ own1 j → a ∈ own j) ∧ (∀ j, j ≠ i → own1 j = own j ∧ getS ρ1 j = getS ρ j) ∧ ρ1.length = ρ.length ∧ (∀ k d, getS ρ1 i = .vl k d → k = .sh ∧ own1 i = []) := by
      cases hg : getS ρ i with
      | un => exact ⟨ρ, own, rfl, o, fun _ _ h => h, fun _ _ => ⟨rfl, rfl⟩, rfl, fun k d h => by rw [hg] at h; cases h⟩
      | lk => exact ⟨ρ, own, rfl, o, fun _ _ h => h, fun _ _ => ⟨rfl, rfl⟩, rfl, fun k d h => by rw [hg] at h; cases h⟩
      | vl k d =>
        have hi := getS_lt hg
        have h1 : (ρ ++ ts)[i]? = some (.vl k d) := by rw [List.getElem?_append_left hi]; exact getS_at hg
        obtain ⟨v, hv, _⟩ := o.at h1
        have q := o.reslot (k' := .sh) (ow := []) h1 hv rfl (fun z => by cases z) (by simp)
        rw [List.set_append_left _ _ hi] at q
        refine ⟨setS ρ i (.vl .sh d), _, rfl, q, fun j a h => put_less j a h, fun j hj => ⟨put_ne hj, getS_set hj⟩, set_len, fun k' d' h => ?_⟩
        have : getS (setS ρ i (.vl .sh d)) i = .vl .sh d := by
          unfold getS setS; rw [List.getElem?_set_self hi]; rfl
        rw [this] at h
        cases h
        exact ⟨rfl, put_same⟩
    obtain ⟨ρ1, own1, e1, q1, s1, s2, s3, s4⟩ := step
    obtain ⟨own', q2, t1, t2, t3, t4, t5⟩ := OkW.shareAll is q1 (s3.trans hl)
    have e : shareS ρ (i :: is) = shareS ρ1 is := by rw [e1]; rfl
    rw [e]
    have sh1 : ∀ j, (∀ k d, getS ρ j = .vl k d → k = .sh) → ∀ k d, getS ρ1 j = .vl k d → k = .sh := fun j hj k d h => by
      by_cases hji : j = i
      · subst hji; exact (s4 k d h).1
      · rw [(s2 j hji).2] at h; exact hj k d h
    refine ⟨own', q2, fun j a h => s1 j a (t1 j a h), fun j hj => ?_, t3.trans s3, fun j hj k d h => ?_, fun j hj k d h => t5 j (sh1 j hj) k d h⟩
    · have h1 : j ≠ i := fun z => hj (by simp [z])
      have h2 : j ∉ is := fun z => hj (List.mem_cons_of_mem _ z)
      exact ⟨(t2 j h2).1.trans (s2 j h1).1, (t2 j h2).2.trans (s2 j h1).2⟩
    · by_cases hji : j ∈ is
      · exact t4 j hji k d h
      · have : j = i := (List.mem_cons.mp hj).resolve_right hji
        subst this
        rw [(t2 j hji).2] at h
        exact ⟨(s4 k d h).1, by rw [(t2 j hji).1]; exact (s4 k d h).2⟩
theorem wipe_get {hs : List Nat} : ∀ {ρ : Ev} {j : Nat}, j ∉ hs → getS (wipeS ρ hs) j = getS ρ j := by
  induction hs with
  | nil => intro ρ j _; rfl
  | cons i is ih =>
    intro ρ j hj
    show getS (wipeS (setS ρ i .un) is) j = _
    rw [ih (fun z => hj (List.mem_cons_of_mem _ z)), getS_set (fun z => hj (by simp [z]))]
theorem wipe_len {hs : List Nat} : ∀ {ρ : Ev}, (wipeS ρ hs).length = ρ.length := by
  induction hs with
  | nil => intro ρ; rfl
  | cons i is ih => intro ρ; show (wipeS (setS ρ i .un) is).length = _; rw [ih, set_len]
theorem wipe_un {hs : List Nat} : ∀ {ρ : Ev} {i : Nat}, i ∈ hs → i < ρ.length → (wipeS ρ hs)[i]? = some .un := by
  induction hs with
  | nil => intro ρ i h; simp at h
  | cons k is ih =>
    intro ρ i h hl
    show (wipeS (setS ρ k .un) is)[i]? = _
    by_cases hm : i ∈ is
    · exact ih hm (by rw [set_len]; exact hl)
    · have : i = k := (List.mem_cons.mp h).resolve_right hm
      subst this
      have e := wipe_get (ρ := setS ρ i .un) hm
      have hl2 : i < (wipeS (setS ρ i .un) is).length := by rw [wipe_len, set_len]; exact hl
      unfold getS at e
      rw [List.getElem?_eq_getElem hl2] at e ⊢
      have e3 : (setS ρ i .un)[i]? = some .un := by unfold setS; rw [List.getElem?_set_self hl]
      rw [e3] at e
      exact congrArg some e
/-- slots are emptied -/
theorem OkW.wipeAll : ∀ (hs : List Nat) {σ : L2.St} {ρ : Ev} {tv : L2.St} {ts : Ev} {foot own : Nat → List Addr}, OkW Z (σ ++ tv) (ρ ++ ts) H foot own →
    (∀ i ∈ hs, i < ρ.length) → ∃ foot' own', OkW Z (σ ++ tv) (wipeS ρ hs ++ ts) H foot' own' ∧ (∀ j, j ∉ hs → foot' j = foot j ∧ own' j = own j) ∧ ∀ j ∈ hs, foot' j = [] ∧ own' j = []
  | [], σ, ρ, tv, ts, foot, own, o, _ => ⟨foot, own, o, fun _ _ => ⟨rfl, rfl⟩, fun _ h => by simp at h⟩
  | i :: is, σ, ρ, tv, ts, foot, own, o, hb => by
    have q := o.take i
    rw [List.set_append_left _ _ (hb i (by simp))] at q
    obtain ⟨f, w, q2, h1, h2⟩ := OkW.wipeAll is (ρ := setS ρ i .un) q (fun j hj => by rw [set_len]; exact hb j (List.mem_cons_of_mem _ hj))
    refine ⟨f, w, q2, fun j hj => ?_, fun j hj => ?_⟩
    · have a1 : j ≠ i := fun z => hj (by simp [z])
      have a2 : j ∉ is := fun z => hj (List.mem_cons_of_mem _ z)
      rw [(h1 j a2).1, (h1 j a2).2, put_ne a1, put_ne a1]
      exact ⟨rfl, rfl⟩
    · by_cases hm : j ∈ is
      · exact h2 j hm
      · have : j = i := (List.mem_cons.mp hj).resolve_right hm
        subst this
        rw [(h1 j hm).1, (h1 j hm).2, put_same, put_same]
        exact ⟨rfl, rfl⟩
/-- .. and filled again -/
theorem OkW.restore {foot0 own0 : Nat → List Addr} {ρs : Ev} (sep0 : ∀ i j a, a ∈ foot0 i → a ∈ own0 j → i = j) : ∀ (hs : List Nat) {σ : L2.St} {ρ : Ev} {tv : L2.St} {ts : Ev} {f w : Nat → List Addr}, hs.Nodup → OkW Z (σ ++ tv) (ρ ++ ts) H f w → ρ.length = σ.length → (∀ i ∈ hs, ρ[i]? = some .un) → (∀ i ∈ hs, getS ρs i ≠ .lk) →
    (∀ i ∈ hs, ∀ k d, getS ρs i = .vl k d → ∃ v, σ[i]? = some (some v) ∧ DRep Z.w Z.K H (k != .fr) v d (foot0 i) ∧ KOwn Z.ia Z.w Z.K H v d (foot0 i) (own0 i) k ∧ Off (foot0 i) Z.B ∧ (∀ a ∈ own0 i, a ∈ foot0 i ∧ (a ∈ Z.Lio ∨ Z.He a = none)) ∧ (∀ a ∈ foot0 i, ∀ j, a ∉ w j) ∧ ∀ j a, a ∈ f j → a ∉ own0 i) →
    Ok Z (σ ++ tv) (backS ρ ρs hs ++ ts) H
  | [], σ, ρ, tv, ts, f, w, _, o, _, _, _, _ => ⟨f, w, o⟩
  | i :: is, σ, ρ, tv, ts, f, w, nd, o, hl, hu, hk, hd => by
    have nd := List.nodup_cons.mp nd
    have hi : ρ[i]? = some .un := hu i (by simp)
    have hil := lt_of_get hi
    have hu' : ∀ s, ∀ j ∈ is, (setS ρ i s)[j]? = some .un := fun s j hj => by
      have : j ≠ i := fun z => nd.1 (z ▸ hj)
      unfold setS
      rw [List.getElem?_set_ne (Ne.symm this)]
      exact hu j (List.mem_cons_of_mem _ hj)
    have go : ∀ (s : Slot) (f' w' : Nat → List Addr), getS ρs i = s → OkW Z (σ ++ tv) (setS ρ i s ++ ts) H f' w' → (∀ j ∈ is, ∀ k d, getS ρs j = .vl k d → (∀ a ∈ foot0 j, ∀ l, a ∉ w' l) ∧ ∀ l a, a ∈ f' l → a ∉ own0 j) → Ok Z (σ ++ tv) (backS ρ ρs (i :: is) ++ ts) H := fun s f' w' es o' hh => by
      have e : backS ρ ρs (i :: is) = backS (setS ρ i s) ρs is := by rw [← es]; rfl
      rw [e]
      refine OkW.restore sep0 is nd.2 o' (by rw [set_len]; exact hl) (hu' s) (fun j hj => hk j (List.mem_cons_of_mem _ hj)) fun j hj k d h => ?_
      obtain ⟨v, g1, g2, g3, g4, g5, _, _⟩ := hd j (List.mem_cons_of_mem _ hj) k d h
      obtain ⟨g6, g7⟩ := hh j hj k d h
      exact ⟨v, g1, g2, g3, g4, g5, g6, g7⟩
    cases hs : getS ρs i with
    | lk => exact absurd hs (hk i (by simp))
    | un =>
      refine go .un f w hs ?_ fun j hj k d h => ?_
      · have : setS ρ i .un = ρ := by
          unfold setS
          apply List.ext_getElem?
          intro j
          by_cases hj : j = i
          · subst hj; rw [List.getElem?_set_self hil, hi]
          · rw [List.getElem?_set_ne (Ne.symm hj)]
        rw [this]; exact o
      · obtain ⟨v, _, _, _, _, _, g6, g7⟩ := hd j (List.mem_cons_of_mem _ hj) k d h
        exact ⟨g6, g7⟩
    | vl k d =>
      obtain ⟨v, g1, g2, g3, g4, g5, g6, g7⟩ := hd i (by simp) k d hs
      have q := o.fill (i := i) (v := v) (k := k) (d := d) (as := foot0 i) (ow := own0 i) (by rw [List.getElem?_append_left hil]; exact hi) (by rw [List.getElem?_append_left (lt_of_get g1)]; exact g1) g2 ⟨g6, g4⟩ g5 (fun j a ha hb => g7 j a ha hb) g3
      rw [List.set_append_left _ _ hil] at q
      refine go (.vl k d) _ _ hs q fun j hj k' d' h => ?_
      obtain ⟨v', _, _, _, _, _, m6, m7⟩ := hd j (List.mem_cons_of_mem _ hj) k' d' h
      have hji : j ≠ i := fun z => nd.1 (z ▸ hj)
      refine ⟨fun a ha l hl' => ?_, fun l a ha hb => ?_⟩
      · by_cases hli : l = i
        · rw [hli, put_same] at hl'
          exact hji (sep0 j i a ha hl')
        · rw [put_ne hli] at hl'
          exact m6 a ha l hl'
      · by_cases hli : l = i
        · rw [hli, put_same] at ha
          exact hji (sep0 i j a ha hb).symm
        · rw [put_ne hli] at ha
          exact m7 l a ha hb
end
end TH
end
section
set_option Elab.async false
set_option linter.all false
set_option maxRecDepth 100000
namespace TH
open PySem PySem.Spec PyProof.Rows L2

theorem outR_ok {α : Type} {P : α → Prop} {r : Res α} (h : OutR P noEx r) : ∃ a, r = .ok a ∧ P a := by
  cases r with
  | ok a => exact ⟨a, rfl, h⟩
  | exc => exact h.elim
  | stk => exact h.elim
theorem outR_noExc {α : Type} {P : α → Prop} {r : Res α} (h : OutR P noEx (noExc r)) : OutR P noEx r := by
  cases r with
  | ok a => exact h
  | exc => exact h.elim
  | stk => exact h.elim
def tT (G : Glob) (Z : Cf) (ifs : List C) : TT := fun σ H Q => ∃ ρ tv ts, Sta Z σ ρ tv ts H ∧ OutR (fun t => ∀ H', Sta Z σ t.2 tv ts H' → Q t.1 H') noEx (evT G ifs ρ)
def tTx (G : Glob) (X : Cx) (ifs : List C) : TT := fun σ H Q => ∃ Z, ZX Z X ∧ tT G Z ifs σ H Q
def tEx (G : Glob) (X : Cx) (c : C) : TE := fun σ H Q => ∃ Z, ZX Z X ∧ tE G Z noEx c σ H Q
theorem lcF_len {bd : D → Ev → Res Ev} {test : Ev → Res (Bool × Ev)} {elt : Ev → Res (D × Own × Ev)} {hs : List Nat} {x : D} {acc : List D × Bool} {ρ : Ev} {r : (List D × Bool) × Ev} (h : lcF bd test elt hs x acc ρ = .ok r) : acc.1.length ≤ r.1.1.length := by
  unfold lcF at h
  cases e1 : bd x ρ with
  | exc => rw [e1] at h; cases h
  | stk => rw [e1] at h; cases h
  | ok ρ1 =>
    rw [e1] at h
    simp only [Res.bind] at h
    cases e2 : test ρ1 with
    | exc => rw [e2] at h; cases h
    | stk => rw [e2] at h; cases h
    | ok t =>
      rw [e2] at h
      simp only [] at h
      by_cases ht : t.1 = true
      · rw [if_pos ht] at h
        cases e3 : elt t.2 with
        | exc => rw [e3] at h; cases h
        | stk => rw [e3] at h; cases h
        | ok q => rw [e3] at h; cases h; simp
      · rw [if_neg ht] at h; cases h; exact Nat.le_refl _
theorem loop_len {f : D → List D × Bool → Ev → Res ((List D × Bool) × Ev)} (hf : ∀ x acc ρ r, f x acc ρ = .ok r → acc.1.length ≤ r.1.1.length) : ∀ (xs : List D) (acc : List D × Bool) (ρ : Ev) (r : (List D × Bool) × Ev), loop f xs acc ρ = .ok r → acc.1.length ≤ r.1.1.length
  | [], acc, ρ, r, h => by cases h; exact Nat.le_refl _
  | x :: xs, acc, ρ, r, h => by
    have h : (f x acc ρ).bind (fun r => loop f xs r.1 r.2) = .ok r := h
    cases e : f x acc ρ with
    | exc => rw [e] at h; cases h
    | stk => rw [e] at h; cases h
    | ok q =>
      rw [e] at h
      exact Nat.le_trans (hf _ _ _ _ e) (loop_len hf xs q.1 q.2 r h)
section
variable {Z : Cf} {H : Hp}
theorem OkW.sigma {σ σ' : L2.St} {ρ : Ev} {f w : Nat → List Addr} (o : OkW Z σ ρ H f w) (hl : σ'.length = σ.length) (h : ∀ i : Nat, ρ[i]? ≠ some .un → σ'[i]? = σ[i]?) : OkW Z σ' ρ H f w := by
  refine ⟨hl.trans o.len, fun i ov s e1 e2 => ?_, o.nil, o.sep, o.mine, o.keep, o.io, o.oth, fun i e => ?_⟩
  · by_cases hu : ρ[i]? = some .un
    · rw [hu] at e2; cases e2
      have hi : i < σ.length := by rw [o.len]; exact lt_of_get hu
      have := o.slot i _ .un (List.getElem?_eq_getElem hi) hu
      exact this
    · rw [h i hu] at e1
      exact o.slot i ov s e1 e2
  · rw [h i (by rw [e]; simp)]
    exact o.lk i e
theorem l2wipe_get {σ : L2.St} {i : Nat} : ∀ {vs : List Nat}, i ∉ vs → (L2.wipe σ vs)[i]? = σ[i]?
  | [], _ => rfl
  | v :: vs, h => by
    show ((L2.wipe σ vs).set v none)[i]? = _
    rw [List.getElem?_set_ne (fun e => h (by simp [e])), l2wipe_get (fun z => h (List.mem_cons_of_mem _ z))]
theorem l2wipe_in {σ : L2.St} {i : Nat} : ∀ {vs : List Nat}, i ∈ vs → i < σ.length → (L2.wipe σ vs)[i]? = some none
  | v :: vs, h, hl => by
    show ((L2.wipe σ vs).set v none)[i]? = _
    by_cases hv : v = i
    · subst hv; rw [List.getElem?_set_self (by rw [wipe_length]; exact hl)]
    · rw [List.getElem?_set_ne hv]
      exact l2wipe_in ((List.mem_cons.mp h).resolve_left (fun e => hv e.symm)) hl
theorem wipe_same {σ σ2 : L2.St} {vs is : List Nat} (hsub : ∀ i ∈ is, i ∈ vs) (h : Same is (L2.wipe σ vs) σ2) : L2.wipe σ2 vs = L2.wipe σ vs := by
  apply List.ext_getElem?
  intro i
  have hl : σ2.length = σ.length := h.1.trans (wipe_length σ vs)
  by_cases hi : i ∈ vs
  · by_cases hb : i < σ.length
    · rw [l2wipe_in hi hb, l2wipe_in hi (by rw [hl]; exact hb)]
    · rw [List.getElem?_eq_none (by rw [wipe_length, hl]; omega), List.getElem?_eq_none (by rw [wipe_length]; omega)]
  · rw [l2wipe_get hi, h.2 i (fun z => hi (hsub i z))]
end
section
variable {G : Glob} {X : Cx}
theorem immL_snoc (xs : List D) (y : D) : immL (xs ++ [y]) = (immL xs && imm y) := by
  induction xs with
  | nil => simp [immL]
  | cons x xs ih => simp [immL, ih, Bool.and_assoc]
theorem mkK_step {b : Bool} {acc : List D} {d : D} {k : Own} (hb : immL acc = true → b = true) : mutK (mkK b (.list acc)) (k == .fr || imm d) = mkK (b && (k == .fr || imm d)) (.list (acc ++ [d])) := by
  have gen : ∀ b x y z : Bool, (x = true → b = true) → mutK (if (b || x) = true then Own.fr else .top) (z || y) = if (b && (z || y) || x && y) = true then Own.fr else .top := by
    intro b x y z h
    cases b <;> cases x <;> cases y <;> cases z <;> first | rfl | (exact absurd (h rfl) (by decide))
  simp only [mkK, immKids, immL_snoc]
  exact gen b (immL acc) (imm d) (k == .fr) hb
theorem lc_core {tgt : T} {own hs : List Nat} {ifs : List C} {elt : C} {σ : L2.St} {ρ : Ev} {tv : L2.St} {ts : Ev} {H1 : Hp} {Z' : Cf} {J : It} {items : List D} {post : (List D × Bool) × Ev → Prop} {Q : VK} {A : Addr} (zx : ZX Z' X) (he : Z'.He = H1) (wk : WalkOk Z'.w Z'.K H1 Z'.Lio Z'.B J items)
    (hl : ρ.length = σ.length) (hsub : ∀ i ∈ own, i ∈ hs) (hb : ∀ i ∈ hs, i < ρ.length) (htg : ∀ i ∈ ixT tgt, i ∈ own) (o : Ok Z' (L2.wipe σ own ++ tv) (ρ ++ ts) H1) (hu : ∀ i ∈ hs, ρ[i]? = some .un) (hA : H1 A = none)
    (hp : ∀ r, post r → line r.1.1.length = true ∧ ∀ H', (∀ i ∈ hs, r.2[i]? = some .un) → r.2.length = σ.length → Ok Z' (L2.wipe σ own ++ (tv ++ [some (.ref A)])) (r.2 ++ (ts ++ [.vl (mkK r.1.2 (.list r.1.1)) (.list r.1.1)])) H' → Q (.ref A) H')
    (h : OutR post noEx (loop (lcF (fun x ρ => bindT tgt x .sh ρ) (fun ρ => evT G ifs ρ) (fun ρ => evE G elt ρ) hs) items ([], true) ρ)) :
    ∃ W : Nat → Nat → Hp → Prop, (∃ m, W 0 m (upd H1 A (.lst []))) ∧ ∀ i m H, W i m H →
      (J.stop i H ∧ Q (.ref A) H) ∨ (J.go i H ∧ ∃ Nx : Hp → Prop, (∀ H', Nx H' → ∃ m', m' < m ∧ W (i + 1) m' H') ∧ ∀ x H', J.yld i H x H' → gShx X tgt x (L2.wipe σ own) H' fun σ2 H2 => L2.wipe σ2 own = L2.wipe σ own ∧ tTx G X ifs σ2 H2 fun b H3 =>
        if b = true then tEx G X elt σ2 H3 fun y H4 => ∃ acc, H4 A = some (.lst acc) ∧ acc.length < sizeLine ∧ Nx (upd H4 A (.lst (acc ++ [y]))) else Nx H3) := by
  let F := lcF (fun x ρ => bindT tgt x .sh ρ) (fun ρ => evT G ifs ρ) (fun ρ => evE G elt ρ) hs
  let St := fun (i : Nat) (H : Hp) => ∃ (acc : List D) (b : Bool) (ρ : Ev), ρ.length = σ.length ∧ (immL acc = true → b = true) ∧ (∀ i ∈ hs, ρ[i]? = some .un) ∧ Ok Z' (L2.wipe σ own ++ (tv ++ [some (.ref A)])) (ρ ++ (ts ++ [.vl (mkK b (.list acc)) (.list acc)])) H ∧ OutR post noEx (loop F (items.drop i) (acc, b) ρ)
  have hts : tv.length = ts.length := by
    obtain ⟨f, w, q⟩ := o
    have := q.len
    simp only [List.length_append, wipe_length] at this
    omega
  refine ⟨fun i m H => m = items.length - i ∧ i ≤ items.length ∧ St i H, ⟨_, rfl, Nat.zero_le _, [], true, ρ, hl, fun _ => rfl, hu, ?_, by simpa using h⟩, ?_⟩
  · obtain ⟨f, w, q⟩ := o
    obtain ⟨g1, g2, g3⟩ := fresh_own q hA
    have := (q.alloc hA (x := .lst [])).push (v := .ref A) (k := .fr) (d := .list []) (as := [A]) (ow := [A]) (.list upd_same .nil) ⟨fun a ha j => by rw [List.mem_singleton.mp ha]; exact g3 j, fun a ha => by rw [List.mem_singleton.mp ha]; exact q.notB hA⟩
      (fun a ha => ⟨ha, by rw [List.mem_singleton.mp ha]; exact g1⟩) (fun j a hj ha => by rw [List.mem_singleton.mp ha] at hj; exact g2 j hj) ⟨rfl, by simp⟩
    have e0 : mkK true (.list []) = .fr := rfl
    rw [e0]
    exact ⟨_, _, by simpa using this⟩
  rintro i m H ⟨rfl, hi, acc, b, ρ1, hl1, hib, hu1, o1, h1⟩
  have kb : KeepBut Z'.Lio H1 H := by obtain ⟨f, w, q⟩ := o1; rw [← he]; exact q.keep
  by_cases hlt : i < items.length
  · refine .inr ?_
    have hd : items.drop i = items[i] :: items.drop (i + 1) := List.drop_eq_getElem_cons hlt
    rw [hd] at h1
    obtain ⟨g1, g2⟩ := wk.go H i _ kb (List.getElem?_eq_getElem hlt)
    refine ⟨g1, St (i + 1), fun H' q => ⟨items.length - (i + 1), by omega, rfl, hlt, q⟩, fun x H' hy => ?_⟩
    obtain ⟨k1, as, r, has⟩ := g2 x H' hy
    obtain ⟨foot, own', q⟩ := o1
    have q' : OkW Z' _ _ H' foot own' := q.heap (S := []) k1 (by simp) (fun _ _ _ z => by simp at z) (by simp) (by simp)
    have h2 : OutR post noEx ((F items[i] (acc, b) ρ1).bind fun r => loop F (items.drop (i + 1)) r.1 r.2) := h1
    have h3 : OutR (fun r => OutR post noEx (loop F (items.drop (i + 1)) r.1 r.2)) noEx (F items[i] (acc, b) ρ1) := h2.bind
    have h4 : OutR (fun ρ2 => OutR (fun t => OutR (fun r => OutR post noEx (loop F (items.drop (i + 1)) r.1 r.2)) noEx (if t.1 then (evE G elt t.2).bind fun r => .ok ((acc ++ [r.1], b && (r.2.1 == .fr || imm r.1)), wipeS r.2.2 hs) else .ok ((acc, b), wipeS t.2 hs))) noEx (evT G ifs ρ2)) noEx (bindT tgt items[i] .sh ρ1) := by
      have h3 : OutR (fun r => OutR post noEx (loop F (items.drop (i + 1)) r.1 r.2)) noEx ((bindT tgt items[i] .sh ρ1).bind fun ρ => (evT G ifs ρ).bind fun t => if t.1 then (evE G elt t.2).bind fun r => .ok ((acc ++ [r.1], b && (r.2.1 == .fr || imm r.1)), wipeS r.2.2 hs) else .ok ((acc, b), wipeS t.2 hs)) := h3
      exact h3.bind.mono fun ρ2 g => g.bind
    refine ⟨Z', zx, ρ1, tv ++ [some (.ref A)], ts ++ [.vl (mkK b (.list acc)) (.list acc)], foot, own', as, _, hl1.trans (wipe_length σ own).symm, q', r, ⟨fun a ha j hj => ?_, fun a ha => (has a ha).2.2⟩, h4.mono fun ρ2 h5 σ2 sm f2 w2 o2 hl2 hw => ?_⟩
    · rcases (q.mine j a hj).2 with z | z
      · exact (has a ha).2.1 z
      · rw [he] at z; exact (has a ha).1 z
    have hσ2 : σ2.length = σ.length := sm.1.trans (wipe_length σ own)
    -- a turn's end: the block's slots are emptied
    have back : ∀ (ρ3 : Ev) (H3 : Hp) (s3 : Slot), ρ3.length = σ2.length → Ok Z' (σ2 ++ (tv ++ [some (.ref A)])) (ρ3 ++ (ts ++ [s3])) H3 → Ok Z' (L2.wipe σ own ++ (tv ++ [some (.ref A)])) (wipeS ρ3 hs ++ (ts ++ [s3])) H3 ∧ (∀ i ∈ hs, (wipeS ρ3 hs)[i]? = some .un) ∧ (wipeS ρ3 hs).length = σ.length := fun ρ3 H3 s3 hl3 ⟨f3, w3, o3⟩ => by
      have hlt3 : ∀ i ∈ hs, i < ρ3.length := fun i hi => by rw [hl3, hσ2, ← hl]; exact hb i hi
      obtain ⟨f4, w4, o4, _, _⟩ := o3.wipeAll hs hlt3
      have hun : ∀ i ∈ hs, (wipeS ρ3 hs)[i]? = some .un := fun i hi => wipe_un hi (hlt3 i hi)
      refine ⟨⟨f4, w4, o4.sigma (by simp [wipe_length, hσ2]) fun j hj => ?_⟩, hun, by rw [wipe_len, hl3, hσ2]⟩
      by_cases hjl : j < σ2.length
      · rw [List.getElem?_append_left (by rw [wipe_length, ← hσ2]; exact hjl), List.getElem?_append_left hjl]
        by_cases hjo : j ∈ own
        · exact absurd (by rw [List.getElem?_append_left (by rw [wipe_len, hl3]; exact hjl)]; exact hun j (hsub j hjo)) hj
        · rw [sm.2 j (fun z => hjo (htg j z))]
      · have hw : (L2.wipe σ own).length = σ2.length := by rw [wipe_length, hσ2]
        rw [List.getElem?_append_right (show (L2.wipe σ own).length ≤ j by omega), List.getElem?_append_right (show σ2.length ≤ j by omega), hw]
    refine ⟨wipe_same htg sm, Z', zx, ρ2, tv ++ [some (.ref A)], ts ++ [.vl (mkK b (.list acc)) (.list acc)], ⟨hl2, f2, w2, o2⟩, h5.mono fun t h6 H3 s3 => ?_⟩
    by_cases ht : t.1 = true
    · rw [if_pos ht] at h6 ⊢
      refine ⟨Z', zx, t.2, _, _, s3, h6.bind.mono fun r h7 y H4 s4 => ?_⟩
      have h7 : OutR post noEx (loop F (items.drop (i + 1)) (acc ++ [r.1], b && (r.2.1 == .fr || imm r.1)) (wipeS r.2.2 hs)) := h7
      obtain ⟨fin, hfin, hpo⟩ := outR_ok h7
      have hlen := loop_len (fun x acc ρ r => lcF_len) _ _ _ _ hfin
      have hline := line_le (hp fin hpo).1
      have s4ok : Ok Z' ((σ2 ++ (tv ++ [some (.ref A)])) ++ [some y]) ((r.2.2 ++ (ts ++ [.vl (mkK b (.list acc)) (.list acc)])) ++ [.vl r.2.1 r.1]) H4 := by simpa using s4.ok
      have hi1 : (σ2 ++ (tv ++ [some (V.ref A)]))[σ2.length + tv.length]? = some (some (.ref A)) := by
        rw [List.getElem?_append_right (by omega), Nat.add_sub_cancel_left]; simp
      have hi2 : (r.2.2 ++ (ts ++ [Slot.vl (mkK b (.list acc)) (.list acc)]))[σ2.length + tv.length]? = some (.vl (mkK b (.list acc)) (.list acc)) := by
        rw [List.getElem?_append_right (by rw [s4.len]; omega), s4.len, Nat.add_sub_cancel_left, hts]; simp
      have hks : mkK b (.list acc) ≠ .sh := by unfold mkK; split <;> simp
      obtain ⟨b', us, e1, e2, e3, ok⟩ := append_ok s4ok hi1 hi2 hks
      cases e1
      rw [mkK_step hib] at ok
      have es : (r.2.2 ++ (ts ++ [Slot.vl (mkK b (.list acc)) (.list acc)])).set (σ2.length + tv.length) (.vl (mkK (b && (r.2.1 == .fr || imm r.1)) (.list (acc ++ [r.1]))) (.list (acc ++ [r.1]))) = r.2.2 ++ (ts ++ [.vl (mkK (b && (r.2.1 == .fr || imm r.1)) (.list (acc ++ [r.1]))) (.list (acc ++ [r.1]))]) := by
        rw [List.set_append_right _ _ (by rw [s4.len]; omega), s4.len, Nat.add_sub_cancel_left, hts, List.set_append_right _ _ (Nat.le_refl _), Nat.sub_self]; rfl
      rw [es] at ok
      obtain ⟨k1', k2', k3'⟩ := back _ _ _ s4.len ok
      refine ⟨us, e2, ?_, acc ++ [r.1], _, _, k3', fun z => ?_, k2', k1', h7⟩
      · simp only [List.length_append, List.length_singleton] at hlen
        omega
      · rw [immL_snoc] at z
        simp only [Bool.and_eq_true] at z
        rw [hib z.1, z.2]; simp
    · rw [if_neg ht] at h6 ⊢
      obtain ⟨k1', k2', k3'⟩ := back _ _ _ s3.len s3.ok
      exact ⟨acc, b, _, k3', hib, k2', k1', h6⟩
  · refine .inl ⟨wk.stop H i kb (by omega), ?_⟩
    have hd : items.drop i = [] := List.drop_eq_nil_of_le (by omega)
    rw [hd] at h1
    have h1 : post ((acc, b), ρ1) := h1
    exact (hp _ h1).2 H hu1 hl1 o1
end
end TH
end
section
set_option Elab.async false
set_option linter.all false
set_option maxRecDepth 100000
namespace TH
open PySem PySem.Spec PyProof.Rows L2

section
variable {G : Glob} {Z : Cf} {X : Cx}
theorem hides_eq (src : C) : hides src = (hideOf src).toList := by cases src <;> rfl
theorem lc_red {tgt : T} {own : List Nat} {src elt : C} {ifs : List C} {σ : L2.St} {H : Hp} {Q : VK} (zx : ZX Z X) (htg : ∀ i ∈ ixT tgt, i ∈ own) (h : tE G Z noEx (.lc src tgt own ifs elt) σ H Q) : tLc (tSrc G Z src) (gShx X tgt) (tTx G X ifs) (tEx G X elt) own σ H Q := by
  obtain ⟨ρ, tv, ts, s, h⟩ := h
  simp only [evE] at h
  refine ⟨ρ, tv, ts, s, h.bind.mono fun r hr J H1 ⟨hl, foot, own', o, wk⟩ A hA => ?_⟩
  unfold lcRun at hr
  by_cases hok : ownOk r.2 own (hides src ++ own) = true
  · rw [if_pos hok] at hr
    unfold ownOk at hok
    simp only [Bool.and_eq_true] at hok
    obtain ⟨⟨k1, k2⟩, k3⟩ := hok
    have nd : (hides src ++ own).Nodup := of_decide_eq_true k1
    have hlt : ∀ i ∈ hides src ++ own, i < r.2.length := fun i hi => by
      have := List.all_eq_true.mp k3 i hi
      simp only [Bool.and_eq_true] at this
      exact of_decide_eq_true this.2
    have hnl : ∀ i ∈ hides src ++ own, getS r.2 i ≠ .lk := fun i hi z => by
      have := List.all_eq_true.mp k3 i hi
      simp only [Bool.and_eq_true] at this
      rw [z] at this
      simp [isLk] at this
    have hr2 := outR_noExc hr.bind
    obtain ⟨own1, o1, s1, s2, s3, s4, s5⟩ := o.shareAll own hl
    have hlt1 : ∀ i ∈ hides src ++ own, i < (shareS r.2 own).length := fun i hi => by rw [s3]; exact hlt i hi
    have hnl1 : ∀ i ∈ hides src ++ own, getS (shareS r.2 own) i ≠ .lk := fun i hi z => by
      by_cases ho : i ∈ own
      · have gen : ∀ (is : List Nat) (ρ : Ev), getS (shareS ρ is) i = .lk → getS ρ i = .lk := by
          intro is
          induction is with
          | nil => intro ρ h; exact h
          | cons j is ih =>
            intro ρ h
            have h : getS (shareS (match getS ρ j with | .vl _ d => setS ρ j (.vl .sh d) | _ => ρ) is) i = .lk := h
            have h := ih _ h
            cases hg : getS ρ j with
            | un => rw [hg] at h; exact h
            | lk => rw [hg] at h; exact h
            | vl k d =>
              rw [hg] at h
              by_cases hij : i = j
              · subst hij
                have e : getS (setS ρ i (.vl .sh d)) i = .vl .sh d := by
                  unfold getS setS; rw [List.getElem?_set_self (getS_lt hg)]; rfl
                have h : getS (setS ρ i (.vl .sh d)) i = .lk := h
                rw [e] at h; cases h
              · have h : getS (setS ρ j (.vl .sh d)) i = .lk := h
                rw [getS_set hij] at h; exact h
        exact hnl i hi (gen own r.2 z)
      · rw [(s2 i ho).2] at z; exact hnl i hi z
    obtain ⟨f2, w2, o2, g1, g2⟩ := o1.wipeAll (hides src ++ own) hlt1
    have hun : ∀ i ∈ hides src ++ own, (wipeS (shareS r.2 own) (hides src ++ own))[i]? = some .un := fun i hi => wipe_un hi (hlt1 i hi)
    have hwl : (wipeS (shareS r.2 own) (hides src ++ own)).length = σ.length := by rw [wipe_len, s3, hl]
    have outer : ∀ (σa σb : L2.St) (tv' : L2.St), σa.length = σb.length → (∀ i, i ∉ own → σa[i]? = σb[i]?) → ∀ (ρ' ts' : Ev), ρ'.length = σb.length → (∀ i ∈ own, ρ'[i]? = some .un) → ∀ i : Nat, (ρ' ++ ts')[i]? ≠ some .un → (σa ++ tv')[i]? = (σb ++ tv')[i]? := fun σa σb tv' he hs ρ' ts' hl' hu' i hi => by
      by_cases hil : i < σb.length
      · rw [List.getElem?_append_left (by omega), List.getElem?_append_left hil]
        refine hs i fun ho => hi ?_
        rw [List.getElem?_append_left (by omega)]
        exact hu' i ho
      · rw [List.getElem?_append_right (show σa.length ≤ i by omega), List.getElem?_append_right (show σb.length ≤ i by omega), he]
    have o3 : OkW Z (L2.wipe σ own ++ tv) (wipeS (shareS r.2 own) (hides src ++ own) ++ ts) H1 f2 w2 := o2.sigma (by simp [wipe_length]) (outer _ _ _ (wipe_length σ own) (fun i hi => l2wipe_get hi) _ _ hwl fun i hi => hun i (List.mem_append_right _ hi))
    have hidm : ∀ i, hideOf src = some i → i ∈ hides src ++ own ∧ i ∉ own := fun i e => by
      have : hides src = [i] := by rw [hides_eq, e]; rfl
      rw [this] at nd ⊢
      exact ⟨by simp, (List.nodup_cons.mp nd).1⟩
    obtain ⟨L, o4, b, hL, _⟩ := o3.rebase (P := hidB own1 (hideOf src)) (hid := Z.hid) (fun a ha => by
      cases e : hideOf src with
      | none => rw [e] at ha; simp [hidB] at ha
      | some i =>
        rw [e] at ha
        have ha : a ∈ own1 i := ha
        refine ⟨(o1.footOwn (o1.mine i a ha).1).some, fun j hj => ?_⟩
        by_cases hjm : j ∈ hides src ++ own
        · rw [(g2 j hjm).1] at hj; simp at hj
        · rw [(g1 j hjm).1] at hj
          have := o1.sep j i a hj ha
          subst this
          exact hjm (hidm j e).1) o3.lk
    have hL1 : ∀ a ∈ L, ∃ j, j ∉ hides src ++ own ∧ a ∈ own1 j := fun a ha => by
      obtain ⟨j, hj⟩ := hL a ha
      by_cases hjm : j ∈ hides src ++ own
      · rw [(g2 j hjm).2] at hj; simp at hj
      · rw [(g1 j hjm).2] at hj; exact ⟨j, hjm, hj⟩
    have hLo : ∀ x ∈ L, OwnA H1 x := fun x hx => by
      obtain ⟨j, _, hj⟩ := hL1 x hx
      exact o1.footOwn (o1.mine j x hj).1
    have hidE : hidB own' (hideOf src) = hidB own1 (hideOf src) := by
      cases e : hideOf src with
      | none => rfl
      | some i => exact ((s2 i (hidm i e).2).1).symm
    have wk' := wk L fun a ha => by
      obtain ⟨j, h1, h2⟩ := hL1 a ha
      exact ⟨j, s1 j a h2, fun z => h1 (hidm j z.symm).1⟩
    rw [hidE] at wk'
    refine lc_core (hs := hides src ++ own) (Z' := Z.sub H1 L (hidB own1 (hideOf src)) Z.hid) (ρ := wipeS (shareS r.2 own) (hides src ++ own)) (tv := tv) (ts := ts) (J := J) (A := A) (Q := Q) (sub_zx zx) rfl wk' hwl (fun i hi => List.mem_append_right _ hi) (fun i hi => by rw [wipe_len, s3]; exact hlt i hi) htg ⟨_, _, o4⟩ hun hA (fun q hq => ?_) hr2
    by_cases hline : line q.1.1.length = true
    · refine ⟨hline, fun H' hu' hl' ⟨f5, w5, o5⟩ => ?_⟩
      rw [if_pos hline] at hq
      refine hq (.ref A) H' ⟨?_, ?_⟩
      · show (backS q.2 (shareS r.2 own) (hides src ++ own)).length = σ.length
        have gen : ∀ (is : List Nat) (ρ : Ev), (backS ρ (shareS r.2 own) is).length = ρ.length := by
          intro is
          induction is with
          | nil => intro ρ; rfl
          | cons j is ih => intro ρ; show (backS (setS ρ j _) (shareS r.2 own) is).length = _; rw [ih, set_len]
        rw [gen, hl']
      · have o6 := o5.back b o5.lk
        have o7 : OkW Z (σ ++ (tv ++ [some (.ref A)])) (q.2 ++ (ts ++ [.vl (mkK q.1.2 (.list q.1.1)) (.list q.1.1)])) H' f5 w5 := o6.sigma (by simp [wipe_length]) (outer _ _ _ (wipe_length σ own).symm (fun i hi => (l2wipe_get hi).symm) _ _ (hl'.trans (wipe_length σ own).symm) fun i hi => hu' i (List.mem_append_right _ hi))
        have kb : KeepBut L H1 H' := o5.keep
        refine OkW.restore (ρs := shareS r.2 own) o1.sep (hides src ++ own) nd o7 hl' hu' hnl1 fun i hi k d hg => ?_
        have hii : i < (shareS r.2 own).length := getS_lt hg
        have hgi : (shareS r.2 own ++ ts)[i]? = some (.vl k d) := by rw [List.getElem?_append_left hii]; exact getS_at hg
        obtain ⟨v, hv, _⟩ := o1.at hgi
        have held := o1.held (L := L) hgi hv fun a ha => by
          obtain ⟨j, h1, h2⟩ := hL1 a ha
          exact ⟨j, fun z => h1 (z ▸ hi), h2⟩
        have hvσ : σ[i]? = some (some v) := by
          rw [List.getElem?_append_left (by rw [← hl, ← s3]; exact hii)] at hv
          exact hv
        refine ⟨v, hvσ, held.rep.keep kb hLo held.offL, held.ko.keep kb hLo held.offL, held.offB, held.mine, fun a ha j hj => ?_, fun j a hj ha => ?_⟩
        · rcases (o5.mine j a hj).2 with z | z
          · exact held.offL a ha z
          · exact (held.rep.own a ha).some z
        · rcases List.mem_append.mp hi with hi | hi
          · have e : hideOf src = some i := by
              rw [hides_eq] at hi
              cases e : hideOf src with
              | none => rw [e] at hi; simp at hi
              | some j => rw [e] at hi; simp at hi; rw [hi]
            exact o5.footB hj (List.mem_append_left _ (by rw [e]; exact ha))
          · rw [(s4 i hi k d hg).2] at ha; simp at ha
    · rw [if_neg hline] at hq; exact hq.elim
  · rw [if_neg hok] at hr; exact hr.elim
end
end TH
end
section
set_option Elab.async false
set_option linter.all false
set_option maxRecDepth 100000
namespace TH
open PySem PySem.Spec PyProof.Rows L2

/-! what a def promises, by trees -/
inductive P2 {α β : Type} (R : α → β → Prop) : List α → List β → Prop
  | nil : P2 R [] []
  | cons {a b as bs} : R a b → P2 R as bs → P2 R (a :: as) (b :: bs)
section
variable {α β : Type} {R R' : α → β → Prop}
theorem P2.length : ∀ {as : List α} {bs : List β}, P2 R as bs → as.length = bs.length
  | _, _, .nil => rfl
  | _, _, .cons _ r => by simp [r.length]
theorem P2.mono (h : ∀ a b, R a b → R' a b) : ∀ {as : List α} {bs : List β}, P2 R as bs → P2 R' as bs
  | _, _, .nil => .nil
  | _, _, .cons r rs => .cons (h _ _ r) (rs.mono h)
theorem P2.get : ∀ {as : List α} {bs : List β} {i : Nat} {b : β}, P2 R as bs → bs[i]? = some b → ∃ a, as[i]? = some a ∧ R a b
  | _, _, _, _, .nil, e => by simp at e
  | _, _, 0, _, .cons r _, e => by simp at e; subst e; exact ⟨_, rfl, r⟩
  | _, _, i + 1, _, .cons _ rs, e => by
    obtain ⟨a, h1, h2⟩ := rs.get (i := i) (by simpa using e)
    exact ⟨a, by simpa using h1, h2⟩
theorem P2.perm {as : List α} {bs : List β} (h : P2 R as bs) : ∀ {pm : List Nat} {bs' : List β}, permute bs pm = some bs' → ∃ as', permute as pm = some as' ∧ P2 R as' bs'
  | [], bs', e => by simp [permute] at e; subst e; exact ⟨[], rfl, .nil⟩
  | i :: pm, bs', e => by
    simp only [permute] at e
    cases e1 : bs[i]? with
    | none => simp [e1] at e
    | some b =>
      cases e2 : permute bs pm with
      | none => simp [e1, e2] at e
      | some l =>
        simp [e1, e2] at e
        subst e
        obtain ⟨a, h1, h2⟩ := h.get e1
        obtain ⟨as', h3, h4⟩ := h.perm e2
        exact ⟨a :: as', by simp [permute, h1, h3], .cons h2 h4⟩
end
theorem DAll.p2 {w : World} {K : PySem.W.Frag} {H : Hp} {c : Bool} : ∀ {vs : List V} {ds : List D} {as : List Addr}, DAll w K H c vs ds as → P2 (fun v d => ∃ bs, DRep w K H c v d bs ∧ ∀ a ∈ bs, a ∈ as) vs ds
  | _, _, _, .nil => .nil
  | _, _, _, .cons r rs => .cons ⟨_, r, fun a h => List.mem_append_left _ h⟩ (rs.p2.mono fun _ _ ⟨bs, h1, h2⟩ => ⟨bs, h1, fun a h => List.mem_append_right _ (h2 a h)⟩)

def SpF (w : World) (K : PySem.W.Frag) (F : Fn) : Sp := fun vs H Q _ => vs.length = F.modes.length ∧ ∃ (Z : Cf) (ds : List D), Z.w = w ∧ Z.K = K ∧ ds.length = vs.length ∧
  Ok Z (vs.map some) (startS F.modes ds ds.length) H ∧ OutR (fun r => ∀ v H' (σ' : L2.St) (ρ' : Ev), Ok Z (σ' ++ [some v]) (ρ' ++ [.vl r.2.1 r.1]) H' → σ'.length = ρ'.length → outsOf F.modes ρ' = some r.2.2 → Q v H') noEx (F.sem ds)

section
variable {Z : Cf} {H H' : Hp} {foot own : Nat → List Addr} {Y : L2.St} {R : Ev} {Q : VK} {E : XK} {F : Fn}
/-- things of others', put behind -/
theorem OkW.pushAll {L : List Addr} : ∀ (vs : List V) (ds : List D) {σ : L2.St} {ρ : Ev} {f w : Nat → List Addr}, OkW Z σ ρ H f w → P2 (fun v d => ∃ as, DRep Z.w Z.K H true v d as ∧ (∀ a ∈ as, a ∉ L) ∧ Off as Z.B) vs ds → (∀ j, ∀ a ∈ w j, a ∈ L) →
    Ok Z (σ ++ vs.map some) (ρ ++ ds.map fun d => .vl .sh d) H
  | [], [], σ, ρ, f, w, o, _, _ => ⟨f, w, by simpa using o⟩
  | v :: vs, d :: ds, σ, ρ, f, w, o, .cons ⟨as, r, h1, h2⟩ rs, hw => by
    have q := o.push (k := .sh) (ow := []) r ⟨fun a ha j hj => h1 a ha (hw j a hj), h2⟩ (by simp) (fun _ _ _ z => by simp at z) rfl
    have := OkW.pushAll (L := L) vs ds q rs fun j a ha => by
      by_cases hj : j = ρ.length
      · rw [hj, put_same] at ha; simp at ha
      · rw [put_ne hj] at ha; exact hw j a ha
    simpa using this
theorem startS_sh (ds : List D) : ∀ n, n = ds.length → startS (List.replicate n false) ds ds.length = ds.map fun d => .vl .sh d := by
  intro n hn
  subst hn
  unfold startS
  simp
  induction ds with
  | nil => rfl
  | cons d ds ih => simpa [List.replicate_succ] using ih
theorem startS_io (d : D) (ds : List D) : ∀ n, n = ds.length → startS (true :: List.replicate n false) (d :: ds) (d :: ds).length = .vl .io d :: ds.map fun d => .vl .sh d := by
  intro n hn
  have := startS_sh ds n hn
  unfold startS at this ⊢
  simp at this ⊢
  exact this
/-- all own addresses -/
def owns (own : Nat → List Addr) (n : Nat) : List Addr := (List.range n).flatMap own
theorem mem_owns {a : Addr} {n : Nat} : a ∈ owns own n ↔ ∃ j, j < n ∧ a ∈ own j := by
  unfold owns
  rw [List.mem_flatMap]
  exact ⟨fun ⟨j, h1, h2⟩ => ⟨j, List.mem_range.mp h1, h2⟩, fun ⟨j, h1, h2⟩ => ⟨j, List.mem_range.mpr h1, h2⟩⟩
theorem OkW.own_lt (o : OkW Z Y R H foot own) {j : Nat} {a : Addr} (h : a ∈ own j) : j < R.length := by
  by_cases hj : j < R.length
  · exact hj
  · rw [(o.nil j (by omega)).2] at h; simp at h
theorem outsOf_sh : ∀ {n : Nat} {ρ : Ev} {os : List D}, outsOf (List.replicate n false) ρ = some os → os = []
  | 0, _, _, h => by simp [outsOf] at h; exact h
  | n + 1, [], _, h => by simp [List.replicate_succ, outsOf] at h
  | n + 1, _ :: ρ, _, h => outsOf_sh (n := n) (ρ := ρ) (by simpa [List.replicate_succ, outsOf] using h)
theorem outsOf_io {n : Nat} {ρ : Ev} {os : List D} (h : outsOf (true :: List.replicate n false) ρ = some os) : ∃ d ρ', ρ = .vl .io d :: ρ' ∧ os = [d] := by
  match ρ, h with
  | [], h => simp [outsOf] at h
  | s :: ρ', h =>
    cases s with
    | un => simp [outsOf] at h
    | lk => simp [outsOf] at h
    | vl k d =>
      cases k <;> simp [outsOf] at h
      obtain ⟨a, h1, h2⟩ := h
      have := outsOf_sh h1
      subst this
      exact ⟨d, ρ', rfl, h2.symm⟩
/-- a call that changes nothing -/
theorem call0 {vs vs' : List V} {dks : List (D × Own)} {pm : List Nat} {ds' : List D} (hl : vs.length = dks.length) (o : Ok Z (Y ++ vs.map some) (R ++ dks.map fun x => .vl x.2 x.1) H) (hd : permute (dks.map (·.1)) pm = some ds') (hv : permute vs pm = some vs') (hm : F.modes = List.replicate ds'.length false)
    (h : OutR (fun r => r.2.1 ≠ .io ∧ ∀ v H', r.2.2 = [] → Ok Z (Y ++ [some v]) (R ++ [.vl r.2.1 r.1]) H' → Q v H') noEx (F.sem ds')) : SpF Z.w Z.K F vs' H Q E := by
  obtain ⟨_, _, o⟩ := o
  obtain ⟨foot, own, as, o, ra, sh⟩ := OkW.useSh vs dks hl o
  obtain ⟨vs2, e2, rp⟩ := ra.p2.perm hd
  rw [hv] at e2; cases e2
  have lp := rp.length
  let Z' : Cf := ⟨Z.w, Z.K, H, [], owns own R.length ++ Z.B, Z.hid, Z.ia⟩
  have o0 : OkW Z' [] [] H (fun _ => []) (fun _ => []) := ⟨rfl, fun i o s e => by simp at e, fun i _ => ⟨rfl, rfl⟩, fun i j a h => by simp at h, fun i a h => by simp at h, KeepBut.refl, fun a h => by simp [Z'] at h, fun b hb => by
    refine ⟨fun z => ?_, by simp [Z']⟩
    rcases List.mem_append.mp hb with hb | hb
    · obtain ⟨j, _, hj⟩ := mem_owns.mp hb
      exact (o.footOwn (o.mine j b hj).1).some z
    · exact o.notB z hb, fun i e => by simp at e⟩
  have o1 := OkW.pushAll (L := []) vs' ds' o0 (rp.mono fun v d ⟨bs, h1, h2⟩ => ⟨bs, h1, by simp, fun a ha hb => by
    rcases List.mem_append.mp hb with hb | hb
    · obtain ⟨j, _, hj⟩ := mem_owns.mp hb
      exact sh.1 a (h2 a ha) j hj
    · exact sh.2 a (h2 a ha) hb⟩) (fun j a ha => by simp at ha)
  refine ⟨by rw [hm]; simpa using lp, Z', ds', rfl, rfl, lp.symm, ?_, h.mono fun r ⟨hk, hr⟩ v H' σ' ρ' oe hl' ho => ?_⟩
  · rw [hm, startS_sh ds' _ rfl]
    simpa using o1
  · rw [hm] at ho
    refine hr v H' (outsOf_sh ho) ?_
    obtain ⟨f, w, oe⟩ := oe
    obtain ⟨v', ev, r', ko, hB, shr⟩ := oe.last
    cases ev
    have kp : KeepBut [] H H' := oe.keep
    have o2 := o.heap (S := []) kp (by simp) (fun _ _ _ z => by simp at z) (by simp) (by simp)
    have hn : ∀ a ∈ w ρ'.length, H a = none := fun a ha => by
      rcases (oe.mine _ a ha).2 with z | z
      · simp [Z'] at z
      · exact z
    have ko' : KOwn Z.ia Z.w Z.K H' v r.1 (f ρ'.length) (w ρ'.length) r.2.1 := by
      cases hkk : r.2.1 with
      | io => exact absurd hkk hk
      | sh => rw [hkk] at ko; exact ko
      | top => rw [hkk] at ko; exact ko
      | fr => rw [hkk] at ko; exact ko
    refine ⟨_, _, o2.push (as := f ρ'.length) (ow := w ρ'.length) r' ⟨fun a ha j hj => hB a ha (List.mem_append_left _ (mem_owns.mpr ⟨j, o.own_lt hj, hj⟩)), fun a ha z => hB a ha (List.mem_append_right _ z)⟩ (fun a ha => ⟨(oe.mine _ a ha).1, ?_⟩) (fun j a ha hb => ?_) ko'⟩
    · by_cases hz : a ∈ Z.Lio
      · exact .inl hz
      · refine .inr ?_
        cases q : Z.He a with
        | none => rfl
        | some y =>
          have := o.keep a y q hz
          rw [hn a ha] at this; cases this
    · exact (o.footOwn ha).some (hn a hb)
/-- a call that changes one thing: the one of slot i -/
theorem call1 {vs : List V} {dks : List (D × Own)} {i : Nat} {k0 : Own} {dI : D} {vi : V} (hl : vs.length = dks.length) (o : Ok Z (Y ++ vs.map some) (R ++ dks.map fun x => .vl x.2 x.1) H) (hi : R[i]? = some (.vl k0 dI)) (hv : Y[i]? = some (some vi)) (hk : k0 = .top ∨ k0 = .io)
    (hm : F.modes = true :: List.replicate dks.length false)
    (h : OutR (fun r => r.2.1 ≠ .io ∧ ∀ v H' d', r.2.2 = [d'] → Ok Z (Y ++ [some v]) (R.set i (.vl k0 d') ++ [.vl r.2.1 r.1]) H' → Q v H') noEx (F.sem (dI :: dks.map (·.1)))) : SpF Z.w Z.K F (vi :: vs) H Q E := by
  obtain ⟨_, _, o⟩ := o
  obtain ⟨foot, own, as, o, ra, sh⟩ := OkW.useSh vs dks hl o
  have rp := ra.p2
  obtain ⟨vi', e1, rI, koI, hBI⟩ := o.at hi
  rw [hv] at e1; cases e1
  have hiL := lt_of_get hi
  have tI : TRep Z.w Z.K H vi dI (foot i) ∧ ∃ a, vi = .ref a ∧ own i = [a] := by
    rcases hk with rfl | rfl
    · exact koI
    · exact koI.1
  obtain ⟨a, as', q1, q2, q3, q4, q5⟩ := KOwn.five tI
  let Z' : Cf := ⟨Z.w, Z.K, H, [a], owns (put own i []) R.length ++ Z.B, Z.hid, vi⟩
  have others : ∀ {b : Addr}, b ∈ owns (put own i []) R.length → ∃ j, j ≠ i ∧ b ∈ own j := fun hb => by
    obtain ⟨j, _, hj⟩ := mem_owns.mp hb
    obtain ⟨h1, h2⟩ := put_mem hj
    exact ⟨j, h1, h2⟩
  have o0 : OkW Z' [] [] H (fun _ => []) (fun _ => []) := ⟨rfl, fun i o s e => by simp at e, fun i _ => ⟨rfl, rfl⟩, fun i j a h => by simp at h, fun i a h => by simp at h, KeepBut.refl, fun b hb => by
    have : b = a := by simpa [Z'] using hb
    subst this; exact q5, fun b hb => by
    rcases List.mem_append.mp hb with hb1 | hb1
    · obtain ⟨j, hj, hb2⟩ := others hb1
      refine ⟨fun z => (o.footOwn (o.mine j b hb2).1).some z, fun z => ?_⟩
      have : b = a := by simpa [Z'] using z
      subst this
      exact hj (o.sep i j b (by rw [q2]; simp) hb2).symm
    · refine ⟨fun z => o.notB z hb1, fun z => ?_⟩
      have : b = a := by simpa [Z'] using z
      subst this
      exact hBI b (by rw [q2]; simp) hb1, fun i e => by simp at e⟩
  have o0' := o0.push (v := vi) (k := .io) (d := dI) (as := foot i) (ow := [a]) tI.1.rep ⟨fun b hb j hj => by simp at hj, fun b hb hz => by
    rcases List.mem_append.mp hz with hz | hz
    · obtain ⟨j, hj, hz⟩ := others hz
      exact hj (o.sep i j b hb hz).symm
    · exact hBI b hb hz⟩ (fun b hb => by
    have : b = a := by simpa using hb
    subst this
    exact ⟨by rw [q2]; simp, .inl (by simp [Z'])⟩) (fun j b hb => by simp at hb) ⟨⟨tI.1, a, q1, rfl⟩, rfl⟩
  have hai : a ∈ own i := by rw [q4]; simp
  have o1 := OkW.pushAll (L := [a]) vs (dks.map (·.1)) o0' (rp.mono fun v d ⟨bs, h1, h2⟩ => ⟨bs, h1, fun b hb hz => by
    have : b = a := by simpa using hz
    subst this
    exact sh.1 b (h2 b hb) i hai, fun b hb hz => by
    rcases List.mem_append.mp hz with hz | hz
    · obtain ⟨j, _, hz⟩ := others hz
      exact sh.1 b (h2 b hb) j hz
    · exact sh.2 b (h2 b hb) hz⟩) (fun j b hb => by
    by_cases hj : j = 0
    · subst hj; simpa [put] using hb
    · simp [put, hj] at hb)
  refine ⟨by rw [hm]; simp [hl], Z', dI :: dks.map (·.1), rfl, rfl, by simp [hl], ?_, h.mono fun r ⟨hkr, hr⟩ v H' σ' ρ' oe hl' ho => ?_⟩
  · rw [hm, startS_io dI (dks.map (·.1)) _ (by simp)]
    simpa using o1
  · rw [hm] at ho
    obtain ⟨d', ρ2, eρ, eo⟩ := outsOf_io ho
    refine hr v H' d' eo ?_
    obtain ⟨f, w, oe⟩ := oe
    obtain ⟨v', ev, r', ko, hB, shr⟩ := oe.last
    cases ev
    have hr0 : (ρ' ++ [Slot.vl r.2.1 r.1])[0]? = some (.vl .io d') := by rw [eρ]; rfl
    obtain ⟨v0, e0, r0, ko0, hB0⟩ := oe.at hr0
    obtain ⟨t0, ev0⟩ := ko0
    have ev0 : v0 = vi := ev0
    subst ev0
    obtain ⟨a0, as0, z1, z2, z3, z4, z5⟩ := KOwn.five t0
    have : a0 = a := by rw [q1] at z1; cases z1; rfl
    subst this
    have hρ : 0 < ρ'.length := by rw [eρ]; simp
    have ne0 : ρ'.length ≠ 0 := by omega
    have kp : KeepBut [a0] H H' := oe.keep
    -- the slot is taken, the heap changes, it is filled
    have p1 := o.take i
    have hoff : ∀ j, Off (put foot i [] j) [a0] := fun j b hb hba => by
      have e : b = a0 := by simpa using hba
      subst e
      obtain ⟨hj, hb⟩ := put_mem hb
      exact hj (o.sep j i b hb hai)
    have p2 := p1.heap kp (fun b hb => by have e : b = a0 := by simpa using hb
                                          rw [e]; exact q5) hoff (fun b hb => by
      have e : b = a0 := by simpa using hb
      rw [e]; exact (o.mine i a0 hai).2) (fun b _ hb => by
      have e : b = a0 := by simpa using hb
      rw [e]; exact z5)
    have hu : (R.set i .un)[i]? = some .un := by rw [List.getElem?_set_self hiL]
    have kk : KOwn Z.ia Z.w Z.K H' v0 d' (f 0) [a0] k0 := by
      rcases hk with rfl | rfl
      · exact ⟨t0.1, a0, z1, rfl⟩
      · exact ⟨⟨t0.1, a0, z1, rfl⟩, koI.2⟩
    have rr : DRep Z.w Z.K H' (k0 != .fr) v0 d' (f 0) := by
      rcases hk with rfl | rfl <;> exact r0
    have p3 := p2.fill (i := i) (v := v0) (k := k0) (d := d') (as := f 0) (ow := [a0]) hu hv rr ⟨fun b hb j hj => by
        obtain ⟨hj1, hj2⟩ := put_mem hj
        exact hB0 b hb (List.mem_append_left _ (mem_owns.mpr ⟨j, o.own_lt hj2, by rw [put_ne hj1]; exact hj2⟩)), fun b hb hz => hB0 b hb (List.mem_append_right _ hz)⟩ (fun b hb => by
        have e : b = a0 := by simpa using hb
        subst e
        exact ⟨by rw [z2]; simp, (o.mine i b hai).2⟩) (fun j b hb hbo => by
        have e : b = a0 := by simpa using hbo
        subst e
        exact hoff j b hb (by simp)) kk
    rw [set_set_same] at p3
    have hlast : ∀ b ∈ f ρ'.length, b ≠ a0 := fun b hb e => by
      subst e
      exact ne0 (oe.sep ρ'.length 0 b hb (by rw [z4]; simp))
    have hn : ∀ b ∈ w ρ'.length, H b = none := fun b hb => by
      obtain ⟨m1, m2⟩ := oe.mine _ b hb
      rcases m2 with z | z
      · exact absurd (by simpa [Z'] using z) (hlast b m1)
      · exact z
    have ko' : KOwn Z.ia Z.w Z.K H' v r.1 (f ρ'.length) (w ρ'.length) r.2.1 := by
      cases hkk : r.2.1 with
      | io => exact absurd hkk hkr
      | sh => rw [hkk] at ko; exact ko
      | top => rw [hkk] at ko; exact ko
      | fr => rw [hkk] at ko; exact ko
    have hfin := p3.push (v := v) (k := r.2.1) (d := r.1) (as := f ρ'.length) (ow := w ρ'.length) r' ⟨fun b hb j hj => by
        by_cases hji : j = i
        · subst hji
          rw [put_same] at hj
          exact hlast b hb (by simpa using hj)
        · rw [put_ne hji] at hj
          obtain ⟨hj1, hj2⟩ := put_mem hj
          exact hB b hb (List.mem_append_left _ (mem_owns.mpr ⟨j, o.own_lt hj2, by rw [put_ne hj1]; exact hj2⟩)), fun b hb hz => hB b hb (List.mem_append_right _ hz)⟩ (fun b hb => ⟨(oe.mine _ b hb).1, by
        by_cases hz : b ∈ Z.Lio
        · exact .inl hz
        · refine .inr ?_
          cases q : Z.He b with
          | none => rfl
          | some y =>
            have := o.keep b y q hz
            rw [hn b hb] at this; cases this⟩) (fun j b hb hbo => by
        by_cases hji : j = i
        · subst hji
          rw [put_same] at hb
          exact ne0 (oe.sep 0 ρ'.length b hb hbo).symm
        · rw [put_ne hji] at hb
          obtain ⟨_, hb⟩ := put_mem hb
          exact (o.footOwn hb).some (hn b hbo)) ko'
    exact ⟨_, _, hfin⟩
end
end TH
end
section
set_option Elab.async false
set_option linter.all false
set_option maxRecDepth 100000
namespace TH
open PySem PySem.Spec PyProof.Rows L2

/-- a def keeps its promise, called with no guard on -/
structure FnG (P : Program) (w : World) (K : PySem.W.Frag) (mg : Str → Option Value) (base : Heap) (k : Nat) (f : Addr) (fd : FuncData) (ps : List Str) (sp : Sp) : Prop where
  len : ∀ vs H Q E, sp vs H Q E → vs.length = ps.length
  run : ∀ (A : Around) (outer : List Env) (s : Shared) (H : Hp) (args : Args) (us : List Value) (vs : List V) (Q : VK) (E : XK), Room k A → A.guards = some [] → Env0 P w K mg base A outer s H → BindsTo s fd args (ps.zip us) → Vals vs us → sp vs H Q E →
    codeAny (model P w) A (.call (.ref f) args) (CR CX0 outer P w H s Q E) s
/-- how a def's arguments are bound -/
def Bnd (fd : FuncData) (ps : List Str) : Prop := ∀ (ks : List Str) (pm : List Nat) (us ws vs : List Value), ks.Nodup → (∀ x ∈ ks, x ∈ ps.drop us.length) → permOf ps ks us.length = some pm → ws.length = ks.length → us.length + ks.length = ps.length → permute (us ++ ws) pm = some vs → bindArgs fd ⟨us, ks.zip ws⟩ = pure (ps.zip vs)
/-- a def of the module -/
def FnFact (G : Glob) (X : Cx) (x : Str) (fn : String) (ps : List Str) (ms : List Bool) : Prop := ∃ (F : Fn) (f : Addr) (fd : FuncData) (k : Nat), G.fn fn = some F ∧ F.modes = ms ∧ ms.length = ps.length ∧ X.mg x = some (.ref f) ∧ PySem.W.keepIn X.K (.ref f) = true ∧ Room k X.A ∧
  FnG X.prog X.w X.K X.mg X.base k f fd ps (SpF X.w X.K F) ∧ Bnd fd ps
/-- a constant of the module -/
def ConFact (G : Glob) (X : Cx) (x : Str) (c : String) : Prop := ∃ (d : D) (u : Value) (v : V), G.con c = some d ∧ X.mg x = some u ∧ RelV v u ∧ ∀ H, DRep X.w X.K H true v d []

section
variable {X : Cx} {k : Nat} {f : Addr} {fd : FuncData} {ps ks : List Str} {sp : Sp} {E : XK} {x : Str} {p pos : Pos} {e : Expr} {es : List Expr} {kws : List Keyword} {t tk : TA}
theorem run_fnG {pins : List (Addr × Obj)} {σ : L2.St} {H : Hp} {s : Shared} {Q : VK} {us0 ws us : List Value} {vs : List V} (F : FnG X.prog X.w X.K X.mg X.base k f fd ps sp) (hr : Room k X.A) (hg : X.A.guards = some []) (hb : bindArgs fd ⟨us0, ks.zip ws⟩ = pure (ps.zip us))
    (I : Inv X pins σ H s) (r : Vals vs us) (h : sp vs H Q E) : wpAny (model X.prog X.w) X.A (call (.ref f) us0 (ks.zip ws)) (EP X pins σ Q) X.xe s := by
  refine wpAny_call (codeAny_mono (F.run X.A X.stack s H ⟨us0, ks.zip ws⟩ us vs Q E hr hg I.env0 (.of_eq hb) r h) fun r s' hq => ?_)
  cases r with
  | error e => exact False.elim hq
  | ok fl =>
    cases fl with
    | ret u => exact I.after hq
    | next => exact False.elim hq
    | brk => exact False.elim hq
    | cont => exact False.elim hq
/-- the reading of a call: positional values, keywords' values -/
def tCallG (sp : Sp) (pm : List Nat) (n nk : Nat) (t tk : TA) : TE := fun σ H Q => t σ H fun vs H1 => tk σ H1 fun zs H2 => vs.length = n ∧ zs.length = nk ∧ ∃ vs', permute (vs ++ zs) pm = some vs' ∧ sp vs' H2 Q fun _ _ _ => False
theorem Vals.perm {vs : List V} {us : List Value} (r : Vals vs us) : ∀ {pm : List Nat} {vs' : List V}, permute vs pm = some vs' → ∃ us', permute us pm = some us' ∧ Vals vs' us'
  | [], vs', e => by simp [permute] at e; subst e; exact ⟨[], rfl, .nil⟩
  | i :: pm, vs', e => by
    simp only [permute] at e
    cases e1 : vs[i]? with
    | none => simp [e1] at e
    | some b =>
      cases e2 : permute vs pm with
      | none => simp [e1, e2] at e
      | some l =>
        simp [e1, e2] at e
        subst e
        obtain ⟨a, h1, h2⟩ := r.get e1
        obtain ⟨as', h3, h4⟩ := Vals.perm r e2
        exact ⟨a :: as', by simp [permute, h1, h3], .cons h2 h4⟩
theorem Vals.app {vs zs : List V} {us ws : List Value} (r : Vals vs us) (r2 : Vals zs ws) : Vals (vs ++ zs) (us ++ ws) := r.append r2
theorem callG_fin {n : Nat} {pm : List Nat} {pins : List (Addr × Obj)} {σ : L2.St} {Q : VK} (F : FnG X.prog X.w X.K X.mg X.base k f fd ps sp) (hr : Room k X.A) (hgd : X.A.guards = some []) (hb : Bnd fd ps) (hpm : permOf ps ks n = some pm) (hknd : ks.Nodup) (hkd : ∀ x ∈ ks, x ∈ ps.drop n) (hn : n + ks.length = ps.length)
    {s2 : Shared} {us ws : List Value} {vs zs : List V} {H2 : Hp} (I2 : Inv X pins σ H2 s2) (r : Vals vs us) (rz : Vals zs ws) (e1 : vs.length = n) (e2 : zs.length = ks.length) (h : ∃ vs', permute (vs ++ zs) pm = some vs' ∧ sp vs' H2 Q fun _ _ _ => False) :
    wpAny (model X.prog X.w) X.A (call (.ref f) us (ks.zip ws)) (EP X pins σ Q) X.xe s2 := by
  obtain ⟨vs', e3, q⟩ := h
  obtain ⟨us', e4, r4⟩ := Vals.perm (r.append rz) e3
  exact run_fnG F hr hgd (hb ks pm us ws us' hknd (by rw [← r.length, e1]; exact hkd) (by rw [← r.length, e1]; exact hpm) (by rw [← rz.length, e2]) (by rw [← r.length, e1]; exact hn) e4) I2 r4 q
theorem pe_callG {n nk : Nat} {pm : List Nat} (F : FnG X.prog X.w X.K X.mg X.base k f fd ps sp) (hr : Room k X.A) (hgd : X.A.guards = some []) (hg : Gl X x) (hm : X.mg x = some (.ref f)) (hk : PySem.W.keepIn X.K (.ref f) = true) (hb : Bnd fd ps) (hpm : permOf ps ks n = some pm) (hknd : ks.Nodup) (hkd : ∀ x ∈ ks, x ∈ ps.drop n) (hn : n + ks.length = ps.length) (hnk : nk = ks.length)
    (ha : PA X (e :: es) t) (hkw : PK X kws tk) (hall : (backToKw pos (keywordEach kws X.env)).all (·.1.isSome) = true) (hks : (backToKw pos (keywordEach kws X.env)).filterMap (·.1) = ks)
    (hdb : (x == ("__debug__" : Str)) = false) (he : starEach (e :: es) X.env = (false, eval e X.env) :: starEach es X.env) (hpl : (backTo pos (starEach (e :: es) X.env)).any (·.1) = false) (hkn : (backToKw pos (keywordEach kws X.env)).any (·.1.isNone) = false) :
    PE X (.Call (.Name x p) (e :: es) kws pos) (tCallG sp pm n nk t tk) := by
  subst hnk
  refine ⟨fun pins s σ H Q I h => ?_⟩
  refine wpAny_Call_Name_kw (ld_glob I hg hm ?_ hdb)
  refine PySem.W.callWith_KW (h₀ := X.base) I.ok.mod.kin hk hall (thn (ha.run pos pins s σ H _ I h) fun us s1 ⟨vs, H1, I1, r, q⟩ => ?_) (by rw [hkn, hpl]; rfl) he
  refine thn (hkw.run pos pins s1 σ H1 _ I1 q) fun ws s2 ⟨zs, H2, I2, rz, q1, q2, q3⟩ => ⟨I2.kIn, ?_⟩
  rw [hks]
  exact callG_fin F hr hgd hb hpm hknd hkd hn I2 r rz q1 q2 q3
theorem pe_callG0 {nk : Nat} {pm : List Nat} (F : FnG X.prog X.w X.K X.mg X.base k f fd ps sp) (hr : Room k X.A) (hgd : X.A.guards = some []) (hg : Gl X x) (hm : X.mg x = some (.ref f)) (hk : PySem.W.keepIn X.K (.ref f) = true) (hb : Bnd fd ps) (hpm : permOf ps ks 0 = some pm) (hknd : ks.Nodup) (hkd : ∀ x ∈ ks, x ∈ ps.drop 0) (hn : 0 + ks.length = ps.length) (hnk : nk = ks.length)
    (hkw : PK X kws tk) (hall : (backToKw pos (keywordEach kws X.env)).all (·.1.isSome) = true) (hks : (backToKw pos (keywordEach kws X.env)).filterMap (·.1) = ks)
    (hdb : (x == ("__debug__" : Str)) = false) (hkn : (backToKw pos (keywordEach kws X.env)).any (·.1.isNone) = false) :
    PE X (.Call (.Name x p) [] kws pos) (tCallG sp pm 0 nk tNil tk) := by
  subst hnk
  refine ⟨fun pins s σ H Q I h => ?_⟩
  refine wpAny_Call_Name_kw (ld_glob I hg hm ?_ hdb)
  refine PySem.W.callWith_KW0 (h₀ := X.base) I.ok.mod.kin hk hall ?_ (by rw [hkn]; rfl)
  refine thn (hkw.run pos pins s σ H _ I h) fun ws s2 ⟨zs, H2, I2, rz, q1, q2, q3⟩ => ⟨I2.kIn, ?_⟩
  rw [hks]
  exact callG_fin F hr hgd hb hpm hknd hkd hn I2 .nil rz q1 q2 q3
end
end TH
end
section
set_option Elab.async false
set_option linter.all false
set_option maxRecDepth 100000
namespace TH
open PySem PySem.Spec PyProof.Rows L2
theorem mapO_get {α β : Type} {f : α → Option β} : ∀ {xs : List α} {ys : List β}, mapO f xs = some ys → ys.length = xs.length ∧ ∀ (i : Nat) x, xs[i]? = some x → ∃ y, f x = some y ∧ ys[i]? = some y
  | [], ys, h => by simp [mapO] at h; subst h; exact ⟨rfl, by simp⟩
  | x :: xs, ys, h => by
    simp only [mapO] at h
    cases e1 : f x with
    | none => simp [e1] at h
    | some y =>
      cases e2 : mapO f xs with
      | none => simp [e1, e2] at h
      | some l =>
        simp [e1, e2] at h
        subst h
        obtain ⟨h1, h2⟩ := mapO_get e2
        refine ⟨by simp [h1], fun i z hz => ?_⟩
        cases i with
        | zero => simp at hz; subst hz; exact ⟨y, e1, rfl⟩
        | succ i => simpa using h2 i z (by simpa using hz)
theorem permute_get {α : Type} {xs : List α} : ∀ {pm : List Nat} {ys : List α}, permute xs pm = some ys → ys.length = pm.length ∧ ∀ (i : Nat) j, pm[i]? = some j → ∃ y, xs[j]? = some y ∧ ys[i]? = some y
  | [], ys, h => by simp [permute] at h; subst h; exact ⟨rfl, by simp⟩
  | k :: pm, ys, h => by
    simp only [permute] at h
    cases e1 : xs[k]? with
    | none => simp [e1] at h
    | some y =>
      cases e2 : permute xs pm with
      | none => simp [e1, e2] at h
      | some l =>
        simp [e1, e2] at h
        subst h
        obtain ⟨h1, h2⟩ := permute_get e2
        refine ⟨by simp [h1], fun i z hz => ?_⟩
        cases i with
        | zero => simp at hz; subst hz; exact ⟨y, e1, rfl⟩
        | succ i => simpa using h2 i z (by simpa using hz)
theorem lookup_zip {α : Type} : ∀ {ps : List Str} {us : List α} {i : Nat} {x : Str} {u : α}, ps.Nodup → ps[i]? = some x → us[i]? = some u → (ps.zip us).lookup x = some u
  | [], _, _, _, _, _, h, _ => by simp at h
  | _ :: _, [], _, _, _, _, _, h => by simp at h
  | p :: ps, v :: us, 0, x, u, nd, h1, h2 => by
    simp at h1 h2; subst h1 h2
    simp [List.lookup]
  | p :: ps, v :: us, i + 1, x, u, nd, h1, h2 => by
    have h1 : ps[i]? = some x := by simpa using h1
    have hne : x ≠ p := fun e => (List.nodup_cons.mp nd).1 (e ▸ List.mem_of_getElem? h1)
    have hb : (x == p) = false := by simpa using hne
    simp only [List.zip_cons_cons, List.lookup, hb]
    exact lookup_zip (List.nodup_cons.mp nd).2 h1 (by simpa using h2)
theorem lookup_zip_none {α : Type} {x : Str} : ∀ {ps : List Str} {us : List α}, (∀ i : Nat, i < us.length → ps[i]? ≠ some x) → (ps.zip us).lookup x = none
  | [], _, _ => by simp
  | _ :: _, [], _ => by simp
  | p :: ps, v :: us, h => by
    have hne : x ≠ p := fun e => h 0 (by simp) (by simp [e])
    have hb : (x == p) = false := by simpa using hne
    simp only [List.zip_cons_cons, List.lookup, hb]
    exact lookup_zip_none fun i hi e => h (i + 1) (by simp; omega) (by simpa using e)
theorem lookup_app {α : Type} {x : Str} : ∀ {a b : List (Str × α)}, a.lookup x = none → (a ++ b).lookup x = b.lookup x
  | [], _, _ => rfl
  | (y, v) :: a, b, h => by
    simp only [List.lookup] at h
    split at h
    · cases h
    · rename_i hb
      simp only [List.cons_append, List.lookup, hb]
      exact lookup_app h
theorem lookup_app_some {α : Type} {x : Str} {u : α} : ∀ {a b : List (Str × α)}, a.lookup x = some u → (a ++ b).lookup x = some u
  | [], _, h => by simp at h
  | (y, v) :: a, b, h => by
    simp only [List.lookup] at h
    split at h
    · rename_i hb
      simp only [List.cons_append, List.lookup, hb]
      exact h
    · rename_i hb
      simp only [List.cons_append, List.lookup, hb]
      exact lookup_app_some h
theorem findIdx_at {x : Str} : ∀ {ks : List Str} {j : Nat}, ks.findIdx? (· == x) = some j → ks[j]? = some x ∧ ∀ i : Nat, i < j → ks[i]? ≠ some x := fun {ks j} h => by
  obtain ⟨hl, h1, h2⟩ := List.findIdx?_eq_some_iff_getElem.mp h
  refine ⟨by rw [List.getElem?_eq_getElem hl]; simpa using h1, fun i hi e => ?_⟩
  have hil : i < ks.length := by omega
  rw [List.getElem?_eq_getElem hil] at e
  have := h2 i hi
  simp at this e
  exact this e
theorem lookup_zip_first {α : Type} {x : Str} : ∀ {ks : List Str} {ws : List α} {j : Nat} {u : α}, ks[j]? = some x → (∀ i : Nat, i < j → ks[i]? ≠ some x) → ws[j]? = some u → (ks.zip ws).lookup x = some u
  | [], _, _, _, h, _, _ => by simp at h
  | _ :: _, [], _, _, _, _, h => by simp at h
  | k :: ks, w :: ws, 0, u, h1, _, h2 => by
    simp at h1 h2; subst h1 h2
    simp [List.lookup]
  | k :: ks, w :: ws, j + 1, u, h1, h0, h2 => by
    have hne : x ≠ k := fun e => h0 0 (by omega) (by simp [e])
    have hb : (x == k) = false := by simpa using hne
    simp only [List.zip_cons_cons, List.lookup, hb]
    exact lookup_zip_first (by simpa using h1) (fun i hi e => h0 (i + 1) (by omega) (by simpa using e)) (by simpa using h2)
/-- every parameter is found -/
theorem slots_find {ps ks : List Str} {pm : List Nat} {us ws vs : List Value} (nd : ps.Nodup) (hp : permOf ps ks us.length = some pm) (hw : ws.length = ks.length) (hl : us.length + ks.length = ps.length) (hv : permute (us ++ ws) pm = some vs) :
    vs.length = ps.length ∧ ∀ (i : Nat) x, ps[i]? = some x → ∃ v, vs[i]? = some v ∧ (ps.zip us ++ ks.zip ws).lookup x = some v := by
  unfold permOf at hp
  obtain ⟨h1, h2⟩ := mapO_get hp
  obtain ⟨h3, h4⟩ := permute_get hv
  refine ⟨by rw [h3, h1]; simp, fun i x hx => ?_⟩
  have hi := lt_of_get hx
  obtain ⟨j, e1, e2⟩ := h2 i i (by simp [hi])
  obtain ⟨v, e3, e4⟩ := h4 i j e2
  refine ⟨v, e4, ?_⟩
  by_cases hn : i < us.length
  · rw [if_pos hn] at e1
    cases e1
    rw [List.getElem?_append_left hn] at e3
    exact lookup_app_some (lookup_zip nd hx e3)
  · rw [if_neg hn, hx] at e1
    obtain ⟨q, e5, e6⟩ := Option.map_eq_some_iff.mp e1
    subst e6
    obtain ⟨f1, f2⟩ := findIdx_at e5
    rw [List.getElem?_append_right (by omega)] at e3
    rw [lookup_app (lookup_zip_none fun i' hi' e => ?_)]
    · exact lookup_zip_first f1 f2 (by simpa using e3)
    · have h1 : i' < ps.length := lt_of_get e
      rw [List.getElem?_eq_getElem h1] at e
      rw [List.getElem?_eq_getElem hi] at hx
      have hx' : ps[i'] = ps[i] := by
        have a := Option.some.inj e
        have b := Option.some.inj hx
        rw [a, b]
      have := (List.getElem_inj nd).mp hx'
      omega
theorem filterMap_zip {ps : List Str} {vs : List Value} {sl : List (Str × Value)} (hl : vs.length = ps.length) (h : ∀ (i : Nat) x, ps[i]? = some x → ∃ v, vs[i]? = some v ∧ sl.lookup x = some v) : (ps.filterMap fun n => (sl.lookup n).map (n, ·)) = ps.zip vs := by
  induction ps generalizing vs with
  | nil => rfl
  | cons p ps ih =>
    cases vs with
    | nil => simp at hl
    | cons v vs =>
      obtain ⟨v', e1, e2⟩ := h 0 p rfl
      simp at e1; subst e1
      simp only [List.filterMap_cons, e2, Option.map_some, List.zip_cons_cons]
      rw [ih (by simpa using hl) fun i x hx => by simpa using h (i + 1) x (by simpa using hx)]
theorem forIn_snoc {β : Type} {b : β} {f : Str × Value → (List (Str × Value)) × β → Sem (ForInStep ((List (Str × Value)) × β))} : ∀ (kw sl : List (Str × Value)), (∀ pre p post, kw = pre ++ p :: post → f p (sl ++ pre, b) = pure (.yield (sl ++ pre ++ [p], b))) → forIn kw (sl, b) f = pure (sl ++ kw, b)
  | [], sl, _ => by simp
  | p :: kw, sl, h => by
    have h0 := h [] p kw rfl
    simp only [List.append_nil] at h0
    rw [List.forIn_cons, h0]
    show forIn kw (sl ++ [p], b) f = _
    rw [forIn_snoc kw (sl ++ [p]) fun pre q post e => by
      have := h (p :: pre) q post (by rw [e]; rfl)
      simpa using this]
    simp
structure PlainP (fd : FuncData) (ps : List Str) : Prop where
  po : fd.params.posonlyargs = []
  ko : fd.params.kwonlyargs = []
  va : fd.params.vararg = none
  ka : fd.params.kwarg = none
  ar : fd.params.args.map (·.arg) = ps
  df : fd.defaults = .none
theorem bnd_of {fd : FuncData} {ps : List Str} (P : PlainP fd ps) (nd : ps.Nodup) : ∀ (ks : List Str) (pm : List Nat) (us ws vs : List Value), ks.Nodup → (∀ x ∈ ks, x ∈ ps.drop us.length) → permOf ps ks us.length = some pm → ws.length = ks.length → us.length + ks.length = ps.length → permute (us ++ ws) pm = some vs → bindArgs fd ⟨us, ks.zip ws⟩ = pure (ps.zip vs) := by
  intro ks pm us ws vs nk hks hp hw hl hv
  obtain ⟨h1, h2⟩ := slots_find nd hp hw hl hv
  obtain ⟨hp1, hp2, hp3, hp4, hp5, hp6⟩ := P
  have hlen : ¬ (us.length > ps.length) := by omega
  have hfind : ∀ x ∈ ps, ((ps.zip us ++ ks.zip ws).lookup x).isSome = true := fun x hx => by
    obtain ⟨i, hi⟩ := List.getElem?_of_mem hx
    obtain ⟨v, _, e⟩ := h2 i x hi
    rw [e]; rfl
  unfold bindArgs
  simp only [hp1, hp2, hp3, hp4, hp5, hp6, List.map_nil, List.nil_append, List.append_nil]
  rw [forIn_snoc (b := ([] : List (Str × Value))) (ks.zip ws) (ps.zip us) fun pre p post e => ?_]
  · show (do
      let __do_lift ← seqItems? Value.none
      _) = _
    have hs : seqItems? Value.none = pure none := rfl
    have hfil : ∀ n, List.filter (fun n => (List.lookup n (ps.zip us ++ ks.zip ws)).isNone) (List.take n ps) = [] := fun n => by
      rw [List.filter_eq_nil_iff]
      intro x hx
      have := hfind x (List.mem_of_mem_take hx)
      cases e : List.lookup x (ps.zip us ++ ks.zip ws) with
      | none => rw [e] at this; cases this
      | some v => simp
    simp [hs, hlen, hfil, filterMap_zip h1 h2]
  · have hpk : p ∈ ks.zip ws := by rw [e]; simp
    have hx : p.1 ∈ ks := (List.of_mem_zip (a := p.1) (b := p.2) hpk).1
    have hxp : p.1 ∈ ps := List.mem_of_mem_drop (hks _ hx)
    have hno : List.lookup p.1 (ps.zip us ++ pre) = none := by
      rw [lookup_app (lookup_zip_none fun i hi e2 => ?_)]
      · cases q : List.lookup p.1 pre with
        | none => rfl
        | some v =>
          exfalso
          have hm : (p.1, v) ∈ pre := by
            clear e hpk hks hx hxp
            induction pre with
            | nil => simp at q
            | cons a pre ih =>
              simp only [List.lookup] at q
              split at q
              · rename_i hb
                have : p.1 = a.1 := by simpa using hb
                cases q
                rw [this]
                simp
              · exact List.mem_cons_of_mem _ (ih q)
          have hk : (ks.zip ws).map (·.1) = ks := by
            rw [List.map_fst_zip (by omega)]
          rw [e] at hk
          rw [← hk] at nk
          simp only [List.map_append, List.map_cons] at nk
          rw [List.nodup_append] at nk
          exact nk.2.2 p.1 (List.mem_map.mpr ⟨_, hm, rfl⟩) p.1 (by simp) rfl
      · obtain ⟨j, hj⟩ := List.getElem?_of_mem (hks _ hx)
        rw [List.getElem?_drop] at hj
        have l1 := lt_of_get hj
        have l2 := lt_of_get e2
        rw [List.getElem?_eq_getElem l1] at hj
        rw [List.getElem?_eq_getElem l2] at e2
        have := (List.getElem_inj nd).mp ((Option.some.inj hj).trans (Option.some.inj e2).symm)
        omega
    have hc : ps.contains p.1 = true := by simpa using hxp
    simp [hc, hno]
    exact fun z => absurd hxp z
theorem PlainP.bnd {fd : FuncData} {ps : List Str} (P : PlainP fd ps) (nd : ps.Nodup) : Bnd fd ps := bnd_of P nd
end TH
end
section
set_option Elab.async false
set_option linter.all false
set_option maxRecDepth 100000
namespace TH
open PySem PySem.Spec PyProof.Rows L2

/-! a scope's context, as code is made in it -/
structure Ce where
  sig : Sig
  N : List Str
  sc : Scope
  fn : Str → Bool
def bltAll : List Str := ["len", "repr", "str", "int", "abs", "max", "min", "sum", "all", "any", "sorted", "list", "tuple", "dict", "range", "enumerate", "zip", "isinstance", "bool", "set"]
structure Good (E : Ce) (G : Glob) (X : Cx) : Prop where
  N : X.N = E.N
  nd : E.N.Nodup
  sc : X.env.scope = E.sc
  calm : X.calm = true
  hh : X.A.handled = none
  un : X.A.units + 200 < cLine
  gd : X.A.guards = some []
  sys : SysD X
  xe : ∀ e s, ¬ X.xe e s
  fn : ∀ x, E.fn x = true → X.fn x = true
  blt : ∀ x ∈ bltAll, E.sig.funs.lookup x = none → X.mg x = none
  fns : ∀ x fn ps ms, E.sig.funs.lookup x = some (fn, ps, ms) → FnFact G X x fn ps ms
  con : ∀ x c, E.sig.cons.lookup x = some c → ConFact G X x c
/-- what is known of a compiled expression's shape -/
structure Sh (e : Expr) : Prop where
  star : ∀ es env, starEach (e :: es) env = (false, eval e env) :: starEach es env
  fold : ∀ env x, foldedSetIterable e env x = pure x
  mark : ∀ op, behindInMarks op e = false
structure R (E : Ce) (e : Expr) (c : C) : Prop where
  pe : ∀ G Z X, Good E G X → ZX Z X → PE X e (tE G Z noEx c)
  var : ∀ i, c = .var i → ∀ G X, Good E G X → PE X e (tVar i)
  pk : peekOf c = none
  sh : Sh e
section
variable {E : Ce} {G : Glob} {Z : Cf} {X : Cx} {e : Expr} {c : C}
theorem kindIs_eq {k : NameKind} {o : Option NameKind} (h : kindIs k o = true) : o = some k := by
  cases o with
  | none => cases h
  | some j => cases k <;> cases j <;> first | rfl | cases h
theorem vis_ok (g : Good E G X) {x : Str} (h : visB E.sc x = true) : Vis X.env.scope x := by
  unfold visB at h
  rw [g.sc]
  simp only [Bool.or_eq_true] at h
  rcases h with (h | h) | h
  · exact .inl (kindIs_eq h)
  · exact .inr (.inl (kindIs_eq h))
  · exact .inr (.inr (kindIs_eq h))
theorem gl_ok (g : Good E G X) {x : Str} (h : glB E.sc x = true) : Gl X x := by
  show X.env.scope.names.lookup x = some .globalImplicit
  rw [g.sc]
  exact kindIs_eq h
/-- an argument of a primitive -/
theorem R.arg (r : R E e c) (p : P) (g : Good E G X) (zx : ZX Z X) : PE X e (argT G Z noEx (argOf p c)) := by
  unfold argOf
  cases c with
  | var i =>
    have := r.var i rfl G X g
    show PE X e (argT G Z noEx (if partsP p = true then .pt i else .pk i))
    by_cases hp : partsP p = true
    · rw [if_pos hp]; exact this
    · rw [if_neg hp]; exact this
  | _ => first | exact (r.pe G Z X g zx) | (simp only [argT, r.pk]; exact r.pe G Z X g zx)
/-- an argument by value -/
theorem R.argV (r : R E e c) (g : Good E G X) (zx : ZX Z X) : PE X e (argT G Z noEx c) := by
  have h : argT G Z noEx c = tE G Z noEx c := by unfold argT; rw [r.pk]
  rw [h]; exact r.pe G Z X g zx
theorem var_pe {i : Nat} (he : PE X e (tVar i)) : PE X e (tE G Z noEx (.var i)) := by
  refine pe_imp he fun σ H Q h => ?_
  obtain ⟨ρ, tv, ts, s, h⟩ := h
  simp only [evE] at h
  cases hg : getS ρ i with
  | un => rw [hg] at h; exact h.elim
  | lk => rw [hg] at h; exact h.elim
  | vl k d =>
    rw [hg] at h
    obtain ⟨v, hv⟩ := s.val hg
    refine ⟨v, hv, ?_⟩
    -- the thing is shared, and stands at hand
    have push : ∀ {ρ' : Ev}, Sta Z σ ρ' tv ts H → getS ρ' i = .vl .sh d → Sta Z σ ρ' (tv ++ [some v]) (ts ++ [.vl .sh d]) H := fun {ρ'} s' hg' => by
      obtain ⟨f, w, o⟩ := s'.ok
      have h1 := s'.get hg'
      obtain ⟨v', e', r, ko, hB⟩ := o.at h1
      rw [List.getElem?_append_left (lt_of_get hv), hv] at e'
      cases e'
      have hw : w i = [] := ko
      refine ⟨s'.len, ?_⟩
      have := o.pushSh (k_true r) ⟨fun a ha j hj => ?_, hB⟩
      · simpa using this
      · have := o.sep i j a ha hj
        subst this
        rw [hw] at hj; simp at hj
    have shr : Sta Z σ (setS ρ i (.vl .sh d)) tv ts H := s.set (getS_lt hg) (s.ok.share (s.get hg))
    have hgs : getS (setS ρ i (.vl .sh d)) i = .vl .sh d := by
      unfold getS setS; rw [List.getElem?_set_self (getS_lt hg)]; rfl
    have imm' : imm d = true → k ≠ .io → Sta Z σ ρ (tv ++ [some v]) (ts ++ [.vl .sh d]) H := fun hi hk => by
      obtain ⟨f, w, o⟩ := s.ok
      have h1 := s.get hg
      obtain ⟨v', e', r, ko, hB⟩ := o.at h1
      rw [List.getElem?_append_left (lt_of_get hv), hv] at e'
      cases e'
      refine ⟨s.len, ?_⟩
      have hn := r.imm_nil hi
      have := o.pushSh (k_true r) (by rw [hn]; exact .nil)
      simpa using this
    cases k with
    | io => exact h.elim
    | sh => exact h v H (push s hg)
    | fr =>
      by_cases hi : imm d = true
      · have h : OutR (fun r => ∀ v H', Sta Z σ r.2.2 (tv ++ [some v]) (ts ++ [.vl r.2.1 r.1]) H' → Q v H') noEx (if imm d then .ok (d, .sh, ρ) else .ok (d, .sh, setS ρ i (.vl .sh d))) := h
        rw [if_pos hi] at h
        exact h v H (imm' hi (by decide))
      · have h : OutR (fun r => ∀ v H', Sta Z σ r.2.2 (tv ++ [some v]) (ts ++ [.vl r.2.1 r.1]) H' → Q v H') noEx (if imm d then .ok (d, .sh, ρ) else .ok (d, .sh, setS ρ i (.vl .sh d))) := h
        rw [if_neg hi] at h
        exact h v H (push shr hgs)
    | top =>
      by_cases hi : imm d = true
      · have h : OutR (fun r => ∀ v H', Sta Z σ r.2.2 (tv ++ [some v]) (ts ++ [.vl r.2.1 r.1]) H' → Q v H') noEx (if imm d then .ok (d, .sh, ρ) else .ok (d, .sh, setS ρ i (.vl .sh d))) := h
        rw [if_pos hi] at h
        exact h v H (imm' hi (by decide))
      · have h : OutR (fun r => ∀ v H', Sta Z σ r.2.2 (tv ++ [some v]) (ts ++ [.vl r.2.1 r.1]) H' → Q v H') noEx (if imm d then .ok (d, .sh, ρ) else .ok (d, .sh, setS ρ i (.vl .sh d))) := h
        rw [if_neg hi] at h
        exact h v H (push shr hgs)
end
end TH
end
section
set_option Elab.async false
set_option linter.all false
set_option maxRecDepth 100000
namespace TH
open PySem PySem.Spec PyProof.Rows L2

section
variable {E : Ce} {e a b : Expr} {c ca cb : C} {pos : Pos}
theorem lit_red {G : Glob} {Z : Cf} {σ : L2.St} {H : Hp} {Q : VK} {d : D} {v : V} (r : ∀ H, DRep Z.w Z.K H false v d []) (h : tE G Z noEx (.lit d) σ H Q) : Q v H := by
  obtain ⟨ρ, tv, ts, s, h⟩ := h
  simp only [evE] at h
  obtain ⟨f, w, o⟩ := s.ok
  obtain ⟨f', w', o'⟩ := o.pushAtom (r H)
  exact h v H ⟨s.len, f', w', by simpa using o'⟩
theorem R.cnone {j pos} : R E (.Constant .none j pos) (.lit .none) where
  pe := fun G Z X g zx => ⟨fun pins s σ H Q I h => Constant_none ⟨.non, H, I, rfl, lit_red (fun _ => .none) h⟩⟩
  var := fun i h => by cases h
  pk := rfl
  sh := ⟨fun _ _ => rfl, fun _ _ => rfl, fun _ => rfl⟩
theorem R.cbool {b : Bool} {j pos} : R E (.Constant (.bool b) j pos) (.lit (.bool b)) where
  pe := fun G Z X g zx => pe_imp pe_bl fun σ H Q h => lit_red (fun _ => .bool b) h
  var := fun i h => by cases h
  pk := rfl
  sh := ⟨fun _ _ => rfl, fun _ _ => rfl, fun _ => rfl⟩
theorem R.cint {i : Int} {j pos} : R E (.Constant (.int i) j pos) (.lit (.int i)) where
  pe := fun G Z X g zx => pe_imp pe_int fun σ H Q h => lit_red (fun _ => .int i) h
  var := fun i h => by cases h
  pk := rfl
  sh := ⟨fun _ _ => rfl, fun _ _ => rfl, fun _ => rfl⟩
theorem R.cstr {x : Str} {j pos} (hx : line x.length = true) : R E (.Constant (.str x) j pos) (.lit (.str x)) where
  pe := fun G Z X g zx => pe_imp pe_str fun σ H Q h => lit_red (fun _ => .str x (line_le hx)) h
  var := fun i h => by cases h
  pk := rfl
  sh := ⟨fun _ _ => rfl, fun _ _ => rfl, fun _ => rfl⟩
theorem R.name {x : Str} {i : Nat} (hv : visB E.sc x = true) (hi : E.N[i]? = some x) (hd : (x == ("__debug__" : Str)) = false) (hcd : (x == ("__classdict__" : Str)) = false) : R E (.Name x pos) (.var i) where
  pe := fun G Z X g zx => var_pe (pe_var (by rw [g.N]; exact hi) (vis_ok g hv) hd hcd)
  var := fun j h G X g => by
    cases h
    exact pe_var (by rw [g.N]; exact hi) (vis_ok g hv) hd hcd
  pk := rfl
  sh := ⟨fun _ _ => rfl, fun _ _ => rfl, fun _ => rfl⟩
/-- what an operation asks -/
def OpOk (f : Value → Value → Sem Value) (p : P) : Prop := ∀ (E : Ce) (G : Glob) (Z : Cf) (X : Cx), Good E G X → ZX Z X → OpR X f (fun x y H Q => PrimT Z p [x, y] H Q)
theorem op2 {G : Glob} {Z : Cf} {p : P} {c1 c2 : C} {σ : L2.St} {H : Hp} {Q : VK} (h : tE G Z noEx (.op p [c1, c2]) σ H Q) : tOp (fun x y H Q => PrimT Z p [x, y] H Q) (argT G Z noEx c1) (argT G Z noEx c2) σ H Q := op_red h
theorem op1 {G : Glob} {Z : Cf} {p : P} {c1 : C} {σ : L2.St} {H : Hp} {Q : VK} (h : tE G Z noEx (.op p [c1]) σ H Q) : tUn (fun x H Q => PrimT Z p [x] H Q) (argT G Z noEx c1) σ H Q := op_red h
theorem R.bin {op : Operator} {p : P} (ho : OpOk (binaryOp op) p) (ra : R E a ca) (rb : R E b cb) : R E (.BinOp a op b pos) (.op p [argOf p ca, argOf p cb]) where
  pe := fun G Z X g zx => pe_imp (pe_op (ho E G Z X g zx) (ra.arg p g zx) (rb.arg p g zx)) fun σ H Q h => op2 h
  var := fun i h => by cases h
  pk := rfl
  sh := ⟨fun _ _ => rfl, fun _ _ => rfl, fun _ => rfl⟩
theorem R.neg (ra : R E a ca) : R E (.UnaryOp .USub a pos) (.op .neg [argOf .neg ca]) where
  pe := fun G Z X g zx => pe_imp (pe_un pr_neg (ra.arg .neg g zx)) fun σ H Q h => op1 h
  var := fun i h => by cases h
  pk := rfl
  sh := ⟨fun _ _ => rfl, fun _ _ => rfl, fun _ => rfl⟩
theorem R.cmp {op : CmpOp} {p : P} (ho : OpOk (compareOp op) p) (ra : R E a ca) (rb : R E b cb) : R E (.Compare a [op] [b] pos) (.op p [argOf p ca, argOf p cb]) where
  pe := fun G Z X g zx => pe_imp (pe_cmpR (ho E G Z X g zx) (ra.arg p g zx) (rb.arg p g zx) (rb.sh.mark op)) fun σ H Q h => op2 h
  var := fun i h => by cases h
  pk := rfl
  sh := ⟨fun _ _ => rfl, fun _ _ => rfl, fun _ => rfl⟩
theorem ok_add : OpOk (binaryOp .Add) .add := fun E G Z X g zx => pr_add zx
theorem ok_sub : OpOk (binaryOp .Sub) .sub := fun E G Z X g zx => pr_sub
theorem ok_mul : OpOk (binaryOp .Mult) .mul := fun E G Z X g zx => pr_mul
theorem ok_fdiv : OpOk (binaryOp .FloorDiv) .fdiv := fun E G Z X g zx => pr_fdiv
theorem ok_mod : OpOk (binaryOp .Mod) .mod := fun E G Z X g zx => pr_mod
theorem ok_pow : OpOk (binaryOp .Pow) .pow := fun E G Z X g zx => pr_pow
theorem ok_eq : OpOk (compareOp .Eq) .eq := fun E G Z X g zx => pr_eq g.un zx
theorem ok_ne : OpOk (compareOp .NotEq) .ne := fun E G Z X g zx => pr_ne g.un zx
theorem ok_lt : OpOk (compareOp .Lt) .lt := fun E G Z X g zx => pr_lt g.un zx
theorem ok_le : OpOk (compareOp .LtE) .le := fun E G Z X g zx => pr_le g.un zx
theorem ok_gt : OpOk (compareOp .Gt) .gt := fun E G Z X g zx => pr_gt g.un zx
theorem ok_ge : OpOk (compareOp .GtE) .ge := fun E G Z X g zx => pr_ge g.un zx
theorem ok_in : OpOk (compareOp .In) .isin := fun E G Z X g zx => pr_in g.un zx
theorem ok_notin : OpOk (compareOp .NotIn) .notin := fun E G Z X g zx => pr_notin g.un zx
/-- is None, is True .. -/
theorem R.is {p : P} {n : Bool} {y : D} {k : Const} {j : Nat} {pos' : Pos} (hp : ∀ a : D × Own, prim p [a] = okA (.bool (notIf n (isD y a.1)))) (hk : (y = .none ∧ k = .none) ∨ ∃ c, y = .bool c ∧ k = .bool c) (ra : R E a ca) :
    R E (.Compare a [if n then .IsNot else .Is] [.Constant k j pos'] pos) (.op p [argOf p ca]) where
  pe := fun G Z X g zx => by
    refine ⟨fun pins s σ H Q I h => ?_⟩
    have h := op1 h
    refine wpAny_Compare1 (thn ((ra.arg p g zx).run pins s σ H _ I h) fun v s1 ⟨x, H1, I1, r1, q1⟩ => ?_) (by cases n <;> rfl)
    rcases hk with ⟨e1, e2⟩ | ⟨c, e1, e2⟩
    · subst e1 e2
      refine Constant_none ?_
      exact pr_is (vy := .none) hp (.inl ⟨rfl, rfl⟩) zx I1 r1 q1
    · subst e1 e2
      refine Constant_bool ?_
      exact pr_is (vy := .bool c) hp (.inr ⟨c, rfl, rfl⟩) zx I1 r1 q1
  var := fun i h => by cases h
  pk := rfl
  sh := ⟨fun _ _ => rfl, fun _ _ => rfl, fun _ => rfl⟩
/-- a[b] -/
theorem R.ix (ra : R E a ca) (rb : R E b cb) (hs : PlainIx b) : R E (.Subscript a b pos) (.op .idx [argOf .idx ca, argOf .idx cb]) where
  pe := fun G Z X g zx => pe_imp (pe_ix (pr_idx_all g.un zx) (ra.arg .idx g zx) (rb.arg .idx g zx) hs) fun σ H Q h => op2 h
  var := fun i h => by cases h
  pk := rfl
  sh := ⟨fun _ _ => rfl, fun _ _ => rfl, fun _ => rfl⟩
end
end TH
end
section
set_option Elab.async false
set_option linter.all false
set_option maxRecDepth 100000
namespace TH
open PySem PySem.Spec PyProof.Rows L2

section
variable {E : Ce} {e a b : Expr} {c ca cb : C} {pos p : Pos}
/-- argument lists -/
inductive RL (E : Ce) : List Expr → List C → Prop
  | nil : RL E [] []
  | cons {e c es cs} : R E e c → RL E es cs → RL E (e :: es) (c :: cs)
theorem RL.pa (pr : P) {G : Glob} {Z : Cf} {X : Cx} (g : Good E G X) (zx : ZX Z X) : ∀ {es : List Expr} {cs : List C}, RL E es cs → PA X es (argsT G Z noEx (cs.map (argOf pr)))
  | _, _, .nil => pa_nil
  | _, _, .cons r rs => pa_cons (r.arg pr g zx) (RL.pa pr g zx rs) (r.sh.star _ _)
theorem RL.paV {G : Glob} {Z : Cf} {X : Cx} (g : Good E G X) (zx : ZX Z X) : ∀ {es : List Expr} {cs : List C}, RL E es cs → PA X es (argsT G Z noEx cs)
  | _, _, .nil => pa_nil
  | _, _, .cons r rs => pa_cons (r.argV g zx) (RL.paV g zx rs) (r.sh.star _ _)
theorem RL.plain : ∀ {es : List Expr} {cs : List C} (env : Env) (pos : Pos), RL E es cs → (backTo pos (starEach es env)).any (·.1) = false
  | _, _, env, pos, .nil => rfl
  | _, _, env, pos, .cons (es := es) r rs => by
    rw [r.sh.star]
    have := RL.plain env pos rs
    show (backTo pos ((false, _) :: starEach es env)).any (·.1) = false
    simpa [backTo] using this
theorem RL.nopk : ∀ {es : List Expr} {cs : List C}, RL E es cs → ∀ c ∈ cs, peekOf c = none
  | _, _, .nil, c, h => by simp at h
  | _, _, .cons r rs, c, h => by
    rcases List.mem_cons.mp h with rfl | h
    · exact r.pk
    · exact rs.nopk c h
theorem call_red {G : Glob} {Z : Cf} {pr : P} {cs : List C} {σ : L2.St} {H : Hp} {Q : VK} {r : List V → Hp → VK → Prop} (k : ∀ vs H Q, PrimT Z pr vs H Q → r vs H Q) (h : tE G Z noEx (.op pr cs) σ H Q) : tCB r (argsT G Z noEx cs) σ H Q :=
  argsT_mono (fun vs H1 q => k vs H1 Q q) (op_red h)
/-- a built-in function by name -/
theorem R.fn {x : Str} {id : String} {pr : P} {e : Expr} {es : List Expr} {c : C} {cs : List C} (hx : x ∈ bltAll) (hf : E.sig.funs.lookup x = none) (hgl : glB E.sc x = true) (hv : bootBuiltins x = some (.builtin id)) (hn : x ≠ "__name__") (hdb : (x == ("__debug__" : Str)) = false)
    {r : ∀ (Z : Cf) (X : Cx), List V → Hp → VK → Prop} (hr : ∀ G Z X, Good E G X → ZX Z X → CallR X (.builtin id) (r Z X)) (hk : ∀ G Z X, Good E G X → ZX Z X → ∀ vs H Q, PrimT Z pr vs H Q → r Z X vs H Q) (rl : RL E (e :: es) (c :: cs)) :
    R E (.Call (.Name x p) (e :: es) [] pos) (.op pr ((c :: cs).map (argOf pr))) where
  pe := fun G Z X g zx => by
    have hs : starEach (e :: es) X.env = (false, eval e X.env) :: starEach es X.env := by cases rl with | cons r _ => exact r.sh.star _ _
    have hpl : (backTo pos (starEach es X.env)).any (·.1) = false := by cases rl with | cons _ rs => exact rs.plain _ _
    exact pe_imp (pe_callB (hr G Z X g zx) (gl_ok g hgl) (g.blt x hx hf) hv (rl.pa pr g zx) hn hdb hs hpl) fun σ H Q h => call_red (hk G Z X g zx) h
  var := fun i h => by cases h
  pk := rfl
  sh := ⟨fun _ _ => rfl, fun _ _ => rfl, fun _ => rfl⟩
theorem R.ty {x : Str} {T : String} {pr : P} {e : Expr} {es : List Expr} {c : C} {cs : List C} (hx : x ∈ bltAll) (hf : E.sig.funs.lookup x = none) (hgl : glB E.sc x = true) (hv : bootBuiltins x = some (.type T)) (hn : x ≠ "__name__") (hdb : (x == ("__debug__" : Str)) = false)
    {r : ∀ (Z : Cf) (X : Cx), List V → Hp → VK → Prop} (hr : ∀ G Z X, Good E G X → ZX Z X → CallR X (.type T) (r Z X)) (hk : ∀ G Z X, Good E G X → ZX Z X → ∀ vs H Q, PrimT Z pr vs H Q → r Z X vs H Q) (rl : RL E (e :: es) (c :: cs)) :
    R E (.Call (.Name x p) (e :: es) [] pos) (.op pr ((c :: cs).map (argOf pr))) where
  pe := fun G Z X g zx => by
    have hs : starEach (e :: es) X.env = (false, eval e X.env) :: starEach es X.env := by cases rl with | cons r _ => exact r.sh.star _ _
    have hpl : (backTo pos (starEach es X.env)).any (·.1) = false := by cases rl with | cons _ rs => exact rs.plain _ _
    exact pe_imp (pe_callTy (hr G Z X g zx) (gl_ok g hgl) (g.blt x hx hf) hv (rl.pa pr g zx) hn hdb hs hpl) fun σ H Q h => call_red (hk G Z X g zx) h
  var := fun i h => by cases h
  pk := rfl
  sh := ⟨fun _ _ => rfl, fun _ _ => rfl, fun _ => rfl⟩
/-- displays -/
theorem R.tup {es : List Expr} {cs : List C} {k : Nat} (rl : RL E es cs) : R E (.Tuple es k pos) (.op .tup cs) where
  pe := fun G Z X g zx => pe_imp (pe_tup (rl.paV g zx)) fun σ H Q h => argsT_mono (fun vs H1 q => disp_tup q) (disp_red rl.nopk h)
  var := fun i h => by cases h
  pk := rfl
  sh := ⟨fun _ _ => rfl, fun _ _ => rfl, fun _ => rfl⟩
theorem R.lst {es : List Expr} {cs : List C} (rl : RL E es cs) : R E (.List es pos) (.op .lst cs) where
  pe := fun G Z X g zx => pe_imp (pe_lst (rl.paV g zx)) fun σ H Q h => argsT_mono (fun vs H1 q => disp_lst q) (disp_red rl.nopk h)
  var := fun i h => by cases h
  pk := rfl
  sh := ⟨fun _ _ => rfl, fun _ _ => rfl, fun _ => rfl⟩
/-- isinstance -/
theorem R.isi {T x : Str} {t : String} {p2 : Pos} (ht : t ∈ tyNames) (hx : ("isinstance" : Str) ∈ bltAll) (hf : E.sig.funs.lookup ("isinstance" : Str) = none) (hgl : glB E.sc ("isinstance" : Str) = true)
    (hT : T ∈ bltAll) (hTf : E.sig.funs.lookup T = none) (hTg : glB E.sc T = true) (hTv : bootBuiltins T = some (.type t)) (hTn : T ≠ "__name__") (hTd : (T == ("__debug__" : Str)) = false) (ra : R E a ca) :
    R E (.Call (.Name ("isinstance" : Str) p) [a, .Name T p2] [] pos) (.op (.isi t) [argOf (.isi t) ca]) where
  pe := fun G Z X g zx => by
    have pt : PE X (.Name T p2) (tC (.ty t)) := pe_bltn (gl_ok g hTg) (g.blt T hT hTf) hTv rfl hTn hTd
    have pa : PA X [a, .Name T p2] (tCons (argT G Z noEx (argOf (.isi t) ca)) (tCons (tC (.ty t)) tNil)) := pa_cons (ra.arg _ g zx) (pa_cons pt pa_nil) (ra.sh.star _ _)
    refine pe_imp (pe_callB (pr_isi (Z := Z) ht) (gl_ok g hgl) (g.blt _ hx hf) rfl pa (by decide) (by decide) (ra.sh.star _ _) rfl) fun σ H Q h => ?_
    have h := op1 h
    exact argT_mono (fun v H1 q => ⟨zx, v, rfl, q⟩) h
  var := fun i h => by cases h
  pk := rfl
  sh := ⟨fun _ _ => rfl, fun _ _ => rfl, fun _ => rfl⟩
end
end TH
end
section
set_option Elab.async false
set_option linter.all false
set_option maxRecDepth 100000
namespace TH
open PySem PySem.Spec PyProof.Rows L2

/-- a test's reading -/
def tTr (G : Glob) (Z : Cf) (c : C) : TT := fun σ H Q => ∃ ρ tv ts, Sta Z σ ρ tv ts H ∧ OutR (fun r => ∀ H', Sta Z σ r.2.2 tv ts H' → Q (truth r.1) H') noEx (evE G c ρ)
structure RT (E : Ce) (e : Expr) (c : C) : Prop where
  pt : ∀ G Z X, Good E G X → ZX Z X → PT X e (tTr G Z c)
section
variable {E : Ce} {e a b : Expr} {c ca cb cc : C} {pos : Pos}
theorem pt_imp {X : Cx} {e : Expr} {t t' : TT} (h : PT X e t) (k : ∀ σ H Q, t' σ H Q → t σ H Q) : PT X e t' := ⟨fun pins s σ H Q I q => h.run pins s σ H Q I (k σ H Q q)⟩
theorem Sta.drop {Z : Cf} {σ : L2.St} {ρ : Ev} {tv : L2.St} {ts : Ev} {H : Hp} {v : V} {k : Own} {d : D} (s : Sta Z σ ρ (tv ++ [some v]) (ts ++ [.vl k d]) H) : Sta Z σ ρ tv ts H ∧ Arg0 Z H v d := by
  obtain ⟨f, w, o⟩ := s.ok
  have o : OkW Z ((σ ++ tv) ++ [some v]) ((ρ ++ ts) ++ [.vl k d]) H f w := by simpa using o
  obtain ⟨v', e, r, _⟩ := o.last
  cases e
  exact ⟨⟨s.len, _, _, o.pop⟩, _, k_true r⟩
/-- the value's truth -/
theorem tr_val {G : Glob} {Z : Cf} {c : C} {σ : L2.St} {H : Hp} {Q : Bool → Hp → Prop} (h : tTr G Z c σ H Q) : tE G Z noEx c σ H fun v H' => ∃ d, Arg0 Z H' v d ∧ Q (truth d) H' := by
  obtain ⟨ρ, tv, ts, s, h⟩ := h
  exact ⟨ρ, tv, ts, s, h.mono fun r hr v H' s' => ⟨r.1, s'.drop.2, hr H' s'.drop.1⟩⟩
/-- an expression whose test is its value's truth -/
theorem RT.val (r : R E e c) (he : ∀ env whole, isTrue e env whole = (do let v ← whole; standAt e.pos; holding [v] (truthy v))) : RT E e c where
  pt := fun G Z X g zx => ⟨fun pins s σ H Q I h => isTrue_plain (thn ((r.pe G Z X g zx).run pins s σ H _ I (tr_val h)) fun v s1 ⟨x, H1, I1, r1, d, q1, q2⟩ => truth_ok zx I1 r1 q1 fun tk => ⟨H1, I1.tok tk, q2⟩) (he _ _)⟩
/-- a name -/
theorem tr_slot {G : Glob} {Z : Cf} {i : Nat} {σ : L2.St} {H : Hp} {Q : Bool → Hp → Prop} (h : tTr G Z (.op .truth [.pk i]) σ H Q) : tVar i σ H fun v H' => ∃ d, Arg0 Z H' v d ∧ Q (truth d) H' := by
  obtain ⟨ρ, tv, ts, s, h⟩ := h
  simp only [evE, evL] at h
  cases hg : getS ρ i with
  | un => simp [bound, hg, Res.bind] at h; exact h.elim
  | lk => simp [bound, hg, Res.bind] at h; exact h.elim
  | vl k d =>
    obtain ⟨v, hv⟩ := s.val hg
    refine ⟨v, hv, d, ?_, ?_⟩
    · obtain ⟨f, w, o⟩ := s.ok
      exact o.arg0 (s.get hg) (by rw [List.getElem?_append_left (lt_of_get hv)]; exact hv)
    · have h' : OutR (fun r => ∀ H', Sta Z σ r.2.2 tv ts H' → Q (truth r.1) H') noEx (Res.ok ((PyData.bool (truth d), Own.fr, ρ) : D × Own × Ev)) := by
        cases k <;> simpa [bound, hg, Res.bind, peek, scalarP, prim, okA, optR] using h
      exact h' H s
theorem RT.name {x : Str} {i : Nat} (r : R E (.Name x pos) (.var i)) : RT E (.Name x pos) (.op .truth [.pk i]) where
  pt := fun G Z X g zx => ⟨fun pins s σ H Q I h => isTrue_plain (thn ((r.var i rfl G X g).run pins s σ H _ I (tr_slot h)) fun v s1 ⟨x, H1, I1, r1, d, q1, q2⟩ => truth_ok zx I1 r1 q1 fun tk => ⟨H1, I1.tok tk, q2⟩) rfl⟩
/-- not -/
theorem RT.not (r : RT E a ca) : RT E (.UnaryOp .Not a pos) (.not_ ca) where
  pt := fun G Z X g zx => pt_imp (pt_not (r.pt G Z X g zx)) fun σ H Q h => by
    obtain ⟨ρ, tv, ts, s, h⟩ := h
    simp only [evE] at h
    exact ⟨ρ, tv, ts, s, h.bind.mono fun r hr H' s' => hr H' s'⟩
/-- comparisons: the value is a truth value -/
def boolP : P → Bool
  | .eq | .ne | .lt | .le | .gt | .ge | .isin | .notin => true
  | _ => false
theorem okB_bool {o : Option Bool} {d : D} {k : Own} (h : okB o = some (d, k)) : ∃ b, d = .bool b := by
  obtain ⟨b, _, h⟩ := okB_some h
  cases h
  exact ⟨b, rfl⟩
theorem boolP_val {p : P} (hp : boolP p = true) {x y : D × Own} {d : D} {k : Own} (h : prim p [x, y] = some (d, k)) : ∃ b, d = .bool b := by
  cases p <;> first | (exact Bool.noConfusion hp) | exact okB_bool h
end
end TH
end
section
set_option Elab.async false
set_option linter.all false
set_option maxRecDepth 100000
namespace TH
open PySem PySem.Spec PyProof.Rows L2

section
variable {E : Ce} {e a b : Expr} {c ca cb cc : C} {pos : Pos}
/-- a comparison as a test -/
theorem tr_op {G : Glob} {Z : Cf} {p : P} {c1 c2 : C} {σ : L2.St} {H : Hp} {Q : Bool → Hp → Prop} (hp : boolP p = true) (h : tTr G Z (.op p [c1, c2]) σ H Q) : tE G Z noEx (.op p [c1, c2]) σ H fun v H' => ∃ k, v = .bl k ∧ Q k H' := by
  obtain ⟨ρ, tv, ts, s, h⟩ := h
  refine ⟨ρ, tv, ts, s, ?_⟩
  obtain ⟨r, e, hr⟩ := outR_ok h
  rw [e]
  have hb : ∃ b, r.1 = .bool b := by
    simp only [evE] at e
    cases e1 : evL G [c1, c2] ρ with
    | exc => rw [e1] at e; cases e
    | stk => rw [e1] at e; cases e
    | ok q =>
      rw [e1] at e
      simp only [Res.bind] at e
      split at e
      · cases e2 : prim p q.1 with
        | none => rw [e2] at e; cases e
        | some z =>
          rw [e2] at e
          simp only [optR] at e
          cases e
          have hl : q.1.length = 2 := by
            by_cases hl : q.1.length = 2
            · exact hl
            · have : prim p q.1 = none := by
                rcases hq : q.1 with _ | ⟨x, _ | ⟨y, _ | ⟨z', _ | _⟩⟩⟩ <;> rw [hq] at hl <;> cases p <;> first | rfl | (exact Bool.noConfusion hp) | exact absurd rfl hl
              rw [this] at e2; cases e2
          obtain ⟨x, y, hxy⟩ := len2 hl
          rw [hxy] at e2
          exact boolP_val hp (k := z.2) e2
      · cases e
  obtain ⟨b, hb⟩ := hb
  intro v H' s'
  rw [hb] at s'
  have := s'.drop
  refine ⟨b, this.2.bool, ?_⟩
  have := hr H' this.1
  rw [hb] at this
  exact this
theorem RT.cmp {op : CmpOp} {p : P} (hp : boolP p = true) (ho : OpOk (compareOp op) p) (ra : R E a ca) (rb : R E b cb) : RT E (.Compare a [op] [b] pos) (.op p [argOf p ca, argOf p cb]) where
  pt := fun G Z X g zx => pt_imp (pt_cmpR (ho E G Z X g zx) (ra.arg p g zx) (rb.arg p g zx) (rb.sh.mark op)) fun σ H Q h => op2 (tr_op hp h)
/-- and, or -/
structure RW (E : Ce) (e : Expr) (c : C) : Prop where
  pw : ∀ G Z X, Good E G X → ZX Z X → PW X e (tTr G Z c)
theorem pw_imp {X : Cx} {e : Expr} {t t' : TT} (h : PW X e t) (k : ∀ σ H Q, t' σ H Q → t σ H Q) : PW X e t' := ⟨fun wh pins s σ H Q I q => h.run wh pins s σ H Q I (k σ H Q q)⟩
theorem RW.and1 (r : RT E a ca) : RW E (.BoolOp .And [a] pos) ca where
  pw := fun G Z X g zx => pw_and1 (r.pt G Z X g zx)
theorem RW.or1 (r : RT E a ca) : RW E (.BoolOp .Or [a] pos) ca where
  pw := fun G Z X g zx => pw_or1 (r.pt G Z X g zx)
theorem RW.and {rest : List Expr} (r : RT E a ca) (r2 : RW E (.BoolOp .And (b :: rest) pos) cb) : RW E (.BoolOp .And (a :: b :: rest) pos) (.and_ ca cb) where
  pw := fun G Z X g zx => pw_imp (pw_and (r.pt G Z X g zx) (r2.pw G Z X g zx)) fun σ H Q h => by
    obtain ⟨ρ, tv, ts, s, h⟩ := h
    simp only [evE] at h
    refine ⟨ρ, tv, ts, s, h.bind.mono fun q hq H' s' => ?_⟩
    by_cases ht : truth q.1 = true
    · rw [if_pos ht] at hq ⊢
      exact ⟨_, tv, ts, s', hq⟩
    · rw [if_neg ht] at hq ⊢
      have hf : truth q.1 = false := by simpa using ht
      have := hq H' s'
      rw [hf] at this
      exact this
theorem RW.or {rest : List Expr} (r : RT E a ca) (r2 : RW E (.BoolOp .Or (b :: rest) pos) cb) : RW E (.BoolOp .Or (a :: b :: rest) pos) (.or_ ca cb) where
  pw := fun G Z X g zx => pw_imp (pw_or (r.pt G Z X g zx) (r2.pw G Z X g zx)) fun σ H Q h => by
    obtain ⟨ρ, tv, ts, s, h⟩ := h
    simp only [evE] at h
    refine ⟨ρ, tv, ts, s, h.bind.mono fun q hq H' s' => ?_⟩
    by_cases ht : truth q.1 = true
    · rw [if_pos ht] at hq ⊢
      have := hq H' s'
      rw [ht] at this
      exact this
    · rw [if_neg ht] at hq ⊢
      exact ⟨_, tv, ts, s', hq⟩
theorem RT.w (r : RW E e c) : RT E e c where
  pt := fun G Z X g zx => (r.pw G Z X g zx).pt
/-- .. as values -/
structure RV (E : Ce) (e : Expr) (c : C) : Prop where
  pe : ∀ G Z X, Good E G X → ZX Z X → PE X e (tE G Z noEx c)
/-- a if c else b -/
theorem R.ite (rc : RT E e cc) (ra : R E a ca) (rb : R E b cb) : R E (.IfExp e a b pos) (.ite cc ca cb) where
  pe := fun G Z X g zx => pe_imp (pe_ifExp (rc.pt G Z X g zx) (ra.pe G Z X g zx) (rb.pe G Z X g zx)) fun σ H Q h => by
    obtain ⟨ρ, tv, ts, s, h⟩ := h
    simp only [evE] at h
    refine ⟨ρ, tv, ts, s, h.bind.mono fun q hq H' s' => ?_⟩
    by_cases ht : truth q.1 = true
    · rw [if_pos ht] at hq ⊢
      exact ⟨_, tv, ts, s', hq⟩
    · rw [if_neg ht] at hq ⊢
      exact ⟨_, tv, ts, s', hq⟩
  var := fun i h => by cases h
  pk := rfl
  sh := ⟨fun _ _ => rfl, fun _ _ => rfl, fun _ => rfl⟩
/-- and, or of values: the first one is at hand while its truth is asked -/
theorem bool_run {X : Cx} {G : Glob} {Z : Cf} (g : Good E G X) (zx : ZX Z X) {pins : List (Addr × Obj)} {σ : L2.St} {H1 : Hp} {s1 : Shared} {x : V} {v : Value} {d : D} {E' : Value → Shared → Prop} {Qt : Bool → Shared → Prop} (I : Inv X pins σ H1 s1) (r : RelV x v) (a : Arg0 Z H1 x d)
    (h : ∀ tk, Qt (truth d) { s1 with toks := tk }) : wpAny (model X.prog X.w) X.A (truthy v) Qt X.xe s1 := truth_ok zx I r a h
theorem R.and {rest : List Expr} (ra : R E a ca) (rb : RV E (.BoolOp .And (b :: rest) pos) cb) : RV E (.BoolOp .And (a :: b :: rest) pos) (.and_ ca cb) where
  pe := fun G Z X g zx => by
    refine ⟨fun pins s σ H Q I h => ?_⟩
    obtain ⟨ρ, tv, ts, st, h⟩ := h
    simp only [evE] at h
    have h1 : tE G Z noEx ca σ H fun x H1 => ∃ d, Arg0 Z H1 x d ∧ (if truth d = true then tE G Z noEx cb σ H1 Q else Q x H1) := ⟨ρ, tv, ts, st, h.bind.mono fun q hq x H1 s1 => by
      refine ⟨q.1, s1.drop.2, ?_⟩
      by_cases ht : truth q.1 = true
      · rw [if_pos ht] at hq ⊢
        exact ⟨_, tv, ts, s1.drop.1, hq⟩
      · rw [if_neg ht] at hq ⊢
        exact hq x H1 s1⟩
    refine BoolOp_and (thn ((ra.pe G Z X g zx).run pins s σ H _ I h1) fun v s1 ⟨x, H1, I1, r1, d, q0, q1⟩ => ?_)
    refine truth_ok zx I1 r1 q0 fun tk => ?_
    by_cases ht : truth d = true
    · rw [if_pos ht] at q1
      rw [ht]
      exact (rb.pe G Z X g zx).run pins _ σ H1 Q (I1.tok tk) q1
    · rw [if_neg ht] at q1
      have hf : truth d = false := by simpa using ht
      rw [hf]
      exact ⟨x, H1, I1.tok tk, r1, q1⟩
theorem R.or {rest : List Expr} (ra : R E a ca) (rb : RV E (.BoolOp .Or (b :: rest) pos) cb) : RV E (.BoolOp .Or (a :: b :: rest) pos) (.or_ ca cb) where
  pe := fun G Z X g zx => by
    refine ⟨fun pins s σ H Q I h => ?_⟩
    obtain ⟨ρ, tv, ts, st, h⟩ := h
    simp only [evE] at h
    have h1 : tE G Z noEx ca σ H fun x H1 => ∃ d, Arg0 Z H1 x d ∧ (if truth d = true then Q x H1 else tE G Z noEx cb σ H1 Q) := ⟨ρ, tv, ts, st, h.bind.mono fun q hq x H1 s1 => by
      refine ⟨q.1, s1.drop.2, ?_⟩
      by_cases ht : truth q.1 = true
      · rw [if_pos ht] at hq ⊢
        exact hq x H1 s1
      · rw [if_neg ht] at hq ⊢
        exact ⟨_, tv, ts, s1.drop.1, hq⟩⟩
    refine BoolOp_or (thn ((ra.pe G Z X g zx).run pins s σ H _ I h1) fun v s1 ⟨x, H1, I1, r1, d, q0, q1⟩ => ?_)
    refine truth_ok zx I1 r1 q0 fun tk => ?_
    by_cases ht : truth d = true
    · rw [if_pos ht] at q1
      rw [ht]
      exact ⟨x, H1, I1.tok tk, r1, q1⟩
    · rw [if_neg ht] at q1
      have hf : truth d = false := by simpa using ht
      rw [hf]
      exact (rb.pe G Z X g zx).run pins _ σ H1 Q (I1.tok tk) q1
theorem RV.one {op : BoolOp} (r : R E a ca) : RV E (.BoolOp op [a] pos) ca where
  pe := fun G Z X g zx => pe_one (r.pe G Z X g zx)
theorem R.v {op : BoolOp} {es : List Expr} (r : RV E (.BoolOp op es pos) c) (hv : ∀ i, c ≠ .var i) (hp : peekOf c = none) : R E (.BoolOp op es pos) c where
  pe := r.pe
  var := fun i h => absurd h (hv i)
  pk := hp
  sh := ⟨fun _ _ => rfl, fun _ _ => rfl, fun _ => rfl⟩
end
end TH
end
section
set_option Elab.async false
set_option linter.all false
set_option maxRecDepth 100000
namespace TH
open PySem PySem.Spec PyProof.Rows L2

/-- a compiled target -/
structure RG (E : Ce) (e : Expr) (t : T) : Prop where
  pg : ∀ G X, Good E G X → PG X e (gShx X t)
  one : ∀ es env, assignEach (e :: es) env = (false, assign e env) :: assignEach es env
inductive RGs (E : Ce) : List Expr → List T → Prop
  | nil : RGs E [] []
  | cons {e t es ts} : RG E e t → RGs E es ts → RGs E (e :: es) (t :: ts)
def gShsx (X : Cx) (t : List T) : TGs := fun v σ H Q => ∃ Z, ZX Z X ∧ gShs Z t v σ H Q
section
variable {E : Ce} {e : Expr} {pos : Pos}
theorem gSh_mono {Z : Cf} {t : T} {v : V} {σ : L2.St} {H : Hp} {Q Q' : L2.St → Hp → Prop} (k : ∀ σ H, Q σ H → Q' σ H) (h : gSh Z t v σ H Q) : gSh Z t v σ H Q' := by
  obtain ⟨ρ, tv, ts, f, w, as, d, hl, o, r, sh, h⟩ := h
  exact ⟨ρ, tv, ts, f, w, as, d, hl, o, r, sh, h.mono fun ρ' h σ' a f' w' o' b c => k _ _ (h σ' a f' w' o' b c)⟩
theorem loc_ok {G : Glob} {X : Cx} (g : Good E G X) {x : Str} (h : locB E.sc x = true) : Loc X.env.scope x := by
  unfold locB at h
  rw [g.sc]
  simp only [Bool.or_eq_true] at h
  exact h.imp kindIs_eq kindIs_eq
theorem RG.name {x : Str} {i : Nat} (hx : locB E.sc x = true) (hi : E.N[i]? = some x) (hf : (E.fn x || kindIs .local (E.sc.names.lookup x)) = true) : RG E (.Name x pos) (.nm i) where
  pg := fun G X g => pg_imp (pg_name (by rw [g.N]; exact g.nd) (by rw [g.N]; exact hi) (loc_ok g hx) (by
    rcases Bool.or_eq_true_iff.mp hf with h | h
    · exact .inl (g.fn x h)
    · exact .inr (by rw [g.sc]; exact kindIs_eq h))) fun v σ H Q ⟨Z, _, h⟩ => g_nm h
  one := fun _ _ => rfl
theorem RGs.pgs {G : Glob} {X : Cx} (g : Good E G X) : ∀ {es : List Expr} {ts : List T}, RGs E es ts → PGs X es (gShsx X ts)
  | _, _, .nil => pgs_imp pgs_nil fun v σ H Q ⟨Z, _, h⟩ => g_nil h
  | _, _, .cons r rs => pgs_imp (pgs_cons (r.pg G X g) (RGs.pgs g rs) (by rw [r.one]; rfl)) fun v σ H Q ⟨Z, zx, h⟩ => by
    obtain ⟨v, r, e, h⟩ := g_cons h
    exact ⟨v, r, e, Z, zx, gSh_mono (fun σ H q => ⟨Z, zx, q⟩) h⟩
theorem RGs.len : ∀ {es : List Expr} {ts : List T}, RGs E es ts → es.length = ts.length
  | _, _, .nil => rfl
  | _, _, .cons _ rs => by simp [rs.len]
theorem RGs.each : ∀ {es : List Expr} {ts : List T} (env : Env), RGs E es ts → (assignEach es env).length = es.length ∧ (assignEach es env).findIdx? (·.1) = none
  | _, _, env, .nil => ⟨rfl, rfl⟩
  | _, _, env, .cons r rs => by
    rw [r.one]
    obtain ⟨h1, h2⟩ := rs.each env
    refine ⟨by simp [h1], ?_⟩
    rw [List.findIdx?_cons]
    simp [h2]
theorem RG.tup {es : List Expr} {ts : List T} {k : Nat} (rs : RGs E es ts) : RG E (.Tuple es k pos) (.tp ts) where
  pg := fun G X g => pg_imp (pg_tup (n := es.length) g.calm (rs.pgs g) (rs.each X.env).1 (rs.each X.env).2) fun v σ H Q ⟨Z, zx, h⟩ => by
    obtain ⟨a, xs, e1, e2, e3, e4⟩ := g_tp zx rs.len.symm h
    exact ⟨a, xs, e1, e2, e3, Z, zx, e4⟩
  one := fun _ _ => rfl
end
end TH
end
section
set_option Elab.async false
set_option linter.all false
set_option maxRecDepth 100000
namespace TH
open PySem PySem.Spec PyProof.Rows L2

/-- a compiled source for a target -/
structure RS (E : Ce) (tg e : Expr) (c : C) : Prop where
  pi : ∀ G Z X, Good E G X → ZX Z X → PI X tg e (tSrc G Z c)
  fold : ∀ env x, foldedSetIterable e env x = pure x
section
variable {E : Ce} {e a b tg : Expr} {c ca cb : C} {pos p : Pos}
theorem RS.val (r : R E e c) (hv : isVal c = true) : RS E tg e c where
  pi := fun G Z X g zx => pi_val zx hv (r.pe G Z X g zx)
  fold := r.sh.fold
theorem RS.pt {i : Nat} (r : R E e (.var i)) : RS E tg e (.pt i) where
  pi := fun G Z X g zx => pi_pt zx (r.var i rfl G X g)
  fold := r.sh.fold
theorem RS.range1 (hf : E.sig.funs.lookup ("range" : Str) = none) (hg : glB E.sc "range" = true) (ra : R E a ca) : RS E tg (.Call (.Name "range" p) [a] [] pos) (.sq .range1 [ca]) where
  pi := fun G Z X g zx => src_range1 (gl_ok g hg) (g.blt _ (by decide) hf) ra.pk (RL.paV g zx (.cons ra .nil)) (ra.sh.star _ _)
  fold := fun _ _ => rfl
theorem RS.range2 (hf : E.sig.funs.lookup ("range" : Str) = none) (hg : glB E.sc "range" = true) (ra : R E a ca) (rb : R E b cb) : RS E tg (.Call (.Name "range" p) [a, b] [] pos) (.sq .range2 [ca, cb]) where
  pi := fun G Z X g zx => src_range2 (gl_ok g hg) (g.blt _ (by decide) hf) ra.pk rb.pk (RL.paV g zx (.cons ra (.cons rb .nil))) (by rw [ra.sh.star, rb.sh.star]; rfl) (rb.sh.star _ _)
  fold := fun _ _ => rfl
theorem RS.zip {elts : List Expr} {kk : Nat} {tpos : Pos} (hf : E.sig.funs.lookup ("zip" : Str) = none) (hg : glB E.sc "zip" = true) (ra : R E a ca) (rb : R E b cb) : RS E (.Tuple elts kk tpos) (.Call (.Name "zip" p) [a, b] [] pos) (.sq .zip [ca, cb]) where
  pi := fun G Z X g zx => src_zip zx (gl_ok g hg) (g.blt _ (by decide) hf) ra.pk rb.pk (RL.paV g zx (.cons ra (.cons rb .nil))) (ra.sh.star _ _) (RL.plain X.env pos (.cons rb .nil))
  fold := fun _ _ => rfl
/-- a block's context -/
def blkE (E : Ce) (scope : Scope) : Ce := { E with sc := relS scope E.sc, fn := fun x => scope.names.lookup x == some .cell }
theorem good_blk {G : Glob} {X : Cx} (g : Good E G X) {s : Shared} {H : Hp} {scope : Scope} {C : Addr} {cl : List (Str × Addr)} {fp : List Addr} : Good (blkE E scope) G (X.blk s H scope (compEnvC scope cl C X.env) fp) where
  N := g.N
  nd := g.nd
  sc := by show relS scope X.env.scope = relS scope E.sc; rw [g.sc]
  calm := g.calm
  hh := g.hh
  un := g.un
  gd := g.gd
  sys := g.sys
  xe := fun _ _ h => h
  fn := fun x h => h
  blt := g.blt
  fns := g.fns
  con := g.con
/-- a comprehension's tests -/
inductive RTs (E : Ce) : List Expr → List C → Prop
  | nil : RTs E [] []
  | one {e : Expr} {c : C} : RT E e c → RTs E [e] [c]
theorem RTs.pts {G : Glob} {X : Cx} (g : Good E G X) : ∀ {es : List Expr} {cs : List C}, RTs E es cs → PTs X es (tTx G X cs)
  | _, _, .nil => ⟨fun pins s σ H Q I h => by
    obtain ⟨Z, zx, ρ, tv, ts, s', h⟩ := h
    have h : OutR (fun t => ∀ H', Sta Z σ t.2 tv ts H' → Q t.1 H') noEx (Res.ok (true, ρ)) := by simpa [evT] using h
    exact pts_nil.run pins s σ H Q I (h H s')⟩
  | _, _, .one (c := c) r => ⟨fun pins s σ H Q I h => by
    obtain ⟨Z, zx, ρ, tv, ts, s', h⟩ := h
    refine (pts_one (r.pt G Z X g zx)).run pins s σ H Q I ⟨ρ, tv, ts, s', ?_⟩
    have h : OutR (fun t => ∀ H', Sta Z σ t.2 tv ts H' → Q t.1 H') noEx ((evE G c ρ).bind fun r => if truth r.1 then .ok (true, r.2.2) else .ok (false, r.2.2)) := by simpa [evT] using h
    refine h.bind.mono fun r hr H' s2 => ?_
    by_cases ht : truth r.1 = true
    · rw [if_pos ht] at hr; rw [ht]; exact hr H' s2
    · rw [if_neg ht] at hr
      have hf : truth r.1 = false := by simpa using ht
      rw [hf]; exact hr H' s2⟩
theorem zx_blk {Z : Cf} {X : Cx} (zx : ZX Z X) {s : Shared} {H : Hp} {scope : Scope} {ce : Env} {fp : List Addr} : ZX Z (X.blk s H scope ce fp) := ⟨zx.K, zx.w⟩
theorem pts_imp {X : Cx} {ifs : List Expr} {t t' : TT} (h : PTs X ifs t) (k : ∀ σ H Q, t' σ H Q → t σ H Q) : PTs X ifs t' := ⟨fun pins s σ H Q I q => h.run pins s σ H Q I (k σ H Q q)⟩
theorem pe_x {G : Glob} {X : Cx} (g : Good E G X) (r : R E e c) : PE X e (tEx G X c) := ⟨fun pins s σ H Q I ⟨Z, zx, h⟩ => (r.pe G Z X g zx).run pins s σ H Q I h⟩
theorem R.lc {elt iter : Expr} {ifs : List Expr} {scope : Scope} {own : List (Str × Nat)} {cs ct : C} {t : T} {fs : List C} (rs : RS E tg iter cs) (ok : BlkOk E.N E.sc scope own) (rg : RG (blkE E scope) tg t) (rt : RTs (blkE E scope) ifs fs) (re : R (blkE E scope) elt ct)
    (htg : ∀ i ∈ ixT t, i ∈ own.map (·.2)) : R E (.ListComp elt [⟨tg, iter, ifs, 0⟩] scope pos) (.lc cs t (own.map (·.2)) fs ct) where
  pe := fun G Z X g zx => pe_imp (pe_lc g.calm (by rw [g.N]; exact g.nd) (rs.pi G Z X g zx) (by rw [g.N, g.sc]; exact ok) (fun s H C cl fp => pg_imp (rg.pg G _ (good_blk g)) fun v σ H Q ⟨Z, z, h⟩ => ⟨Z, zx_blk z, h⟩) (fun s H C cl fp => pts_imp (rt.pts (good_blk g)) fun σ H Q ⟨Z, z, h⟩ => ⟨Z, zx_blk z, h⟩) (fun s H C cl fp => pe_imp (pe_x (good_blk g) re) fun σ H Q ⟨Z, z, h⟩ => ⟨Z, zx_blk z, h⟩) (fun x => rs.fold _ x)) fun σ H Q h => lc_red zx htg h
  var := fun i h => by cases h
  pk := rfl
  sh := ⟨fun _ _ => rfl, fun _ _ => rfl, fun _ => rfl⟩
end
end TH
end
section
set_option Elab.async false
set_option linter.all false
set_option maxRecDepth 100000
namespace TH
open PySem PySem.Spec PyProof.Rows L2

section
variable {E : Ce} {e a b lo hi : Expr} {c ca cb cl ch : C} {pos p p2 apos : Pos} {Z : Cf} {X : Cx}
theorem PrimT.mono {p : P} {vs : List V} {H : Hp} {Q Q' : VK} (h : PrimT Z p vs H Q) (k : ∀ v H, Q v H → Q' v H) : PrimT Z p vs H Q' := by
  obtain ⟨Y, R, foot, own, dks, d, k', o, ar, g, e, fin⟩ := h
  exact ⟨Y, R, foot, own, dks, d, k', o, ar, g, e, fun v H' ok => k _ _ (fin v H' ok)⟩
theorem slc_b {b : D × Own} {a : D × Own} {l h : Bool} {x : D × Own} (e : prim (.slc l h) [a, b] = some x) : ∃ i, b.1 = .int i := by
  obtain ⟨b, kb⟩ := b
  cases b <;> first | exact ⟨_, rfl⟩ | cases e
theorem slc_bc {b : D × Own} {a c : D × Own} {l h : Bool} {x : D × Own} (e : prim (.slc l h) [a, b, c] = some x) : (∃ i, b.1 = .int i) ∧ ∃ i, c.1 = .int i := by
  obtain ⟨b, kb⟩ := b
  obtain ⟨c, kc⟩ := c
  cases b <;> cases c <;> first | exact ⟨⟨_, rfl⟩, _, rfl⟩ | cases e
theorem slc1 {x y : V} {l h : Bool} {H : Hp} {Q : VK} (q : PrimT Z (.slc l h) [x, y] H Q) : ∃ i, y = .int i := by
  obtain ⟨Y, R, foot, own, a, b, d, k, o, h1, h2, h3, e, fin⟩ := q.two
  obtain ⟨i, hi⟩ := slc_b e
  rw [hi] at h2
  exact ⟨i, h2.int⟩
theorem slc2 {x y z : V} {l h : Bool} {H : Hp} {Q : VK} (q : PrimT Z (.slc l h) [x, y, z] H Q) : (∃ i, y = .int i) ∧ ∃ i, z = .int i := by
  obtain ⟨Y, R, foot, own, dks, d, k, o, ar, g, e, fin⟩ := q
  match dks, ar with
  | [a, b, c], ⟨h1, h2, h3, h4, h5, h6, _⟩ =>
    obtain ⟨⟨i, hi⟩, j, hj⟩ := slc_bc e
    rw [hi] at h3
    rw [hj] at h5
    exact ⟨⟨i, h3.int⟩, j, h5.int⟩
theorem R.slc (ra : R E a ca) : R E (.Subscript a (.Slice none none none p2) pos) (.op (.slc false false) [argOf (.slc false false) ca]) where
  pe := fun G Z X g zx => pe_imp (pe_slice (pr_slc zx) (ra.arg _ g zx) po_none po_none) fun σ H Q h => op1 h
  var := fun i h => by cases h
  pk := rfl
  sh := ⟨fun _ _ => rfl, fun _ _ => rfl, fun _ => rfl⟩
theorem R.slcLo (ra : R E a ca) (rl : R E lo cl) : R E (.Subscript a (.Slice (some lo) none none p2) pos) (.op (.slc true false) [argOf (.slc true false) ca, argOf (.slc true false) cl]) where
  pe := fun G Z X g zx => pe_imp (pe_slice (pr_slc zx) (ra.arg _ g zx) (po_some (rl.arg _ g zx)) po_none) fun σ H Q h => by
    have h := op2 h
    refine argT_mono (fun x H1 h => argT_mono (fun y H2 h => ?_) h) h
    obtain ⟨i, rfl⟩ := slc1 h
    exact ⟨i, rfl, h⟩
  var := fun i h => by cases h
  pk := rfl
  sh := ⟨fun _ _ => rfl, fun _ _ => rfl, fun _ => rfl⟩
theorem R.slcHi (ra : R E a ca) (rh : R E hi ch) : R E (.Subscript a (.Slice none (some hi) none p2) pos) (.op (.slc false true) [argOf (.slc false true) ca, argOf (.slc false true) ch]) where
  pe := fun G Z X g zx => pe_imp (pe_slice (pr_slc zx) (ra.arg _ g zx) po_none (po_some (rh.arg _ g zx))) fun σ H Q h => by
    have h := op2 h
    refine argT_mono (fun x H1 h => argT_mono (fun y H2 h => ?_) h) h
    obtain ⟨i, rfl⟩ := slc1 h
    exact ⟨i, rfl, h⟩
  var := fun i h => by cases h
  pk := rfl
  sh := ⟨fun _ _ => rfl, fun _ _ => rfl, fun _ => rfl⟩
/-- arguments whose trees are known -/
def argsD (G : Glob) (Z : Cf) : List C → List D → TA
  | c :: cs, d :: ds => fun σ H Q => argT G Z noEx c σ H fun x H1 => (peekOf c = none → Arg0 Z H1 x d) ∧ argsD G Z cs ds σ H1 fun xs H2 => Q (x :: xs) H2
  | _, _ => tNil
theorem args_runD {G : Glob} : ∀ (cs : List C) {r : List (D × Own) × Ev} {σ : L2.St} {ρ : Ev} {tv : L2.St} {ts : Ev} {H : Hp} {Q : List V → Hp → Prop}, Sta Z σ ρ tv ts H → evL G cs ρ = .ok r →
    (∀ vs H' tvs tss, AS σ r.2 cs vs r.1 tvs tss → Sta Z σ r.2 (tv ++ tvs) (ts ++ tss) H' → Q vs H') → argsD G Z cs (r.1.map (·.1)) σ H Q
  | [], r, σ, ρ, tv, ts, H, Q, s, e, h => by
    simp only [evL] at e
    cases e
    exact h [] H [] [] .nil (by simpa using s)
  | c :: cs, r, σ, ρ, tv, ts, H, Q, s, e, h => by
    cases hp : peekOf c with
    | none =>
      rw [evL_cons hp] at e
      cases e1 : evE G c ρ with
      | exc => rw [e1] at e; cases e
      | stk => rw [e1] at e; cases e
      | ok r1 =>
        rw [e1] at e
        simp only [Res.bind] at e
        cases e2 : evL G cs r1.2.2 with
        | exc => rw [e2] at e; cases e
        | stk => rw [e2] at e; cases e
        | ok q =>
          rw [e2] at e
          simp only [] at e
          cases e
          have ea : argT G Z noEx c = tE G Z noEx c := by unfold argT; rw [hp]
          show argT G Z noEx c σ H _
          rw [ea]
          refine ⟨ρ, tv, ts, s, ?_⟩
          rw [e1]
          intro v H' s1
          refine ⟨fun _ => s1.drop.2, args_runD cs s1 e2 fun vs H2 tvs tss as s2 => ?_⟩
          refine h (v :: vs) H2 (some v :: tvs) (.vl r1.2.1 r1.1 :: tss) (.val hp as) ?_
          simpa using s2
    | some i =>
      have ea : argT G Z noEx c = tVar i := by unfold argT; rw [hp]
      cases c with
      | pk j =>
        cases hp
        simp only [evL] at e
        cases hb : getS ρ i with
        | un => simp [bound, hb] at e
        | lk => simp [bound, hb] at e
        | vl k d =>
          simp only [bound, hb, if_true] at e
          obtain ⟨v, hv⟩ := s.val hb
          cases e2 : evL G cs ρ with
          | exc => rw [e2] at e; cases e
          | stk => rw [e2] at e; cases e
          | ok q =>
            rw [e2] at e
            simp only [Res.bind] at e
            unfold peek at e
            cases hg : getS q.2 i with
            | un => simp [hg] at e
            | lk => simp [hg] at e
            | vl k' d' =>
              have er : r = ((d', .io) :: q.1, q.2) := by
                cases k' <;> simp [hg] at e <;> exact e.symm
              subst er
              simp only [List.map_cons, argsD]
              rw [ea]
              refine ⟨v, hv, fun z => (by cases z), args_runD cs s e2 fun vs H2 tvs tss as s2 => ?_⟩
              exact h (v :: vs) H2 tvs tss (.pk hv (getS_at hg) as) s2
      | pt j =>
        cases hp
        simp only [evL] at e
        cases hb : getS ρ i with
        | un => simp [bound, hb] at e
        | lk => simp [bound, hb] at e
        | vl k d =>
          simp only [bound, hb, if_true] at e
          obtain ⟨v, hv⟩ := s.val hb
          cases e2 : evL G cs ρ with
          | exc => rw [e2] at e; cases e
          | stk => rw [e2] at e; cases e
          | ok q =>
            rw [e2] at e
            simp only [Res.bind] at e
            unfold peek at e
            cases hg : getS q.2 i with
            | un => simp [hg] at e
            | lk => simp [hg] at e
            | vl k' d' =>
              by_cases hf : k' = .fr ∧ immKids d' = false
              · obtain ⟨rfl, hi⟩ := hf
                have er : r = ((d', .sh) :: q.1, setS q.2 i (.vl (topK d') d')) := by
                  simp [hg, hi] at e; exact e.symm
                subst er
                simp only [List.map_cons, argsD]
                rw [ea]
                refine ⟨v, hv, fun z => (by cases z), args_runD cs s e2 fun vs H2 tvs tss as s2 => ?_⟩
                refine h (v :: vs) H2 tvs tss (.pt (k := topK d') hv ?_ (fun z => absurd z topK_ne) (as.reslot (getS_at hg) topK_ne)) (s2.set (getS_lt hg) (s2.ok.topK (s2.get hg)))
                unfold setS
                rw [List.getElem?_set_self (getS_lt hg)]
              · have hk : k' = .fr → immKids d' = true := fun z => by
                  subst z
                  cases hi : immKids d' with
                  | true => rfl
                  | false => exact absurd ⟨rfl, hi⟩ hf
                have er : r = ((d', .sh) :: q.1, q.2) := by
                  cases k' with
                  | fr => simp [hg, hk rfl] at e; exact e.symm
                  | _ => simp [hg] at e; exact e.symm
                subst er
                simp only [List.map_cons, argsD]
                rw [ea]
                refine ⟨v, hv, fun z => (by cases z), args_runD cs s e2 fun vs H2 tvs tss as s2 => ?_⟩
                exact h (v :: vs) H2 tvs tss (.pt hv (getS_at hg) hk as) s2
      | _ => cases hp
/-- a primitive's arguments and their trees -/
theorem op_redD {G : Glob} {p : P} {cs : List C} {σ : L2.St} {H : Hp} {Q : VK} (h : tE G Z noEx (.op p cs) σ H Q) : ∃ dks q, prim p dks = some q ∧ argsD G Z cs (dks.map (·.1)) σ H fun vs H1 => PrimT Z p vs H1 Q := by
  obtain ⟨ρ, tv, ts, s, h⟩ := h
  simp only [evE] at h
  cases e1 : evL G cs ρ with
  | exc => rw [e1] at h; exact h.elim
  | stk => rw [e1] at h; exact h.elim
  | ok r =>
    rw [e1] at h
    have hr : OutR (fun r => ∀ v H', Sta Z σ r.2.2 (tv ++ [some v]) (ts ++ [.vl r.2.1 r.1]) H' → Q v H') noEx (if scalarP p || r.1.all (fun x => x.2 != .io) then (optR (prim p r.1)).bind fun q => .ok (q.1, q.2, r.2) else .stk "a peek is handed on") := h
    by_cases hg : (scalarP p || r.1.all fun x => x.2 != .io) = true
    · rw [if_pos hg] at hr
      cases e : prim p r.1 with
      | none => rw [e] at hr; exact hr.elim
      | some q =>
        rw [e] at hr
        refine ⟨r.1, q, e, args_runD cs s e1 fun vs H' tvs tss as s2 => ?_⟩
        obtain ⟨foot, own, o⟩ := s2.ok
        obtain ⟨f, w, o', a'⟩ := as.consume (Y := σ ++ tv) (R := r.2 ++ ts) (fun i x e => by rw [List.getElem?_append_left (lt_of_get e)]; exact e) (fun i x e => by rw [List.getElem?_append_left (lt_of_get e)]; exact e) (by simpa using o)
        refine ⟨_, _, f, w, r.1, q.1, q.2, o', a', ?_, e, fun v H2 ok2 => hr v H2 ⟨s2.len, by simpa using ok2⟩⟩
        rcases Bool.or_eq_true_iff.mp hg with g | g
        · exact .inl g
        · exact .inr fun x hx => by
            have := List.all_eq_true.mp g x hx
            simpa using this
    · rw [if_neg hg] at hr
      exact hr.elim
theorem prim_len0 {l h : Bool} {x : D × Own} : prim (.slc l h) [] ≠ some x := by intro e; cases e
theorem R.slcB (ra : R E a ca) (rl : R E lo cl) (rh : R E hi ch) : R E (.Subscript a (.Slice (some lo) (some hi) none p2) pos) (.op (.slc true true) [argOf (.slc true true) ca, cl, argOf (.slc true true) ch]) where
  pe := fun G Z X g zx => pe_imp (pe_slice (pr_slc zx) (ra.arg (.slc true true) g zx) (po_some (rl.argV g zx)) (po_some (rh.arg (.slc true true) g zx))) fun σ H Q h => by
    obtain ⟨dks, q, e, h⟩ := op_redD h
    have hl : dks.length = 3 := by
      rcases dks with _ | ⟨x, _ | ⟨y, _ | ⟨z, _ | _⟩⟩⟩
      · cases e
      · cases e
      · obtain ⟨i, hi⟩ := slc_b e
        obtain ⟨y, ky⟩ := y
        have hi : y = .int i := hi
        subst hi
        cases e
      · rfl
      · cases e
    obtain ⟨x, y, z, rfl⟩ : ∃ x y z, dks = [x, y, z] := by
      rcases dks with _ | ⟨x, _ | ⟨y, _ | ⟨z, _ | _⟩⟩⟩ <;> first | exact ⟨_, _, _, rfl⟩ | cases hl
    obtain ⟨⟨i, hi⟩, _⟩ := slc_bc e
    have h : argT G Z noEx (argOf (.slc true true) ca) σ H fun x' H1 => (peekOf (argOf (.slc true true) ca) = none → Arg0 Z H1 x' x.1) ∧ argT G Z noEx cl σ H1 fun y' H2 => (peekOf cl = none → Arg0 Z H2 y' y.1) ∧ argT G Z noEx (argOf (.slc true true) ch) σ H2 fun z' H3 => (peekOf (argOf (.slc true true) ch) = none → Arg0 Z H3 z' z.1) ∧ PrimT Z (.slc true true) [x', y', z'] H3 Q := h
    show argT G Z noEx (argOf (.slc true true) ca) σ H fun x H1 => argT G Z noEx cl σ H1 fun y H2 => ∃ i, y = .int i ∧ argT G Z noEx (argOf (.slc true true) ch) σ H2 fun z H3 => ∃ j, z = .int j ∧ slcT Z x (some i) (some j) H3 Q
    refine argT_mono (fun x' H1 ⟨_, h⟩ => argT_mono (fun y' H2 ⟨g2, h⟩ => ?_) h) h
    have a2 := g2 rl.pk
    rw [hi] at a2
    refine ⟨i, a2.int, argT_mono (fun z' H3 ⟨_, h⟩ => ?_) h⟩
    obtain ⟨_, j, rfl⟩ := slc2 h
    have e2 := a2.int
    subst e2
    exact ⟨j, rfl, h⟩
  var := fun i h => by cases h
  pk := rfl
  sh := ⟨fun _ _ => rfl, fun _ _ => rfl, fun _ => rfl⟩
end
end TH
end
section
set_option Elab.async false
set_option linter.all false
set_option maxRecDepth 100000
namespace TH
open PySem PySem.Spec PyProof.Rows L2

section
variable {E : Ce} {e a b lo hi : Expr} {c ca cb cl ch : C} {pos p p2 apos : Pos} {Z : Cf} {X : Cx}
theorem DAll.rev {w : World} {K : PySem.W.Frag} {H : Hp} {c : Bool} : ∀ {vs : List V} {ds : List D} {as : List Addr}, DAll w K H c vs ds as → ∃ bs, DAll w K H c vs.reverse ds.reverse bs ∧ ∀ a ∈ bs, a ∈ as
  | _, _, _, .nil => ⟨[], .nil, by simp⟩
  | _, _, _, .cons (as := as) (bs := bs) r rs => by
    obtain ⟨cs, h1, h2⟩ := DAll.rev rs
    refine ⟨cs ++ as, by simpa using h1.append (.one r), fun x hx => ?_⟩
    rcases List.mem_append.mp hx with h | h
    · exact List.mem_append_right _ (h2 x h)
    · exact List.mem_append_left _ h
theorem R.rev {k : Nat} {p1 p2 p3 : Pos} (ra : R E a ca) : R E (.Subscript a (.Slice none none (some (.UnaryOp .USub (.Constant (.int 1) k p1) p2)) p3) pos) (.op .rev [argOf .rev ca]) where
  pe := fun G Z X g zx => pe_imp (pe_revL (ra.arg .rev g zx)) fun σ H Q h => by
    have h := op1 h
    refine argT_mono (fun x H1 h => ?_) h
    obtain ⟨Y, R, foot, own, ⟨d, kd⟩, d', k', o, h1, h3, e, fin⟩ := h.one
    have g1 := h3 rfl
    have e : revD d = some (d', k') := e
    cases d <;> try (cases e; done)
    rename_i ds
    obtain ⟨p, vs, as, rfl, q, r, sh⟩ := g1.list trivial
    obtain ⟨bs, r2, hs⟩ := r.rev
    refine ⟨p, vs, rfl, by rw [← zx.K]; exact q, fun p' hp => ?_⟩
    exact give_list o e r2 (sh.sub hs) fin hp
  var := fun i h => by cases h
  pk := rfl
  sh := ⟨fun _ _ => rfl, fun _ _ => rfl, fun _ => rfl⟩
theorem R.bits (ra : R E a ca) (hb : ∀ env w, attributeBase a "bit_length" env w = w) (hl : (apos.endLine == pos.line) = true) : R E (.Call (.Attribute a "bit_length" apos) [] [] pos) (.op .bits [argOf .bits ca]) where
  pe := fun G Z X g zx => pe_imp (pe_bits (ra.arg .bits g zx) (hb _ _) hl) fun σ H Q h => by
    have h := op1 h
    refine argT_mono (fun x H1 h => ?_) h
    obtain ⟨Y, R, foot, own, ⟨d, kd⟩, d', k', o, h1, h3, e, fin⟩ := h.one
    have e : bitsD d = some (d', k') := e
    cases d <;> try (cases e; done)
    rename_i i _
    have ex := h1.int
    subst ex
    simp only [bitsD] at e
    obtain ⟨hc, e⟩ := some_if e
    have eb : Builtin.Int.intBits i = i.natAbs.log2 + 1 := by
      unfold Builtin.Int.intBits
      rw [if_neg (by simp; omega)]
    refine ⟨i, rfl, ?_⟩
    rw [eb]
    exact give_atom o e (.int _) fin
  var := fun i h => by cases h
  pk := rfl
  sh := ⟨fun _ _ => rfl, fun _ _ => rfl, fun _ => rfl⟩
/-- 'x'.join(..) -/
theorem R.join {z : Str} {j : Nat} {cpos : Pos} (hz : line z.length = true) (ra : R E a ca) (hl : (apos.endLine == pos.line) = true) : R E (.Call (.Attribute (.Constant (.str z) j cpos) "join" apos) [a] [] pos) (.op .join [.lit (.str z), argOf .join ca]) where
  pe := fun G Z X g zx => pe_imp (pe_m1 F.slot_str_join F.type_str_join (pr_join (Z := Z)) pe_str (ra.arg .join g zx) (ra.sh.star _ _) rfl hl) fun σ H Q h => by
    have h : tE G Z noEx (.lit (.str z)) σ H fun x H1 => argT G Z noEx (argOf .join ca) σ H1 fun y H2 => PrimT Z .join [x, y] H2 Q := op2 h
    have h := lit_red (v := .str z) (fun _ => .str z (line_le hz)) h
    exact ⟨⟨z, rfl⟩, argT_mono (fun y H2 h => ⟨zx, h⟩) h⟩
  var := fun i h => by cases h
  pk := rfl
  sh := ⟨fun _ _ => rfl, fun _ _ => rfl, fun _ => rfl⟩
end
end TH
end
section
set_option Elab.async false
set_option linter.all false
set_option maxRecDepth 100000
namespace TH
open PySem PySem.Spec PyProof.Rows L2

/-- a compiled statement -/
structure RSt (E : Ce) (st : Stmt) (s : S) : Prop where
  ps : ∀ G Z X fuel, Good E G X → ZX Z X → PS X st (tS G Z fuel s)
inductive RSts (E : Ce) : List Stmt → List S → Prop
  | nil : RSts E [] []
  | cons {st : Stmt} {s : S} {sts : List Stmt} {ss : List S} : RSt E st s → RSts E sts ss → RSts E (st :: sts) (s :: ss)
theorem ps_imp {X : Cx} {st : Stmt} {t t' : TS} (h : PS X st t) (k : ∀ D σ H, t' D σ H → t D σ H) : PS X st t' := ⟨fun pins s σ H D I q => h.run pins s σ H D I (k D σ H q)⟩
theorem pss_imp {X : Cx} {st : List Stmt} {t t' : TS} (h : PSs X st t) (k : ∀ D σ H, t' D σ H → t D σ H) : PSs X st t' := ⟨fun pins s σ H D I q => h.run pins s σ H D I (k D σ H q)⟩
section
variable {E : Ce} {e a b tg : Expr} {c ca cb : C} {pos p : Pos} {G : Glob} {Z : Cf} {X : Cx} {fuel : Nat} {D : Ends} {σ : L2.St} {H : Hp}
theorem tSs_nil (h : tSs G Z fuel [] D σ H) : tNext D σ H := by
  obtain ⟨ρ, s, h⟩ := h
  have h : OutR (flP Z D) noEx (Res.ok (Fl.next ρ)) := by simpa [evSs] using h
  exact h σ H s
theorem tSs_cons {s : S} {ss : List S} (h : tSs G Z fuel (s :: ss) D σ H) : tSeq (tS G Z fuel s) (tSs G Z fuel ss) D σ H := by
  obtain ⟨ρ, st, h⟩ := h
  simp only [evSs] at h
  refine ⟨ρ, st, h.bind.mono fun q hq => ?_⟩
  cases q with
  | next ρ' => exact fun σ' H' s' => ⟨ρ', s', hq⟩
  | ret d k ρ' => exact hq
  | brk ρ' => exact hq
  | cont ρ' => exact hq
theorem RSts.pss (g : Good E G X) (zx : ZX Z X) (fuel : Nat) : ∀ {sts : List Stmt} {ss : List S}, RSts E sts ss → PSs X sts (tSs G Z fuel ss)
  | _, _, .nil => pss_imp pss_nil fun D σ H h => tSs_nil h
  | _, _, .cons r rs => pss_imp (pss_cons (r.ps G Z X fuel g zx) (RSts.pss g zx fuel rs)) fun D σ H h => tSs_cons h
theorem RSt.iff {sa sb : List Stmt} {ta tb : List S} (rc : RT E e c) (ra : RSts E sa ta) (rb : RSts E sb tb) : RSt E (.If e sa sb pos) (.iff c ta tb) where
  ps := fun G Z X fuel g zx => ps_imp (ps_if (rc.pt G Z X g zx) (ra.pss g zx fuel) (rb.pss g zx fuel)) fun D σ H h => by
    obtain ⟨ρ, s, h⟩ := h
    simp only [evS] at h
    refine ⟨ρ, [], [], s, h.bind.mono fun q hq H' s' => ?_⟩
    by_cases ht : truth q.1 = true
    · rw [if_pos ht] at hq ⊢
      exact ⟨_, s', hq⟩
    · rw [if_neg ht] at hq ⊢
      exact ⟨_, s', hq⟩
theorem RSt.while_ {body : List Stmt} {tb : List S} (rc : RT E e c) (rb : RSts E body tb) : RSt E (.While e body [] pos) (.while_ c tb) where
  ps := fun G Z X fuel g zx => ps_imp (ps_while (fun e s h => (g.xe e s h).elim) (rc.pt G Z X g zx) (rb.pss g zx fuel)) fun D σ H h => by
    obtain ⟨ρ, s, h⟩ := h
    simp only [evS] at h
    let Fc := fun ρ => (evE G c ρ).bind fun r => Res.ok (truth r.1, r.2.2)
    let Fb := fun ρ => evSs G fuel tb ρ
    refine ⟨fun m σ H => ∃ ρ, Sta Z σ ρ [] [] H ∧ OutR (flP Z D) noEx (whileLoop Fc Fb m ρ), ⟨fuel, ρ, s, h⟩, ?_⟩
    rintro m σ H ⟨ρ, s, h⟩
    cases m with
    | zero => exact h.elim
    | succ m =>
      have h : OutR (flP Z D) noEx ((Fc ρ).bind fun t => if t.1 then (Fb t.2).bind fun r => match r with | .next ρ => whileLoop Fc Fb m ρ | .cont ρ => whileLoop Fc Fb m ρ | .brk ρ => .ok (.next ρ) | .ret d k ρ => .ok (.ret d k ρ) else .ok (.next t.2)) := h
      have h := h.bind.bind
      refine ⟨ρ, [], [], s, h.mono fun q hq H' s' => ?_⟩
      have hq : OutR (flP Z D) noEx (if truth q.1 = true then (Fb q.2.2).bind fun r => match r with | .next ρ => whileLoop Fc Fb m ρ | .cont ρ => whileLoop Fc Fb m ρ | .brk ρ => .ok (.next ρ) | .ret d k ρ => .ok (.ret d k ρ) else .ok (.next q.2.2)) := hq
      by_cases ht : truth q.1 = true
      · rw [if_pos ht] at hq
        simp only [ht, if_true]
        refine ⟨fun σ' H' => ∃ ρ, Sta Z σ' ρ [] [] H' ∧ OutR (flP Z D) noEx (whileLoop Fc Fb m ρ), fun σ' H' w => ⟨m, Nat.lt_succ_self m, w⟩, q.2.2, s', hq.bind.mono fun r hr => ?_⟩
        cases r with
        | next ρ2 => exact fun σ2 H2 s2 => ⟨ρ2, s2, hr⟩
        | cont ρ2 => exact fun σ2 H2 s2 => ⟨ρ2, s2, hr⟩
        | brk ρ2 => exact fun σ2 H2 s2 => hr σ2 H2 s2
        | ret d k ρ2 => exact hr
      · rw [if_neg ht] at hq
        simp only [ht, if_false]
        exact hq σ H' s'
theorem RSt.for_ {body : List Stmt} {tb : List S} {t : T} {cs : C} (rs : RS E tg e cs) (rg : RG E tg t) (rb : RSts E body tb) : RSt E (.For tg e body [] pos) (.for_ t cs tb) where
  ps := fun G Z X fuel g zx => ps_imp (ps_for (fun e s h => (g.xe e s h).elim) g.calm (rs.pi G Z X g zx) (rg.pg G X g) (tb := tSsx G X fuel tb) ⟨fun pins s σ H D I ⟨Z', zx', h⟩ => (rb.pss g zx' fuel).run pins s σ H D I h⟩ (fun x => rs.fold _ x)) fun D σ H h => for_red zx h
theorem RSt.ret (r : R E e c) : RSt E (.Return (some e) pos) (.ret c) where
  ps := fun G Z X fuel g zx => ps_imp (ps_ret (r.pe G Z X g zx)) fun D σ H h => by
    obtain ⟨ρ, s, h⟩ := h
    simp only [evS] at h
    exact ⟨ρ, [], [], s, h.bind.mono fun q hq v H' s' => hq v σ H' s'⟩
/-- a slot's thing goes out -/
theorem mv_red {i : Nat} {Q : VK} (h : tE G Z noEx (.mv i) σ H Q) : tVar i σ H Q := by
  obtain ⟨ρ, tv, ts, s, h⟩ := h
  simp only [evE] at h
  cases hg : getS ρ i with
  | un => rw [hg] at h; exact h.elim
  | lk => rw [hg] at h; exact h.elim
  | vl k d =>
    rw [hg] at h
    obtain ⟨v, hv⟩ := s.val hg
    obtain ⟨v', hv', o⟩ := s.ok.hide (s.get hg)
    have hv2 : (σ ++ tv)[i]? = some (some v) := by rw [List.getElem?_append_left (lt_of_get hv)]; exact hv
    rw [hv2] at hv'; cases hv'
    refine ⟨v, hv, ?_⟩
    have h' : OutR (fun r => ∀ v H', Sta Z σ r.2.2 (tv ++ [some v]) (ts ++ [.vl r.2.1 r.1]) H' → Q v H') noEx (Res.ok (d, k, setS ρ i .un)) := by cases k <;> first | exact h | exact h.elim
    refine h' v H ⟨by unfold setS; simpa using s.len, ?_⟩
    rw [List.set_append_left _ _ (getS_lt hg)] at o
    simpa [setS] using o
theorem RSt.retV {i : Nat} (r : R E e (.var i)) : RSt E (.Return (some e) pos) (.ret (.mv i)) where
  ps := fun G Z X fuel g zx => ps_imp (ps_ret (r.var i rfl G X g)) fun D σ H h => by
    obtain ⟨ρ, s, h⟩ := h
    simp only [evS] at h
    exact mv_red ⟨ρ, [], [], s, h.bind.mono fun q hq v H' s' => hq v σ H' s'⟩
theorem RSt.retN : RSt E (.Return none pos) .retN where
  ps := fun G Z X fuel g zx => ps_imp ps_retN fun D σ H h => by
    obtain ⟨ρ, s, h⟩ := h
    have h : OutR (flP Z D) noEx (Res.ok (Fl.ret .none .fr ρ)) := by simpa [evS] using h
    obtain ⟨f, w, o⟩ := s.ok
    exact h .non σ H ⟨s.len, by simpa using o.pushAtom .none⟩
theorem RSt.ex (r : R E e c) (hs : ∀ l env, swapsWith e none l env = pure false) : RSt E (.Expr e pos) (.ex c) where
  ps := fun G Z X fuel g zx => ps_imp (ps_expr (r.pe G Z X g zx) (hs _ _)) fun D σ H h => by
    obtain ⟨ρ, s, h⟩ := h
    simp only [evS] at h
    exact ⟨ρ, [], [], s, h.bind.mono fun q hq v H' s' => hq σ H' (by have := s'.drop (tv := []) (ts := []); exact this.1)⟩
theorem RSt.pass : RSt E (.Pass pos) .pass where
  ps := fun G Z X fuel g zx => ps_imp ps_pass fun D σ H ⟨ρ, s, h⟩ => (by have h : OutR (flP Z D) noEx (Res.ok (Fl.next ρ)) := by simpa [evS] using h
                                                                         exact h σ H s)
theorem RSt.doc {x : Str} {j : Nat} {p' : Pos} : RSt E (.Expr (.Constant (.str x) j p) p') .pass where
  ps := fun G Z X fuel g zx => ps_imp ps_doc fun D σ H ⟨ρ, s, h⟩ => (by have h : OutR (flP Z D) noEx (Res.ok (Fl.next ρ)) := by simpa [evS] using h
                                                                        exact h σ H s)
theorem RSt.brk : RSt E (.Break pos) .brk where
  ps := fun G Z X fuel g zx => ps_imp ps_break fun D σ H ⟨ρ, s, h⟩ => (by have h : OutR (flP Z D) noEx (Res.ok (Fl.brk ρ)) := by simpa [evS] using h
                                                                          exact h σ H s)
theorem RSt.cont : RSt E (.Continue pos) .cont where
  ps := fun G Z X fuel g zx => ps_imp ps_continue fun D σ H ⟨ρ, s, h⟩ => (by have h : OutR (flP Z D) noEx (Res.ok (Fl.cont ρ)) := by simpa [evS] using h
                                                                             exact h σ H s)
end
end TH
end
section
set_option Elab.async false
set_option linter.all false
set_option maxRecDepth 100000
namespace TH
open PySem PySem.Spec PyProof.Rows L2

section
variable {E : Ce} {e a b tg : Expr} {c ca cb : C} {pos p : Pos} {G : Glob} {Z : Cf} {X : Cx} {fuel : Nat} {DE : Ends} {σ : L2.St} {H : Hp}
/-- the thing at hand goes to a name -/
theorem store_nm {i : Nat} {d : D} {k : Own} {ρ : Ev} {v : V} {σ : L2.St} {H : Hp} (s : Sta Z σ ρ [some v] [.vl k d] H) (hi : i < ρ.length) : Sta Z (σ.set i (some v)) (setS ρ i (.vl k d)) [] [] H := by
  have := s.ok.store hi
  exact ⟨by unfold setS; simpa using s.len, by simpa [setS] using this⟩
/-- .. or beyond the names: nothing -/
theorem store_no {i : Nat} {d : D} {k : Own} {ρ : Ev} {v : V} {σ : L2.St} {H : Hp} (s : Sta Z σ ρ [some v] [.vl k d] H) (hi : ¬ i < ρ.length) : Sta Z (σ.set i (some v)) (setS ρ i (.vl k d)) [] [] H := by
  have e1 : setS ρ i (.vl k d) = ρ := by unfold setS; exact List.set_eq_of_length_le (by omega)
  have e2 : σ.set i (some v) = σ := List.set_eq_of_length_le (by have := s.len; omega)
  rw [e1, e2]
  exact (Sta.drop (tv := []) (ts := []) s).1
theorem store_any {i : Nat} {d : D} {k : Own} {ρ : Ev} {v : V} {σ : L2.St} {H : Hp} (s : Sta Z σ ρ [some v] [.vl k d] H) : Sta Z (σ.set i (some v)) (setS ρ i (.vl k d)) [] [] H := by
  by_cases hi : i < ρ.length
  · exact store_nm s hi
  · exact store_no s hi
theorem bind_nm {i : Nat} {d : D} {k : Own} {ρ ρ' : Ev} (h : bindT (.nm i) d k ρ = .ok ρ') : ρ' = setS ρ i (.vl k d) := by
  simp only [bindT] at h
  revert h
  split
  · exact fun h => by cases h
  · exact fun h => by cases h
  · exact fun h => by cases h; rfl
theorem asg_red {i : Nat} (h : tS G Z fuel (.asg (.nm i) c) DE σ H) : tE G Z noEx c σ H fun x H1 => DE.nx (σ.set i (some x)) H1 := by
  obtain ⟨ρ, s, h⟩ := h
  simp only [evS] at h
  refine ⟨ρ, [], [], s, h.bind.mono fun q hq v H' s' => ?_⟩
  obtain ⟨ρ', e, hq⟩ := outR_ok hq.bind
  rw [bind_nm e] at hq
  exact hq _ _ (store_any s')
/-- name = e -/
theorem RSt.asg {x : Str} {i : Nat} (r : R E e c) (hx : locB E.sc x = true) (hi : E.N[i]? = some x) (hf : (E.fn x || kindIs .local (E.sc.names.lookup x)) = true) (hs : ∀ l env, env.scope = E.sc → swapsWith e (some (.Name x p)) l env = pure false) :
    RSt E (.Assign [.Name x p] e pos) (.asg (.nm i) c) where
  ps := fun G Z X fuel g zx => ps_imp (ps_set (by rw [g.N]; exact g.nd) (by rw [g.N]; exact hi) (loc_ok g hx) (r.pe G Z X g zx) (hs _ _ g.sc) (by
    rcases Bool.or_eq_true_iff.mp hf with h | h
    · exact .inl (g.fn x h)
    · exact .inr (by rw [g.sc]; exact kindIs_eq h))) fun D σ H h => asg_red h
/-- name = [..] on one line -/
theorem RSt.asgLc {x : Str} {i : Nat} {tgt elt iter : Expr} {ifs : List Expr} {scope : Scope} {own : List (Str × Nat)} {cs ct : C} {t : T} {fs : List C} {spos : Pos} (rs : RS E tgt iter cs) (ok : BlkOk E.N E.sc scope own) (rg : RG (blkE E scope) tgt t) (rt : RTs (blkE E scope) ifs fs) (re : R (blkE E scope) elt ct)
    (htg : ∀ i ∈ ixT t, i ∈ own.map (·.2)) (hx : E.sc.names.lookup x = some .local) (hi : E.N[i]? = some x) (hs : ∀ l env, env.scope = E.sc → l = spos.line → swapsWith (.ListComp elt [⟨tgt, iter, ifs, 0⟩] scope pos) (some (.Name x p)) l env = pure true) :
    RSt E (.Assign [.Name x p] (.ListComp elt [⟨tgt, iter, ifs, 0⟩] scope pos) spos) (.asg (.nm i) (.lc cs t (own.map (·.2)) fs ct)) where
  ps := fun G Z X fuel g zx => ps_imp (ps_setLc (wi := tSrc G Z cs) (g := gShx X t) (tt := tTx G X fs) (te := tEx G X ct) g.calm (by rw [g.N]; exact g.nd) (by rw [g.N]; exact hi) (by rw [g.sc]; exact hx) (hs _ _ g.sc rfl) (rs.pi G Z X g zx) (by rw [g.N, g.sc]; exact ok) (fun s H C cl fp => pg_imp (rg.pg G _ (good_blk g)) fun v σ H Q ⟨Z, z, h⟩ => ⟨Z, zx_blk z, h⟩)
    (fun s H C cl fp => pts_imp (rt.pts (good_blk g)) fun σ H Q ⟨Z, z, h⟩ => ⟨Z, zx_blk z, h⟩) (fun s H C cl fp => pe_imp (pe_x (good_blk g) re) fun σ H Q ⟨Z, z, h⟩ => ⟨Z, zx_blk z, h⟩) (fun x => rs.fold _ x)) fun D σ H h => by
      have h := asg_red h
      exact lc_red zx htg h
/-- a, b = e -/
theorem last_sh {ρ : Ev} {v : V} {k : Own} {d : D} {σ : L2.St} {H : Hp} (s : Sta Z σ ρ [some v] [.vl k d] H) : ∃ foot own as, OkW Z (σ ++ []) (ρ ++ []) H foot own ∧ DRep Z.w Z.K H true v d as ∧ Shr Z own as := by
  obtain ⟨foot, own, o⟩ := s.ok
  obtain ⟨f, w, as, q1, q2, q3⟩ := OkW.useSh [v] [(d, k)] (Y := σ) (R := ρ) rfl (by simpa using o)
  cases q2 with
  | cons r rs =>
    cases rs
    exact ⟨f, w, _, by simpa using q1, r, q3.sub (by simp)⟩
theorem asgT_red {t : List T} (h : tS G Z fuel (.asg (.tp t) c) DE σ H) : tE G Z noEx c σ H fun x H1 => gSh Z (.tp t) x σ H1 DE.nx := by
  obtain ⟨ρ, s, h⟩ := h
  simp only [evS] at h
  refine ⟨ρ, [], [], s, h.bind.mono fun q hq v H' s' => ?_⟩
  obtain ⟨f, w, as, q1, q2, q3⟩ := last_sh s'
  have eb : bindT (.tp t) q.1 q.2.1 q.2.2 = bindT (.tp t) q.1 .sh q.2.2 := by
    cases q.1 <;> simp only [bindT]
  have hq := hq.bind
  rw [eb] at hq
  exact ⟨q.2.2, [], [], f, w, as, q.1, s'.len, q1, q2, q3, hq.mono fun ρ' hr σ' sm f' w' o' hl' hw => hr σ' H' ⟨hl', f', w', by simpa using o'⟩⟩
theorem RSt.asgT {es : List Expr} {ts : List T} {kk : Nat} (r : R E e c) (rg : RGs E es ts) (hs : ∀ l env, swapsWith e (some (.Tuple es kk p)) l env = pure false) (hw : ∀ env, swappedStores [.Tuple es kk p] e env = pure none) :
    RSt E (.Assign [.Tuple es kk p] e pos) (.asg (.tp ts) c) where
  ps := fun G Z X fuel g zx => ps_imp (ps_asg (r.pe G Z X g zx) ((RG.tup rg).pg G X g) (hs pos.line X.env) (hw X.env)) fun D σ H h => by
    have h := asgT_red h
    obtain ⟨ρ, tv, ts', s, h⟩ := h
    exact ⟨ρ, tv, ts', s, h.mono fun q hq v H' s' => ⟨Z, zx, hq v H' s'⟩⟩
end
end TH
end
section
set_option Elab.async false
set_option linter.all false
set_option maxRecDepth 100000
namespace TH
open PySem PySem.Spec PyProof.Rows L2

/-! calls of the module's defs -/
def valC : C → Bool
  | .pk _ | .pt _ | .io _ | .iot _ => false
  | _ => true
theorem valC_pk {c : C} (h : valC c = true) : peekOf c = none := by cases c <;> first | rfl | cases h
def slotsOf (dks : List (D × Own)) : Ev := dks.map fun x => .vl x.2 x.1
section
variable {G : Glob} {Z : Cf} {σ : L2.St} {ρ : Ev} {tv : L2.St} {ts : Ev} {H : Hp}
theorem vals_run : ∀ {cs : List C} {Q : List V → Hp → Prop}, (∀ c ∈ cs, valC c = true) → Sta Z σ ρ tv ts H →
    OutR (fun r => ∀ vs H', vs.length = r.1.length → Sta Z σ r.2 (tv ++ vs.map some) (ts ++ slotsOf r.1) H' → Q vs H') noEx (evL G cs ρ) → argsT G Z noEx cs σ H Q := fun {cs Q} hc s h =>
  args_run cs s (h.mono fun r hr vs H' tvs tss as s' => by
    obtain ⟨e1, e2, e3⟩ := as.vals fun c h => valC_pk (hc c h)
    subst e1 e2
    exact hr vs H' e3 s')
theorem vals_run2 {cs : List C} {Q : List V → Hp → Prop} {r : List (D × Own) × Ev} (hc : ∀ c ∈ cs, valC c = true) (s : Sta Z σ ρ tv ts H) (e : evL G cs ρ = .ok r) (k : ∀ vs H', vs.length = r.1.length → Sta Z σ r.2 (tv ++ vs.map some) (ts ++ slotsOf r.1) H' → Q vs H') : argsT G Z noEx cs σ H Q :=
  vals_run hc s (by rw [e]; exact k)
theorem evA_val : ∀ {cs : List C} {ρ : Ev}, (∀ c ∈ cs, valC c = true) → evA G cs ρ = (evL G cs ρ).bind fun r => .ok (r.1.map (·.1), r.2)
  | [], ρ, _ => by simp [evA, evL, Res.bind]
  | c :: cs, ρ, h => by
    have hc := h c (.head _)
    rw [evL_cons (valC_pk hc)]
    have e : evA G (c :: cs) ρ = (evE G c ρ).bind fun r => (evA G cs r.2.2).bind fun q => .ok (r.1 :: q.1, q.2) := by
      cases c <;> first | (simp only [evA]; done) | (cases hc)
    rw [e]
    cases evE G c ρ with
    | ok r =>
      simp only [Res.bind]
      rw [evA_val fun c' h' => h c' (.tail _ h')]
      cases evL G cs r.2.2 with
      | ok q => simp [Res.bind]
      | exc => rfl
      | stk => rfl
    | exc => rfl
    | stk => rfl
theorem ioSlots_val : ∀ {cs : List C}, (∀ c ∈ cs, valC c = true) → ioSlots cs = []
  | [], _ => rfl
  | c :: cs, h => by
    have hc := h c (.head _)
    have := ioSlots_val (cs := cs) fun c' h' => h c' (.tail _ h')
    cases c <;> first | (simp only [ioSlots]; exact this) | (cases hc)
theorem evL_app : ∀ {a b : List C} {ρ : Ev}, (∀ c ∈ a, valC c = true) → evL G (a ++ b) ρ = (evL G a ρ).bind fun r => (evL G b r.2).bind fun q => .ok (r.1 ++ q.1, q.2)
  | [], b, ρ, _ => by
    simp only [List.nil_append, evL, Res.bind]
    cases evL G b ρ <;> simp
  | c :: a, b, ρ, h => by
    have hc := valC_pk (h c (.head _))
    rw [List.cons_append, evL_cons hc, evL_cons hc]
    cases evE G c ρ with
    | ok r =>
      simp only [Res.bind]
      rw [evL_app fun c' h' => h c' (.tail _ h')]
      cases evL G a r.2.2 with
      | ok q =>
        simp only [Res.bind]
        cases evL G b q.2 with
        | ok q2 => simp
        | exc => rfl
        | stk => rfl
      | exc => rfl
      | stk => rfl
    | exc => rfl
    | stk => rfl
theorem evL_len : ∀ {cs : List C} {ρ : Ev} {r : List (D × Own) × Ev}, (∀ c ∈ cs, valC c = true) → evL G cs ρ = .ok r → r.1.length = cs.length
  | [], ρ, r, _, h => by simp [evL] at h; subst h; rfl
  | c :: cs, ρ, r, hv, h => by
    rw [evL_cons (valC_pk (hv c (.head _)))] at h
    cases e1 : evE G c ρ with
    | ok x =>
      rw [e1] at h
      simp only [Res.bind] at h
      cases e2 : evL G cs x.2.2 with
      | ok q =>
        rw [e2] at h
        simp only [Res.bind] at h
        cases h
        simp [evL_len (fun c' h' => hv c' (.tail _ h')) e2]
      | exc => rw [e2] at h; cases h
      | stk => rw [e2] at h; cases h
    | exc => rw [e1] at h; cases h
    | stk => rw [e1] at h; cases h
theorem permute_map {α β : Type} (f : α → β) {xs : List α} : ∀ {pm : List Nat}, permute (xs.map f) pm = (permute xs pm).map (List.map f)
  | [] => rfl
  | i :: pm => by
    simp only [permute, List.getElem?_map, permute_map f (pm := pm)]
    cases xs[i]? <;> cases permute xs pm <;> rfl
theorem permute_len2 {α β : Type} {xs : List α} {ys : List β} (hl : xs.length = ys.length) : ∀ {pm : List Nat} {xs' : List α}, permute xs pm = some xs' → ∃ ys', permute ys pm = some ys'
  | [], _, _ => ⟨[], rfl⟩
  | i :: pm, xs', h => by
    simp only [permute] at h
    cases e1 : xs[i]? with
    | none => simp [e1] at h
    | some x =>
      cases e2 : permute xs pm with
      | none => simp [e1, e2] at h
      | some l =>
        obtain ⟨ys', e3⟩ := permute_len2 hl e2
        have hi : i < ys.length := by rw [← hl]; exact lt_of_get e1
        exact ⟨ys[i] :: ys', by simp [permute, List.getElem?_eq_getElem hi, e3]⟩
/-- a call by values alone -/
theorem callV_red {fn : String} {ca ck : List C} {pm : List Nat} {F : Fn} {Q : VK} (hF : G.fn fn = some F) (hm : F.modes = List.replicate pm.length false) (hc : ∀ c ∈ ca ++ ck, valC c = true) (h : tE G Z noEx (.call fn (ca ++ ck) pm) σ H Q) :
    tCallG (SpF Z.w Z.K F) pm ca.length ck.length (argsT G Z noEx ca) (argsT G Z noEx ck) σ H Q := by
  obtain ⟨ρ, tv, ts, s, h⟩ := h
  have hca : ∀ c ∈ ca, valC c = true := fun c h => hc c (List.mem_append_left _ h)
  have hck : ∀ c ∈ ck, valC c = true := fun c h => hc c (List.mem_append_right _ h)
  simp only [evE] at h
  rw [evA_val hc, ioSlots_val hc, evL_app hca] at h
  have h := h.bind.bind.bind
  cases e1 : evL G ca ρ with
  | exc => rw [e1] at h; exact h.elim
  | stk => rw [e1] at h; exact h.elim
  | ok r =>
    rw [e1] at h
    have h := OutR.bind (r := evL G ck r.2) h
    refine vals_run2 hca s e1 fun vs H1 hl1 s1 => ?_
    cases e2 : evL G ck r.2 with
    | exc => rw [e2] at h; exact h.elim
    | stk => rw [e2] at h; exact h.elim
    | ok q =>
      rw [e2] at h
      refine vals_run2 hck s1 e2 fun zs H2 hl2 s2 => ?_
      have h : OutR (fun r => ∀ v H', Sta Z σ r.2.2 (tv ++ [some v]) (ts ++ [.vl r.2.1 r.1]) H' → Q v H') noEx (match G.fn fn with
        | none => .stk ("function " ++ fn)
        | some F => match permute ((r.1 ++ q.1).map (·.1)) pm with
          | none => .stk "arguments"
          | some ds => (F.sem ds).bind fun z => if z.2.1 == .io then .stk "io" else match putOuts q.2 [] z.2.2 with
            | some ρ => .ok (z.1, z.2.1, ρ)
            | none => .stk "outs") := h
      rw [hF] at h
      have l1 := evL_len hca e1
      have l2 := evL_len hck e2
      cases e3 : permute ((r.1 ++ q.1).map (·.1)) pm with
      | none => simp only [e3] at h; exact h.elim
      | some ds =>
        simp only [e3] at h
        have hlen : (vs ++ zs).length = (r.1 ++ q.1).length := by simp [hl1, hl2]
        obtain ⟨vs', e4⟩ := permute_len2 (xs := (r.1 ++ q.1).map (·.1)) (ys := vs ++ zs) (by simp [hl1, hl2]) e3
        refine ⟨by omega, by omega, vs', e4, ?_⟩
        obtain ⟨p1, _⟩ := permute_get e3
        refine call0 (Y := σ ++ tv) (R := q.2 ++ ts) hlen (by simpa [slotsOf] using s2.ok) e3 e4 (by rw [hm, p1]) (h.bind.mono fun z hz => ?_)
        by_cases hk : z.2.1 = .io
        · rw [hk] at hz; exact hz.elim
        · have hk2 : (z.2.1 == Own.io) = false := by simpa using hk
          rw [hk2] at hz
          refine ⟨hk, fun v H' ho ok => ?_⟩
          rw [ho] at hz
          have hz : OutR (fun r => ∀ v H', Sta Z σ r.2.2 (tv ++ [some v]) (ts ++ [.vl r.2.1 r.1]) H' → Q v H') noEx (Res.ok (z.1, z.2.1, q.2)) := hz
          exact hz v H' ⟨s2.len, by simpa using ok⟩
theorem permute_range {α : Type} (xs : List α) : permute xs (List.range xs.length) = some xs := by
  have gen : ∀ (n k : Nat), k + n = xs.length → permute xs (List.range' k n) = some (xs.drop k) := by
    intro n
    induction n with
    | zero => intro k h; rw [List.drop_eq_nil_of_le (by omega)]; rfl
    | succ n ih =>
      intro k h
      have hk : k < xs.length := by omega
      rw [List.range'_succ]
      simp only [permute, List.getElem?_eq_getElem hk, ih (k + 1) (by omega)]
      rw [← List.drop_eq_getElem_cons hk]
  have := gen xs.length 0 (by omega)
  rw [← List.range_eq_range'] at this
  simpa using this
theorem ioSlots_io {i : Nat} {cs : List C} (h : ∀ c ∈ cs, valC c = true) : ioSlots (.io i :: cs) = [some i] := by
  simp only [ioSlots, ioSlots_val h]
theorem ioSlots_iot {c : C} {cs : List C} (h : ∀ c ∈ cs, valC c = true) : ioSlots (.iot c :: cs) = [none] := by
  simp only [ioSlots, ioSlots_val h]
theorem setS_getS {ρ : Ev} {i : Nat} {k : Own} {d : D} (h : getS ρ i = .vl k d) : setS ρ i (.vl k d) = ρ := by
  unfold setS
  apply List.ext_getElem?
  intro j
  by_cases hj : j = i
  · subst hj; rw [List.getElem?_set_self (getS_lt h)]; exact (getS_at h).symm
  · rw [List.getElem?_set_ne (Ne.symm hj)]
theorem getS_setS {ρ : Ev} {i : Nat} {s : Slot} (h : i < ρ.length) : getS (setS ρ i s) i = s := by
  unfold getS setS; rw [List.getElem?_set_self h]; rfl
theorem call1_fin {fn : String} {i : Nat} {cs : List C} {pm : List Nat} {F : Fn} {Q : VK} {r : List (D × Own) × Ev} {xs : List V} {v : V} {tv : L2.St} {ts : Ev} {H' : Hp} (hF : G.fn fn = some F) (hm : F.modes = true :: List.replicate cs.length false) (hpm : pm = List.range (cs.length + 1)) (l1 : r.1.length = cs.length) (hl : xs.length = r.1.length)
    (s2 : Sta Z σ r.2 (tv ++ xs.map some) (ts ++ slotsOf r.1) H') (hv : σ[i]? = some (some v))
    (h : OutR (fun q => OutR (fun r => OutR (fun r => ∀ v H', Sta Z σ r.2.2 (tv ++ [some v]) (ts ++ [.vl r.2.1 r.1]) H' → Q v H') noEx (match G.fn fn with
        | none => .stk ("function " ++ fn)
        | some F => match permute r.1 pm with
          | none => .stk "arguments"
          | some ds => (F.sem ds).bind fun z => if z.2.1 == .io then .stk "io" else match putOuts r.2 [some i] z.2.2 with
            | some ρ => .ok (z.1, z.2.1, ρ)
            | none => .stk "outs")) noEx (match getS q.2 i with
        | .vl .sh _ => .stk "in-out of a shared thing"
        | .vl k d => if boxD d then .ok (d :: q.1, setS q.2 i (.vl (if k == .io then .io else .top) d)) else .stk "in-out of no list"
        | _ => .stk "unbound")) noEx (Res.ok (r.1.map (·.1), r.2))) : SpF Z.w Z.K F (v :: xs) H' Q fun _ _ _ => False := by
  have h : OutR _ noEx (match getS r.2 i with
        | .vl .sh _ => .stk "in-out of a shared thing"
        | .vl k d => if boxD d then .ok (d :: r.1.map (·.1), setS r.2 i (.vl (if k == .io then .io else .top) d)) else .stk "in-out of no list"
        | _ => .stk "unbound") := h
  cases hg : getS r.2 i with
  | un => rw [hg] at h; exact h.elim
  | lk => rw [hg] at h; exact h.elim
  | vl k d =>
    rw [hg] at h
    have fin : ∀ k0, (k0 = .top ∨ k0 = .io) → Sta Z σ (setS r.2 i (.vl k0 d)) (tv ++ xs.map some) (ts ++ slotsOf r.1) H' → OutR (fun r => OutR (fun r => ∀ v H', Sta Z σ r.2.2 (tv ++ [some v]) (ts ++ [.vl r.2.1 r.1]) H' → Q v H') noEx (match G.fn fn with
        | none => .stk ("function " ++ fn)
        | some F => match permute r.1 pm with
          | none => .stk "arguments"
          | some ds => (F.sem ds).bind fun z => if z.2.1 == .io then .stk "io" else match putOuts r.2 [some i] z.2.2 with
            | some ρ => .ok (z.1, z.2.1, ρ)
            | none => .stk "outs")) noEx (Res.ok (d :: r.1.map (·.1), setS r.2 i (.vl k0 d))) → SpF Z.w Z.K F (v :: xs) H' Q fun _ _ _ => False := fun k0 hk0 s3 h => by
      have hil := getS_lt hg
      have h : OutR (fun r => ∀ v H', Sta Z σ r.2.2 (tv ++ [some v]) (ts ++ [.vl r.2.1 r.1]) H' → Q v H') noEx (match G.fn fn with
        | none => .stk ("function " ++ fn)
        | some F => match permute (d :: r.1.map (·.1)) pm with
          | none => .stk "arguments"
          | some ds => (F.sem ds).bind fun z => if z.2.1 == .io then .stk "io" else match putOuts (setS r.2 i (.vl k0 d)) [some i] z.2.2 with
            | some ρ => .ok (z.1, z.2.1, ρ)
            | none => .stk "outs") := h
      have hp : permute (d :: r.1.map (·.1)) pm = some (d :: r.1.map (·.1)) := by
        rw [hpm, ← l1]
        simpa using permute_range (d :: r.1.map (·.1))
      rw [hF] at h
      simp only [hp] at h
      have hlen' : i < (setS r.2 i (.vl k0 d)).length := by unfold setS; simpa using hil
      have hgi : getS (setS r.2 i (.vl k0 d)) i = .vl k0 d := getS_setS hil
      refine call1 (Y := σ ++ tv) (R := setS r.2 i (.vl k0 d) ++ ts) (i := i) (k0 := k0) (dI := d) (dks := r.1) hl (by simpa [slotsOf] using s3.ok) (by rw [List.getElem?_append_left hlen']; exact getS_at hgi) (by rw [List.getElem?_append_left (lt_of_get hv)]; exact hv) hk0 (by rw [hm, l1]) (h.bind.mono fun z hz => ?_)
      by_cases hk : z.2.1 = .io
      · rw [hk] at hz; exact hz.elim
      · have hk2 : (z.2.1 == Own.io) = false := by simpa using hk
        rw [hk2] at hz
        refine ⟨hk, fun v H' d' ho ok => ?_⟩
        rw [ho] at hz
        simp only [putOuts, hgi] at hz
        have hz : OutR (fun r => ∀ v H', Sta Z σ r.2.2 (tv ++ [some v]) (ts ++ [.vl r.2.1 r.1]) H' → Q v H') noEx (Res.ok (z.1, z.2.1, setS (setS r.2 i (.vl k0 d)) i (.vl k0 d'))) := hz
        refine hz v H' ⟨by unfold setS; simpa using s2.len, ?_⟩
        rw [List.set_append_left _ _ hlen'] at ok
        simpa [setS] using ok
    by_cases hb : boxD d = true
    · cases k with
      | sh => exact h.elim
      | io =>
        simp only [hb, if_true] at h
        exact fin .io (.inr rfl) (by rw [setS_getS hg]; exact s2) h
      | top =>
        simp only [hb, if_true] at h
        exact fin .top (.inl rfl) (by rw [setS_getS hg]; exact s2) h
      | fr =>
        simp only [hb, if_true] at h
        exact fin .top (.inl rfl) (s2.set (getS_lt hg) (s2.ok.topOnly (s2.get hg) hb)) h
    · have hb : boxD d = false := by simpa using hb
      cases k <;> simp [hb] at h <;> exact h.elim
/-- .. that changes a slot's thing -/
theorem callI_red {fn : String} {i : Nat} {cs : List C} {pm : List Nat} {F : Fn} {Q : VK} (hF : G.fn fn = some F) (hm : F.modes = true :: List.replicate cs.length false) (hpm : pm = List.range (cs.length + 1)) (hc : ∀ c ∈ cs, valC c = true) (h : tE G Z noEx (.call fn (.io i :: cs) pm) σ H Q) :
    tVar i σ H fun x H1 => argsT G Z noEx cs σ H1 fun xs H2 => xs.length = cs.length ∧ SpF Z.w Z.K F (x :: xs) H2 Q fun _ _ _ => False := by
  obtain ⟨ρ, tv, ts, s, h⟩ := h
  simp only [evE] at h
  simp only [evA] at h
  cases hb : getS ρ i with
  | un => simp [bound, hb] at h; exact h.elim
  | lk => simp [bound, hb] at h; exact h.elim
  | vl k d =>
    simp only [bound, hb, if_true] at h
    obtain ⟨v, hv⟩ := s.val hb
    refine ⟨v, hv, ?_⟩
    have h := h.bind.bind
    rw [evA_val hc] at h
    have h := h.bind
    cases e1 : evL G cs ρ with
    | exc => rw [e1] at h; exact h.elim
    | stk => rw [e1] at h; exact h.elim
    | ok r =>
      rw [e1] at h
      refine vals_run2 hc s e1 fun xs H' hl s2 => ?_
      have l1 := evL_len hc e1
      refine ⟨by omega, ?_⟩
      rw [ioSlots_io hc] at h
      exact call1_fin hF hm hpm l1 hl s2 hv h
end
end TH
end
section
set_option Elab.async false
set_option linter.all false
set_option maxRecDepth 100000
namespace TH
open PySem PySem.Spec PyProof.Rows L2

section
variable {G : Glob} {Z : Cf} {σ : L2.St} {ρ : Ev} {tv : L2.St} {ts : Ev} {H : Hp}
/-- the thing ahead of the last is dropped -/
theorem Ok.dropMid {Y : L2.St} {R : Ev} {a : Option V} {s : Slot} {v : V} {k : Own} {d : D} (o : Ok Z (Y ++ [a] ++ [some v]) (R ++ [s] ++ [.vl k d]) H) : Ok Z (Y ++ [some v]) (R ++ [.vl k d]) H := by
  obtain ⟨foot, own, o⟩ := o
  obtain ⟨v', e, r, ko, hB, sh⟩ := o.last
  cases e
  have p := o.pop.pop
  refine ⟨_, _, p.push r ⟨fun b hb j hj => ?_, hB⟩ (fun b hb => o.mine _ b hb) (fun j b hb hbo => ?_) ko⟩
  · obtain ⟨_, hj⟩ := put_mem hj
    exact sh.1 b hb j hj
  · obtain ⟨_, hb⟩ := put_mem hb
    obtain ⟨h1, hb⟩ := put_mem hb
    exact h1 (o.sep _ _ b hb hbo)
/-- a call that changes a thing at hand -/
theorem callT_red {fn : String} {c : C} {cs : List C} {pm : List Nat} {F : Fn} {Q : VK} (hF : G.fn fn = some F) (hm : F.modes = true :: List.replicate cs.length false) (hpm : pm = List.range (cs.length + 1)) (hc : ∀ c ∈ cs, valC c = true) (h : tE G Z noEx (.call fn (.iot c :: cs) pm) σ H Q) :
    tE G Z noEx c σ H fun x H1 => argsT G Z noEx cs σ H1 fun xs H2 => xs.length = cs.length ∧ SpF Z.w Z.K F (x :: xs) H2 Q fun _ _ _ => False := by
  obtain ⟨ρ, tv, ts, s, h⟩ := h
  simp only [evE, evA] at h
  rw [ioSlots_iot hc] at h
  refine ⟨ρ, tv, ts, s, h.bind.bind.mono fun r h x H1 s1 => ?_⟩
  by_cases hs : (r.2.1 == .sh || !boxD r.1) = true
  · rw [if_pos hs] at h; exact h.elim
  · rw [if_neg hs] at h
    have hk : r.2.1 ≠ .sh := fun e => hs (by rw [e]; rfl)
    have hb : boxD r.1 = true := by
      cases hb : boxD r.1 with
      | true => rfl
      | false => exact absurd (by rw [hb]; simp) hs
    have h := h.bind
    rw [evA_val hc] at h
    have h := h.bind
    cases e1 : evL G cs r.2.2 with
    | exc => rw [e1] at h; exact h.elim
    | stk => rw [e1] at h; exact h.elim
    | ok q =>
      rw [e1] at h
      have l1 := evL_len hc e1
      refine vals_run2 hc s1 e1 fun xs H2 hl s2 => ⟨by omega, ?_⟩
      have h : OutR (fun r => ∀ v H', Sta Z σ r.2.2 (tv ++ [some v]) (ts ++ [.vl r.2.1 r.1]) H' → Q v H') noEx (match G.fn fn with
        | none => .stk ("function " ++ fn)
        | some F => match permute (r.1 :: q.1.map (·.1)) pm with
          | none => .stk "arguments"
          | some ds => (F.sem ds).bind fun z => if z.2.1 == .io then .stk "io" else match putOuts q.2 [none] z.2.2 with
            | some ρ => .ok (z.1, z.2.1, ρ)
            | none => .stk "outs") := h
      have hp : permute (r.1 :: q.1.map (·.1)) pm = some (r.1 :: q.1.map (·.1)) := by
        rw [hpm, ← l1]
        simpa using permute_range (r.1 :: q.1.map (·.1))
      rw [hF] at h
      simp only [hp] at h
      have hio : (q.2 ++ ts ++ [Slot.vl r.2.1 r.1])[(q.2 ++ ts).length]? = some (.vl r.2.1 r.1) := by simp
      have hil : (σ ++ tv).length = (q.2 ++ ts).length := by
        obtain ⟨_, _, o⟩ := s2.ok
        have := o.len
        simp [slotsOf] at this ⊢
        omega
      have hvi : (σ ++ tv ++ [some x])[(q.2 ++ ts).length]? = some (some x) := by rw [← hil]; simp
      have ok0 : Ok Z ((σ ++ tv ++ [some x]) ++ xs.map some) ((q.2 ++ ts ++ [Slot.vl r.2.1 r.1]) ++ q.1.map fun x => .vl x.2 x.1) H2 := by simpa [slotsOf] using s2.ok
      have fin : ∀ k0, (k0 = .top ∨ k0 = .io) → Ok Z ((σ ++ tv ++ [some x]) ++ xs.map some) ((q.2 ++ ts ++ [Slot.vl k0 r.1]) ++ q.1.map fun x => .vl x.2 x.1) H2 → SpF Z.w Z.K F (x :: xs) H2 Q fun _ _ _ => False := fun k0 hk0 ok => by
        refine call1 (Y := σ ++ tv ++ [some x]) (R := q.2 ++ ts ++ [Slot.vl k0 r.1]) (i := (q.2 ++ ts).length) (k0 := k0) (dI := r.1) (dks := q.1) hl ok (by simp) hvi hk0 (by rw [hm, l1]) (h.bind.mono fun z hz => ?_)
        by_cases hkz : z.2.1 = .io
        · rw [hkz] at hz; exact hz.elim
        · have hk2 : (z.2.1 == Own.io) = false := by simpa using hkz
          rw [hk2] at hz
          refine ⟨hkz, fun v H' d' ho ok => ?_⟩
          rw [ho] at hz
          have hz : OutR (fun r => ∀ v H', Sta Z σ r.2.2 (tv ++ [some v]) (ts ++ [.vl r.2.1 r.1]) H' → Q v H') noEx (Res.ok (z.1, z.2.1, q.2)) := hz
          refine hz v H' ⟨s2.len, ?_⟩
          have ok2 : Ok Z ((σ ++ tv) ++ [some x] ++ [some v]) ((q.2 ++ ts) ++ [Slot.vl k0 d'] ++ [.vl z.2.1 z.1]) H' := by simpa using ok
          simpa using ok2.dropMid
      cases hkk : r.2.1 with
      | sh => exact absurd hkk hk
      | top => rw [hkk] at ok0; exact fin .top (.inl rfl) ok0
      | io => rw [hkk] at ok0; exact fin .io (.inr rfl) ok0
      | fr =>
        rw [hkk] at ok0
        refine fin .top (.inl rfl) ?_
        have := ok0.topOnly (i := (q.2 ++ ts).length) (d := r.1) (by simp) hb
        simpa using this
end

section
variable {E : Ce} {e a b : Expr} {c ca cb : C} {pos p : Pos}
/-- keywords -/
inductive RK (E : Ce) : List Keyword → List Str → List C → Prop
  | nil : RK E [] [] []
  | cons {nm : Str} {e : Expr} {kp : Pos} {c : C} {kws : List Keyword} {ks : List Str} {cs : List C} : R E e c → RK E kws ks cs → RK E (⟨some nm, e, kp⟩ :: kws) (nm :: ks) (c :: cs)
theorem RK.pk {G : Glob} {Z : Cf} {X : Cx} (g : Good E G X) (zx : ZX Z X) : ∀ {kws : List Keyword} {ks : List Str} {cs : List C}, RK E kws ks cs → PK X kws (argsT G Z noEx cs)
  | _, _, _, .nil => pk_nil
  | _, _, _, .cons r rs => pk_cons (r.argV g zx) (RK.pk g zx rs)
theorem RK.len : ∀ {kws : List Keyword} {ks : List Str} {cs : List C}, RK E kws ks cs → cs.length = ks.length
  | _, _, _, .nil => rfl
  | _, _, _, .cons r rs => by simp [rs.len]
theorem RK.facts (env : Env) (pos : Pos) : ∀ {kws : List Keyword} {ks : List Str} {cs : List C}, RK E kws ks cs → (backToKw pos (keywordEach kws env)).all (·.1.isSome) = true ∧ (backToKw pos (keywordEach kws env)).filterMap (·.1) = ks ∧ (backToKw pos (keywordEach kws env)).any (·.1.isNone) = false
  | _, _, _, .nil => ⟨rfl, rfl, rfl⟩
  | _, _, _, .cons (nm := nm) (e := e) (kp := kp) (kws := kws) r rs => by
    obtain ⟨h1, h2, h3⟩ := rs.facts env pos
    have hc : backToKw pos (keywordEach (⟨some nm, e, kp⟩ :: kws) env) = (some nm, do let v ← eval e env; standAt pos; pure v) :: backToKw pos (keywordEach kws env) := rfl
    rw [hc]
    refine ⟨?_, ?_, ?_⟩
    · simpa using h1
    · simpa using h2
    · simpa using h3
theorem RL.len : ∀ {es : List Expr} {cs : List C}, RL E es cs → es.length = cs.length
  | _, _, .nil => rfl
  | _, _, .cons _ rs => by simp [rs.len]
theorem argsT_one {G : Glob} {Z : Cf} {σ : L2.St} {H : Hp} {Q : List V → Hp → Prop} : argsT G Z noEx [] σ H Q ↔ Q [] H := Iff.rfl
/-- a call of one of the module's defs, by values -/
theorem R.callV {x : Str} {fn : String} {ps ks : List Str} {ms : List Bool} {pm : List Nat} {es : List Expr} {kws : List Keyword} {cs ck : List C} (hx : E.sig.funs.lookup x = some (fn, ps, ms)) (hgl : glB E.sc x = true) (hdb : (x == ("__debug__" : Str)) = false) (rl : RL E es cs) (rk : RK E kws ks ck)
    (hpm : permOf ps ks cs.length = some pm) (hknd : ks.Nodup) (hkd : ∀ x ∈ ks, x ∈ ps.drop cs.length) (hn : cs.length + ks.length = ps.length) (hm : ms = List.replicate pm.length false) (hv : ∀ c ∈ cs ++ ck, valC c = true) : R E (.Call (.Name x p) es kws pos) (.call fn (cs ++ ck) pm) where
  pe := fun G Z X g zx => by
    obtain ⟨F, f, fd, k, hF, hFm, _, hmg, hkp, hr, hfn, hb⟩ := g.fns x fn ps ms hx
    obtain ⟨k1, k2, k3⟩ := rk.facts X.env pos
    have hsp : SpF X.w X.K F = SpF Z.w Z.K F := by rw [zx.w, zx.K]
    cases rl with
    | nil =>
      refine pe_imp (pe_callG0 hfn hr g.gd (gl_ok g hgl) hmg hkp hb hpm hknd hkd hn rk.len (rk.pk g zx) k1 k2 hdb k3) fun σ H Q h => ?_
      have := callV_red (ca := []) hF (hFm.trans hm) hv h
      rw [hsp]
      exact this
    | cons r rs =>
      refine pe_imp (pe_callG hfn hr g.gd (gl_ok g hgl) hmg hkp hb hpm hknd hkd hn rk.len (RL.paV g zx (.cons r rs)) (rk.pk g zx) k1 k2 hdb (r.sh.star _ _) ((RL.cons r rs).plain _ _) k3) fun σ H Q h => ?_
      have := callV_red hF (hFm.trans hm) hv h
      rw [hsp]
      exact this
  var := fun i h => by cases h
  pk := rfl
  sh := ⟨fun _ _ => rfl, fun _ _ => rfl, fun _ => rfl⟩
theorem permOf_nil {ps : List Str} : permOf ps [] ps.length = some (List.range ps.length) := by
  unfold permOf
  have : ∀ (l : List Nat), (∀ i ∈ l, i < ps.length) → mapO (fun i => if i < ps.length then some i else match ps[i]? with | some p => (([] : List Str).findIdx? (· == p)).map (· + ps.length) | none => none) l = some l := by
    intro l
    induction l with
    | nil => intro _; rfl
    | cons i l ih =>
      intro h
      simp only [mapO, if_pos (h i (.head _)), ih fun j hj => h j (.tail _ hj)]
  exact this _ fun i hi => List.mem_range.mp hi
/-- .. its first argument a name whose thing is changed -/
theorem R.callI {x : Str} {fn : String} {ps : List Str} {ms : List Bool} {i : Nat} {e0 : Expr} {es : List Expr} {cs : List C} (hx : E.sig.funs.lookup x = some (fn, ps, ms)) (hgl : glB E.sc x = true) (hdb : (x == ("__debug__" : Str)) = false) (r0 : R E e0 (.var i)) (rl : RL E es cs)
    (hn : cs.length + 1 = ps.length) (hm : ms = true :: List.replicate cs.length false) (hv : ∀ c ∈ cs, valC c = true) : R E (.Call (.Name x p) (e0 :: es) [] pos) (.call fn (.io i :: cs) (List.range (cs.length + 1))) where
  pe := fun G Z X g zx => by
    obtain ⟨F, f, fd, k, hF, hFm, _, hmg, hkp, hr, hfn, hb⟩ := g.fns x fn ps ms hx
    have hsp : SpF X.w X.K F = SpF Z.w Z.K F := by rw [zx.w, zx.K]
    have hpm : permOf ps [] (cs.length + 1) = some (List.range (cs.length + 1)) := by rw [hn]; exact permOf_nil
    refine pe_imp (pe_callG hfn hr g.gd (gl_ok g hgl) hmg hkp hb hpm .nil (fun x h => by simp at h) (by simpa using hn) rfl (pa_cons (r0.var i rfl G X g) (rl.paV g zx) (r0.sh.star _ _)) pk_nil rfl rfl hdb (r0.sh.star _ _) ((RL.cons r0 rl).plain _ _) rfl) fun σ H Q h => ?_
    have h := callI_red hF (hFm.trans hm) rfl hv h
    rw [hsp]
    obtain ⟨v, hv', h⟩ := h
    refine ⟨v, hv', argsT_mono (fun vs H1 q => ?_) h⟩
    obtain ⟨q1, q2⟩ := q
    refine ⟨by simp [q1], rfl, v :: vs, ?_, q2⟩
    have := permute_range (v :: vs)
    rw [List.append_nil]
    simpa [q1] using this
  var := fun i h => by cases h
  pk := rfl
  sh := ⟨fun _ _ => rfl, fun _ _ => rfl, fun _ => rfl⟩
/-- .. a new thing that is changed, and let go -/
theorem R.callT {x : Str} {fn : String} {ps : List Str} {ms : List Bool} {e0 : Expr} {c0 : C} {es : List Expr} {cs : List C} (hx : E.sig.funs.lookup x = some (fn, ps, ms)) (hgl : glB E.sc x = true) (hdb : (x == ("__debug__" : Str)) = false) (r0 : R E e0 c0) (rl : RL E es cs)
    (hn : cs.length + 1 = ps.length) (hm : ms = true :: List.replicate cs.length false) (hv : ∀ c ∈ cs, valC c = true) : R E (.Call (.Name x p) (e0 :: es) [] pos) (.call fn (.iot c0 :: cs) (List.range (cs.length + 1))) where
  pe := fun G Z X g zx => by
    obtain ⟨F, f, fd, k, hF, hFm, _, hmg, hkp, hr, hfn, hb⟩ := g.fns x fn ps ms hx
    have hsp : SpF X.w X.K F = SpF Z.w Z.K F := by rw [zx.w, zx.K]
    have hpm : permOf ps [] (cs.length + 1) = some (List.range (cs.length + 1)) := by rw [hn]; exact permOf_nil
    refine pe_imp (pe_callG hfn hr g.gd (gl_ok g hgl) hmg hkp hb hpm .nil (fun x h => by simp at h) (by simpa using hn) rfl (pa_cons (r0.pe G Z X g zx) (rl.paV g zx) (r0.sh.star _ _)) pk_nil rfl rfl hdb (r0.sh.star _ _) ((RL.cons r0 rl).plain _ _) rfl) fun σ H Q h => ?_
    have h := callT_red hF (hFm.trans hm) rfl hv h
    rw [hsp]
    obtain ⟨ρ, tv, ts, s, h⟩ := h
    refine ⟨ρ, tv, ts, s, h.mono fun r hr v H1 s1 => ?_⟩
    refine argsT_mono (fun vs H1 q => ?_) (hr v H1 s1)
    obtain ⟨q1, q2⟩ := q
    refine ⟨by simp [q1], rfl, v :: vs, ?_, q2⟩
    have := permute_range (v :: vs)
    rw [List.append_nil]
    simpa [q1] using this
  var := fun i h => by cases h
  pk := rfl
  sh := ⟨fun _ _ => rfl, fun _ _ => rfl, fun _ => rfl⟩
end
end TH
end
section
set_option Elab.async false
set_option linter.all false
set_option maxRecDepth 100000
namespace TH
open PySem PySem.Spec PyProof.Rows L2

/-- what the module gives to its defs, calls k deep -/
structure Mo (sig : Sig) (G : Glob) (P : Program) (w : World) (K : PySem.W.Frag) (mg : Str → Option Value) (base : Heap) (k : Nat) : Prop where
  sys : (∃ o, base.get? sysModules = some o) ∧ K.lookup sysModules = none
  blt : ∀ x ∈ bltAll, sig.funs.lookup x = none → mg x = none
  fns : ∀ x fn ps ms, sig.funs.lookup x = some (fn, ps, ms) → ∃ (F : Fn) (f : Addr) (fd : FuncData), G.fn fn = some F ∧ F.modes = ms ∧ ms.length = ps.length ∧ mg x = some (.ref f) ∧ PySem.W.keepIn K (.ref f) = true ∧ FnG P w K mg base k f fd ps (SpF w K F) ∧ Bnd fd ps
  con : ∀ x c, sig.cons.lookup x = some c → ∃ (d : D) (u : Value) (v : V), G.con c = some d ∧ mg x = some u ∧ RelV v u ∧ ∀ H, DRep w K H true v d []
section
variable {P : Program} {w : World} {K : PySem.W.Frag} {mg : Str → Option Value} {base : Heap} {sig : Sig} {G : Glob} {k : Nat} {f : Addr} {fd : FuncData}
theorem Mo.good {N : List Str} {sc : Scope} {cdv : Value} {A : Around} {outer : List Env} {s : Shared} {H : Hp} {E : XK} {qual : Str} (M : Mo sig G P w K mg base k) (nd : N.Nodup) (hr : Room k (A.deeper (envOfC qual sc s.heap.objs.size f cdv))) (hg : A.guards = some []) :
    Good ⟨sig, N, sc, fun _ => true⟩ G (cxOf CX0 P w K mg base N qual sc f cdv A outer s H E).nox where
  N := rfl
  nd := nd
  sc := rfl
  calm := rfl
  hh := hr.hd
  un := by
    have h := hr.un
    have h2 : (A.deeper (envOfC qual sc s.heap.objs.size f cdv)).units + 200 < cLine := by omega
    exact h2
  gd := hg
  sys := M.sys
  xe := fun _ _ h => h
  fn := fun _ _ => rfl
  blt := M.blt
  fns := fun x fn ps ms h => by
    obtain ⟨F, f, fd, h1, h2, h3, h4, h5, h6, h7⟩ := M.fns x fn ps ms h
    exact ⟨F, f, fd, k, h1, h2, h3, h4, h5, hr, h6, h7⟩
  con := fun x c h => M.con x c h
theorem fn_ofG {name qual : Str} {params : Arguments} {body : List Stmt} {scope : Scope} {dV kV doc pm cdv ct oc : Value} {an od : Option Addr} {osl : Array (Option Value)} {N ps : List Str} {sp : Sp} (lk : K.lookup f = some ⟨oc, od, .func (PySem.W.fnOf name qual params body scope dV kV doc pm an cdv ct), osl⟩) (hcd : PySem.W.codeIn K cdv qual = true)
    (S : FnScope N ps scope) (len : ∀ vs H Q E, sp vs H Q E → vs.length = ps.length)
    (hbody : ∀ (A : Around) (outer : List Env) (s : Shared) (H : Hp) (vs : List V) (Q : VK) (E : XK), Room k (A.deeper (envOfC qual scope s.heap.objs.size f cdv)) → A.guards = some [] → sp vs H Q E → ∃ t, PSs (cxOf CX0 P w K mg base N qual scope f cdv A outer s H E) body t ∧ t { nx := fun _ H' => Q .non H', rt := Q } (L2.start N vs) H) :
    FnG P w K mg base (k + 1) f (PySem.W.fnOf name qual params body scope dV kV doc pm an cdv ct) ps sp where
  len := len
  run := by
    intro A outer s H args us vs Q E room gd e0 bind rel want
    have inn : K.In s.heap := PySem.W.Frag.In.keeps e0.mod.kin (fun b o e => (e0.bs b o e).1)
    have noLim := Heap.NoLimit.keeps e0.mod.nolimit (fun b o e => (e0.bs b o e).1)
    have lens := len _ _ _ _ want
    have kinds : ∀ y ∈ ps.zip us, scope.names.lookup y.1 = some .local ∨ (scope.names.lookup y.1 = some .cell ∧ ((cellsFrom (s.heap.objs.size + 1) scope.names []).lookup y.1).isSome = true) := by
      intro y hy
      have hm : y.1 ∈ ps := (List.of_mem_zip (a := y.1) (b := y.2) hy).1
      exact (S.par y.1 hm).imp id fun q => ⟨q, PySem.W.cellsFrom_some _ _ _ (.inl q)⟩
    refine codeAny_call_function room.depth (inn _ _ lk) rfl S.co S.gen rfl (PySem.W.codeRec_of inn hcd) (bind _ _ _ _ (wpAny_newFunctionEnv_cells S.kind kinds ?_))
    intro env he s1 x
    subst he
    refine ⟨noLim.keeps x.toInCall.keep, codeAny_func ?_⟩
    obtain ⟨t, ht, hq⟩ := hbody A outer s H vs Q E (room.deeper _) gd want
    refine wpAny_mono (ht.run [] s1 (L2.start N vs) H _ (inv_start S room.hd e0 lens rel x) hq) ?_ fun e s' hs => hs
    intro fl s' hs
    cases fl with
    | ret u =>
      obtain ⟨v, _, H', J, rv, q⟩ := hs
      exact ⟨v, H', J.os, J.bare, J.base, J.hok, rv, q⟩
    | next =>
      obtain ⟨_, H', J, q⟩ := hs
      exact ⟨V.non, H', J.os, J.bare, J.base, J.hok, rfl, q⟩
    | brk => obtain ⟨_, _, _, q⟩ := hs; exact False.elim q
    | cont => obtain ⟨_, _, _, q⟩ := hs; exact False.elim q
theorem start_slots {Z : Cf} {H : Hp} {N : List Str} {vs : List V} {ρ : Ev} (o : Ok Z (vs.map some) ρ H) (hn : vs.length ≤ N.length) : Ok Z (L2.start N vs) (ρ ++ List.replicate (N.length - vs.length) .un) H := by
  obtain ⟨foot, own, o⟩ := o
  have hl : vs.length = ρ.length := by have := o.len; simpa using this
  unfold L2.start
  refine ⟨foot, own, by simp [hl], fun i ov sl e1 e2 => ?_, fun i hi => o.nil i (by simp at hi; omega), o.sep, o.mine, o.keep, o.io, o.oth, fun i e => ?_⟩
  · by_cases hi : i < ρ.length
    · rw [List.getElem?_append_left (by simpa [hl] using hi)] at e1
      rw [List.getElem?_append_left hi] at e2
      exact o.slot i ov sl e1 e2
    · rw [List.getElem?_append_right (by omega), List.getElem?_replicate] at e2
      split at e2
      · cases e2
        exact o.nil i (by omega)
      · cases e2
  · by_cases hi : i < ρ.length
    · rw [List.getElem?_append_left hi] at e
      rw [List.getElem?_append_left (by simpa [hl] using hi)]
      exact o.lk i e
    · rw [List.getElem?_append_right (by omega), List.getElem?_replicate] at e
      split at e <;> cases e
theorem startS_pad {ms : List Bool} {ds : List D} {n : Nat} : startS ms ds n = startS ms ds ds.length ++ List.replicate (n - ds.length) .un := by
  unfold startS; simp
/-- THE RULE: a def, by its compiled body -/
theorem fn_body {x qual : Str} {st : Stmt} {N ps : List Str} {ms : List Bool} {code : List S} {fuel : Nat} (F : Fun K x qual st f fd) (S : FnScope N ps (defScope st)) (hms : ms.length = ps.length) (M : Mo sig G P w K mg base k) (rs : RSts ⟨sig, N, defScope st, fun _ => true⟩ (defBody st) code) :
    FnG P w K mg base (k + 1) f fd ps (SpF w K ⟨ms, runBody G ms N.length fuel code⟩) := by
  obtain ⟨oc, od, kV, doc, pm, an, cdv, ct, osl, rfl, lk, hcd⟩ := F.ex
  refine fn_ofG lk hcd S (fun vs H Q E h => h.1.trans hms) fun A outer s H vs Q E hr hg h => ?_
  obtain ⟨hl, Z, ds, zw, zk, hd, o, h⟩ := h
  have hl : vs.length = ms.length := hl
  have zx : ZX Z (cxOf CX0 P w K mg base N qual (defScope st) f cdv A outer s H E).nox := ⟨zk, zw⟩
  have hN : vs.length ≤ N.length := by
    have := congrArg List.length S.pre
    rw [List.length_take] at this
    omega
  refine ⟨_, (rs.pss (M.good S.nd hr hg) zx fuel).nox, startS ms ds N.length, ⟨?_, ?_⟩, ?_⟩
  · have := (start_slots o hN)
    obtain ⟨_, _, o2⟩ := this
    have := o2.len
    rw [startS_pad, hd]
    rw [hd] at this
    exact this.symm
  · have := start_slots o hN
    rw [startS_pad, hd]
    rw [hd] at this
    simpa using this
  · have h : OutR (fun r => ∀ v H' (σ' : L2.St) (ρ' : Ev), Ok Z (σ' ++ [some v]) (ρ' ++ [.vl r.2.1 r.1]) H' → σ'.length = ρ'.length → outsOf ms ρ' = some r.2.2 → Q v H') noEx (runBody G ms N.length fuel code ds) := h
    unfold runBody at h
    have hdm : (ds.length == ms.length) = true := by rw [hd, hl]; simp
    rw [hdm] at h
    refine (OutR.bind h).mono fun fl hfl => ?_
    cases fl with
    | ret d kk ρ' =>
      intro v σ' H' s'
      cases eo : outsOf ms ρ' with
      | none => simp only [eo] at hfl; exact hfl.elim
      | some os =>
        simp only [eo] at hfl
        have hfl : ∀ v H' (σ' : L2.St) (ρ' : Ev), Ok Z (σ' ++ [some v]) (ρ' ++ [.vl kk d]) H' → σ'.length = ρ'.length → outsOf ms ρ' = some os → Q v H' := hfl
        exact hfl v H' σ' ρ' s'.ok s'.len.symm eo
    | next ρ' =>
      intro σ' H' s'
      cases eo : outsOf ms ρ' with
      | none => simp only [eo] at hfl; exact hfl.elim
      | some os =>
        simp only [eo] at hfl
        have hfl : ∀ v H' (σ' : L2.St) (ρ' : Ev), Ok Z (σ' ++ [some v]) (ρ' ++ [.vl .fr .none]) H' → σ'.length = ρ'.length → outsOf ms ρ' = some os → Q v H' := hfl
        obtain ⟨_, _, o'⟩ := s'.ok
        exact hfl .non H' σ' ρ' (by simpa using o'.pushAtom .none) s'.len.symm eo
    | brk ρ' => exact hfl.elim
    | cont ρ' => exact hfl.elim
/-- calls not a step deep -/
theorem fn_zero {ms : List Bool} {ps : List Str} (hms : ms.length = ps.length) {t : String} : FnG P w K mg base 0 f fd ps (SpF w K ⟨ms, fun _ => .stk t⟩) where
  len := fun vs H Q E h => h.1.trans hms
  run := fun A outer s H args us vs Q E hr hg e0 hb r h => by
    obtain ⟨_, _, _, _, _, _, _, h⟩ := h
    exact h.elim
end
end TH
end
section
set_option Elab.async false
set_option linter.all false
set_option maxRecDepth 100000
namespace TH
open PySem PySem.Spec PyProof.Rows L2

section
variable {E : Ce} {e a b c0 : Expr} {c ca cb cc : C} {pos p : Pos} {G : Glob} {Z : Cf} {X : Cx} {σ : L2.St} {H : Hp}
/-- a constant of the module -/
theorem R.con {x : Str} {n : String} (hx : E.sig.cons.lookup x = some n) (hgl : glB E.sc x = true) (hdb : (x == ("__debug__" : Str)) = false) : R E (.Name x pos) (.con n) where
  pe := fun G Z X g zx => by
    obtain ⟨d, u, v, hc, hm, r, hd⟩ := g.con x n hx
    refine pe_imp (pe_glob (gl_ok g hgl) hm r hdb) fun σ H Q h => ?_
    obtain ⟨ρ, tv, ts, s, h⟩ := h
    simp only [evE, hc] at h
    obtain ⟨f, w, o⟩ := s.ok
    have hd' : DRep Z.w Z.K H true v d [] := by rw [zx.w, zx.K]; exact hd H
    exact h v H ⟨s.len, by simpa using o.pushSh hd' .nil⟩
  var := fun i h => by cases h
  pk := rfl
  sh := ⟨fun _ _ => rfl, fun _ _ => rfl, fun _ => rfl⟩
/-- not, as a value -/
theorem R.not (r : R E a ca) : R E (.UnaryOp .Not a pos) (.not_ ca) where
  pe := fun G Z X g zx => ⟨fun pins s σ H Q I h => by
    obtain ⟨ρ, tv, ts, st, h⟩ := h
    simp only [evE] at h
    refine UnaryOp_ (thn ((r.pe G Z X g zx).run pins s σ H (fun v H1 => ∃ d, Arg0 Z H1 v d ∧ Q (.bl (!truth d)) H1) I ⟨ρ, tv, ts, st, h.bind.mono fun q hq v H1 s1 => ?_⟩) fun v s1 ⟨x, H1, I1, r1, d, q1, q2⟩ => ?_)
    · obtain ⟨s2, a0⟩ := s1.drop
      obtain ⟨f, w, o⟩ := s2.ok
      exact ⟨q.1, a0, hq _ H1 ⟨s2.len, by simpa using o.pushAtom (.bool _)⟩⟩
    · exact not_of (truth_ok zx I1 r1 q1 fun tk => ⟨.bl (!truth d), H1, I1.tok tk, rfl, q2⟩)⟩
  var := fun i h => by cases h
  pk := rfl
  sh := ⟨fun _ _ => rfl, fun _ _ => rfl, fun _ => rfl⟩
theorem getAt {α : Type} {L : List α} (A : List α) (x : α) (B : List α) {n : Nat} (e : L = A ++ x :: B) (h : n = A.length) : L[n]? = some x := by
  subst e h; simp
theorem prim_kinds {p : P} (hp : boolP p = true) {a b : D} {k1 k2 k3 k4 : Own} : prim p [(a, k1), (b, k2)] = prim p [(a, k3), (b, k4)] := by cases p <;> first | rfl | cases hp
theorem boolP_scalar {p : P} (hp : boolP p = true) : scalarP p = true := by cases p <;> first | rfl | cases hp
/-- a op b op' c -/
theorem R.chain {op op' : CmpOp} {p1 p2 : P} (h1 : boolP p1 = true) (h2 : boolP p2 = true) (ho : OpOk (compareOp op) p1) (ho' : OpOk (compareOp op') p2) (ra : R E a ca) (rb : R E b cb) (rc : R E c0 cc) (hm : lastMarks [op, op'] [b, c0] = false) : R E (.Compare a [op, op'] [b, c0] pos) (.chain p1 p2 ca cb cc) where
  pe := fun G Z X g zx => pe_imp (pe_chain (ho E G Z X g zx) (ho' E G Z X g zx) (ra.pe G Z X g zx) (rb.pe G Z X g zx) (rc.pe G Z X g zx) hm) fun σ H Q h => by
    obtain ⟨ρ, tv, ts, s, h⟩ := h
    simp only [evE] at h
    refine ⟨ρ, tv, ts, s, h.bind.mono fun x hx v1 H1 s1 => ⟨x.2.2, _, _, s1, hx.bind.mono fun y hy v2 H2 s2 => ?_⟩⟩
    have hy := hy.bind
    cases ep : prim p1 [(x.1, .sh), (y.1, .sh)] with
    | none => rw [ep] at hy; exact hy.elim
    | some z =>
      rw [ep] at hy
      have hy : OutR _ noEx (if truth z.1 = true then _ else _) := hy
      obtain ⟨foot, own, o⟩ := s2.ok
      have hl1 : (σ ++ (tv ++ [some v1] ++ [some v2])).length = (y.2.2 ++ (ts ++ [Slot.vl x.2.1 x.1] ++ [Slot.vl y.2.1 y.1])).length := o.len
      have hl : (σ ++ tv).length = (y.2.2 ++ ts).length := by simp at hl1 ⊢; omega
      have gx : (y.2.2 ++ (ts ++ [Slot.vl x.2.1 x.1] ++ [Slot.vl y.2.1 y.1]))[(y.2.2 ++ ts).length]? = some (Slot.vl x.2.1 x.1) := by simp
      have gx' : (σ ++ (tv ++ [some v1] ++ [some v2]))[(y.2.2 ++ ts).length]? = some (some v1) := by rw [← hl]; simp
      have gy : (y.2.2 ++ (ts ++ [Slot.vl x.2.1 x.1] ++ [Slot.vl y.2.1 y.1]))[(y.2.2 ++ ts).length + 1]? = some (Slot.vl y.2.1 y.1) := getAt (y.2.2 ++ ts ++ [Slot.vl x.2.1 x.1]) _ [] (by simp) (by simp; omega)
      have gy' : (σ ++ (tv ++ [some v1] ++ [some v2]))[(y.2.2 ++ ts).length + 1]? = some (some v2) := getAt (σ ++ tv ++ [some v1]) _ [] (by simp) (by have := hl; simp at this ⊢; omega)
      obtain ⟨bb, eb⟩ := boolP_val h1 ep
      refine ⟨_, _, foot, own, [(x.1, .io), (y.1, .io)], z.1, z.2, o, ⟨o.arg0 gx gx', fun q => absurd rfl q, o.arg0 gy gy', fun q => absurd rfl q, trivial⟩, .inl (boolP_scalar h1), (prim_kinds h1).trans ep, fun vz H3 ok3 => ?_⟩
      obtain ⟨f3, w3, o3⟩ := ok3
      obtain ⟨vz', evz, rz, _⟩ := o3.last
      cases evz
      have evz : vz = .bl bb := by rw [eb] at rz; exact rz.bool_inv
      refine ⟨bb, evz, ?_⟩
      have s3 : Sta Z σ y.2.2 (tv ++ [some v1] ++ [some v2] ++ [some vz]) (ts ++ [Slot.vl x.2.1 x.1] ++ [Slot.vl y.2.1 y.1] ++ [Slot.vl z.2 z.1]) H3 := ⟨s2.len, f3, w3, by simpa using o3⟩
      have drop3 : ∀ {t1 t2 t3 : V} {u1 u2 u3 : Slot} {v : V} {k : Own} {d : D} {H' : Hp} {ρ' : Ev}, Ok Z (σ ++ (tv ++ [some t1] ++ [some t2] ++ [some v])) (ρ' ++ (ts ++ [u1] ++ [u2] ++ [.vl k d])) H' → Ok Z (σ ++ (tv ++ [some v])) (ρ' ++ (ts ++ [.vl k d])) H' := fun {t1 t2 t3 u1 u2 u3 v k d H' ρ'} ok => by
        have q1 : Ok Z ((σ ++ tv ++ [some t1]) ++ [some t2] ++ [some v]) ((ρ' ++ ts ++ [u1]) ++ [u2] ++ [.vl k d]) H' := by simpa using ok
        have q2 := q1.dropMid
        have q3 : Ok Z ((σ ++ tv) ++ [some t1] ++ [some v]) ((ρ' ++ ts) ++ [u1] ++ [.vl k d]) H' := by simpa using q2
        simpa using q3.dropMid
      rw [eb] at hy
      cases bb with
      | false =>
        have hy : ∀ v H', Sta Z σ y.2.2 (tv ++ [some v]) (ts ++ [.vl z.2 (.bool false)]) H' → Q v H' := hy
        refine hy _ H3 ⟨s2.len, ?_⟩
        have q := s3.ok
        rw [eb] at q
        have q := drop3 (t3 := v1) (u3 := .un) q
        rw [evz] at q
        exact q
      | true =>
        have hy : OutR (fun r => ∀ v H', Sta Z σ r.2.2 (tv ++ [some v]) (ts ++ [.vl r.2.1 r.1]) H' → Q v H') noEx ((evE G cc y.2.2).bind fun u => (optR (prim p2 [(y.1, .sh), (u.1, .sh)])).bind fun v => .ok (v.1, v.2, u.2.2)) := hy
        show tE G Z noEx cc σ H3 _
        refine ⟨y.2.2, _, _, s3, hy.bind.mono fun u hu v4 H4 s4 => ?_⟩
        have hu := hu.bind
        cases ep2 : prim p2 [(y.1, .sh), (u.1, .sh)] with
        | none => rw [ep2] at hu; exact hu.elim
        | some z2 =>
          rw [ep2] at hu
          have hu : ∀ v H', Sta Z σ u.2.2 (tv ++ [some v]) (ts ++ [.vl z2.2 z2.1]) H' → Q v H' := hu
          obtain ⟨f4, w4, o4⟩ := s4.ok
          have hl4 := o4.len
          have hl5 : (σ ++ tv).length = (u.2.2 ++ ts).length := by simp at hl4 ⊢; omega
          have gy : (u.2.2 ++ (ts ++ [Slot.vl x.2.1 x.1] ++ [Slot.vl y.2.1 y.1] ++ [Slot.vl z.2 z.1] ++ [Slot.vl u.2.1 u.1]))[(u.2.2 ++ ts).length + 1]? = some (Slot.vl y.2.1 y.1) := getAt (u.2.2 ++ ts ++ [Slot.vl x.2.1 x.1]) _ [Slot.vl z.2 z.1, Slot.vl u.2.1 u.1] (by simp) (by simp; omega)
          have gy' : (σ ++ (tv ++ [some v1] ++ [some v2] ++ [some vz] ++ [some v4]))[(u.2.2 ++ ts).length + 1]? = some (some v2) := getAt (σ ++ tv ++ [some v1]) _ [some vz, some v4] (by simp) (by have := hl5; simp at this ⊢; omega)
          have gu : (u.2.2 ++ (ts ++ [Slot.vl x.2.1 x.1] ++ [Slot.vl y.2.1 y.1] ++ [Slot.vl z.2 z.1] ++ [Slot.vl u.2.1 u.1]))[(u.2.2 ++ ts).length + 3]? = some (Slot.vl u.2.1 u.1) := getAt (u.2.2 ++ ts ++ [Slot.vl x.2.1 x.1, Slot.vl y.2.1 y.1, Slot.vl z.2 z.1]) _ [] (by simp) (by simp; omega)
          have gu' : (σ ++ (tv ++ [some v1] ++ [some v2] ++ [some vz] ++ [some v4]))[(u.2.2 ++ ts).length + 3]? = some (some v4) := getAt (σ ++ tv ++ [some v1, some v2, some vz]) _ [] (by simp) (by have := hl5; simp at this ⊢; omega)
          refine ⟨_, _, f4, w4, [(y.1, .io), (u.1, .io)], z2.1, z2.2, o4, ⟨o4.arg0 gy gy', fun q => absurd rfl q, o4.arg0 gu gu', fun q => absurd rfl q, trivial⟩, .inl (boolP_scalar h2), (prim_kinds h2).trans ep2, fun vr H5 ok5 => ?_⟩
          refine hu vr H5 ⟨s4.len, ?_⟩
          have q1 : Ok Z ((σ ++ tv ++ [some v1] ++ [some v2] ++ [some vz]) ++ [some v4] ++ [some vr]) ((u.2.2 ++ ts ++ [Slot.vl x.2.1 x.1] ++ [Slot.vl y.2.1 y.1] ++ [Slot.vl z.2 z.1]) ++ [Slot.vl u.2.1 u.1] ++ [.vl z2.2 z2.1]) H5 := by simpa using ok5
          have q2 := q1.dropMid
          have q3 : Ok Z ((σ ++ tv ++ [some v1] ++ [some v2]) ++ [some vz] ++ [some vr]) ((u.2.2 ++ ts ++ [Slot.vl x.2.1 x.1] ++ [Slot.vl y.2.1 y.1]) ++ [Slot.vl z.2 z.1] ++ [.vl z2.2 z2.1]) H5 := by simpa using q2
          have q4 := q3.dropMid
          exact drop3 (t3 := v1) (u3 := .un) (by simpa using q4)
  var := fun i h => by cases h
  pk := rfl
  sh := ⟨fun _ _ => rfl, fun _ _ => rfl, fun _ => rfl⟩
end
end TH
end
section
set_option Elab.async false
set_option linter.all false
set_option maxRecDepth 100000
namespace TH
open PySem PySem.Spec PyProof.Rows L2

section
variable {E : Ce} {e a b c0 : Expr} {c ca cb cc : C} {pos p apos : Pos} {G : Glob} {Z : Cf} {X : Cx} {σ : L2.St} {H : Hp}
/-- a changing method: the slot's thing, the arguments, the change -/
theorem mut_red {m : M} {i : Nat} {cs : List C} {Q : VK} (hc : ∀ c ∈ cs, valC c = true) (h : tE G Z noEx (.mut m i cs) σ H Q) :
    ∃ d0, (∃ d dks q, mutate m d dks = some q ∧ tyN d = tyN d0) ∧ tVar i σ H fun x H1 => Arg0 Z H1 x d0 ∧ argsT G Z noEx cs σ H1 fun vs H2 => vs.length = cs.length ∧ MutT Z m i x vs H2 Q := by
  obtain ⟨ρ, tv, ts, s, h⟩ := h
  simp only [evE] at h
  cases hb : getS ρ i with
  | un => simp [tyOf, hb] at h; exact h.elim
  | lk => simp [tyOf, hb] at h; exact h.elim
  | vl k0 d0 =>
    simp only [tyOf, hb] at h
    have h := (OutR.bind (r := Res.ok (tyN d0)) h)
    have h : OutR _ noEx ((evL G cs ρ).bind _) := h
    cases e1 : evL G cs ρ with
    | exc => rw [e1] at h; exact h.elim
    | stk => rw [e1] at h; exact h.elim
    | ok r =>
      rw [e1] at h
      have h : OutR (fun r => ∀ v H', Sta Z σ r.2.2 (tv ++ [some v]) (ts ++ [.vl r.2.1 r.1]) H' → Q v H') noEx (match getS r.2 i with
        | .vl .sh _ => .stk "a shared thing would be changed"
        | .vl k d => if r.1.all (fun x => x.2 != .io) && tyN d == tyN d0 then (optR (mutate m d r.1)).bind fun q => .ok (q.1, q.2.1, setS r.2 i (.vl (mutK k q.2.2.2) q.2.2.1)) else .stk "a peek is handed on"
        | _ => .stk "unbound") := h
      cases hg : getS r.2 i with
      | un => rw [hg] at h; exact h.elim
      | lk => rw [hg] at h; exact h.elim
      | vl k d =>
        rw [hg] at h
        have hk : k ≠ .sh := fun z => by subst z; exact h.elim
        have h : OutR (fun r => ∀ v H', Sta Z σ r.2.2 (tv ++ [some v]) (ts ++ [.vl r.2.1 r.1]) H' → Q v H') noEx (if r.1.all (fun x => x.2 != .io) && tyN d == tyN d0 then (optR (mutate m d r.1)).bind fun q => .ok (q.1, q.2.1, setS r.2 i (.vl (mutK k q.2.2.2) q.2.2.1)) else .stk "a peek is handed on") := by
          cases k <;> first | exact h | exact absurd rfl hk
        by_cases ht : (r.1.all (fun x => x.2 != .io) && tyN d == tyN d0) = true
        · rw [if_pos ht] at h
          have h := h.bind
          cases em : mutate m d r.1 with
          | none => rw [em] at h; exact h.elim
          | some q =>
            rw [em] at h
            have h : ∀ v H', Sta Z σ (setS r.2 i (.vl (mutK k q.2.2.2) q.2.2.1)) (tv ++ [some v]) (ts ++ [.vl q.2.1 q.1]) H' → Q v H' := h
            have hty : tyN d = tyN d0 := by
              have := (Bool.and_eq_true_iff.mp ht).2
              simpa using this
            obtain ⟨v, hv⟩ := s.val hb
            obtain ⟨f0, w0, o0⟩ := s.ok
            refine ⟨d0, ⟨d, r.1, q, em, hty⟩, v, hv, o0.arg0 (s.get hb) (by rw [List.getElem?_append_left (lt_of_get hv)]; exact hv), ?_⟩
            refine vals_run2 hc s e1 fun vs H2 hl s2 => ⟨by rw [hl, evL_len hc e1], ?_⟩
            refine ⟨σ ++ tv, r.2 ++ ts, k, d, r.1, q.1, q.2.1, q.2.2.1, q.2.2.2, by simpa [slotsOf] using s2.ok, hl, by rw [List.getElem?_append_left (lt_of_get hv)]; exact hv, by rw [List.getElem?_append_left (getS_lt hg)]; exact getS_at hg, hk, em, fun v H' ok => ?_⟩
            refine h v H' ⟨by unfold setS; simpa using s2.len, ?_⟩
            rw [List.set_append_left _ _ (getS_lt hg)] at ok
            simpa [setS] using ok
        · rw [if_neg ht] at h; exact h.elim
theorem few_ok {cpos : Pos} {e : Expr} {es : List Expr} {c : C} {cs : List C} (rl : RL E (e :: es) (c :: cs)) (hn : (e :: es).length < 20) (env : Env) : ((backTo cpos (starEach (e :: es) env)).all (fun x => !x.1) && (backToKw cpos (keywordEach [] env)).all (fun x => x.1.isSome)
      && decide ((e :: es).length + ([] : List Keyword).length + (if ([] : List Keyword).isEmpty then 0 else 1) < 30)) = true := by
  have h := rl.plain env cpos
  have h1 : (backTo cpos (starEach (e :: es) env)).all (fun x => !x.1) = true := by
    rw [List.all_eq_true]
    intro x hx
    rw [List.any_eq_false] at h
    simpa using h x hx
  rw [h1]
  have h2 : (e :: es).length + 0 + 0 < 30 := by omega
  show (true && true && decide ((e :: es).length + 0 + 0 < 30)) = true
  rw [decide_eq_true h2]; rfl
/-- x.append(e) -/
theorem R.append {o : Expr} {i : Nat} (ro : R E o (.var i)) (hbase : ∀ env w, attributeBase o "append" env w = w) (re : R E e c) (hv : valC c = true) (hl : (apos.endLine == pos.line) = true) : R E (.Call (.Attribute o "append" apos) [e] [] pos) (.mut .append i [c]) where
  pe := fun G Z X g zx => by
    have rl : RL E [e] [c] := .cons re .nil
    refine pe_imp (pe_bm PySem.F.plainAttrs_list PySem.F.slot_list_append PySem.F.type_list_append mt_append (ro.var i rfl G X g) (rl.paV g zx) (hbase _ _) (few_ok rl (by simp) _) hl (re.sh.star _ _) rfl) fun σ H Q h => ?_
    obtain ⟨d0, ⟨d, dks, q, em, ht⟩, h⟩ := mut_red (by intro c' hc'; simp at hc'; subst hc'; exact hv) h
    obtain ⟨x, hx, a0, h⟩ := h
    have hd0 : ∃ ds, d0 = .list ds := by
      cases d <;> simp [mutate] at em
      cases d0 <;> simp [tyN] at ht
      exact ⟨_, rfl⟩
    obtain ⟨ds, rfl⟩ := hd0
    obtain ⟨ad, vs, as, rfl, q, _⟩ := a0.list
    refine ⟨_, hx, .inl ⟨rfl, vs, by rw [← zx.K]; exact q⟩, argsT_mono (fun vs H1 q => mut_append q.2) h⟩
  var := fun i h => by cases h
  pk := rfl
  sh := ⟨fun _ _ => rfl, fun _ _ => rfl, fun _ => rfl⟩
/-- x[ix] = v, of a list -/
theorem RSt.seti {o ix v : Expr} {i : Nat} {cx cv : C} {tpos spos : Pos} (ro : R E o (.var i)) (rx : R E ix cx) (rv : R E v cv) (hs : ∀ l env, swapsWithSole [.Subscript o ix tpos] v l env = pure false) (hw : ∀ env, swappedStores [.Subscript o ix tpos] v env = pure none)
    (ha : ∀ env v, assign (.Subscript o ix tpos) env v = (do
      let ov ← holding [v] (eval o env)
      let iv ← holding [v, ov] (eval ix env)
      standAt tpos
      holding [v, ov, iv] (setItem ov iv v)
      release [v, ov, iv] [])) : RSt E (.Assign [.Subscript o ix tpos] v spos) (.seti i cx cv) where
  ps := fun G Z X fuel g zx => ps_imp (ps_asg (rv.pe G Z X g zx) (pg_sub (ro.var i rfl G X g) (rx.pe G Z X g zx) set_list (ha _)) (hs _ _) (hw _)) fun D σ H h => by
    obtain ⟨ρ, s, h⟩ := h
    simp only [evS] at h
    refine ⟨ρ, [], [], s, h.bind.mono fun r hr v1 H1 s1 => ?_⟩
    cases hb : bound r.2.2 i with
    | false => rw [hb] at hr; exact hr.elim
    | true =>
    rw [hb] at hr
    have hr := OutR.bind (r := evE G cx r.2.2) hr
    obtain ⟨x, hx⟩ : ∃ x, σ[i]? = some (some x) := by
      unfold bound at hb
      cases hg : getS r.2.2 i with
      | un => rw [hg] at hb; cases hb
      | lk => rw [hg] at hb; cases hb
      | vl k d => exact s1.val hg
    refine ⟨x, hx, r.2.2, _, _, s1, hr.mono fun q hr v2 H2 s2 => ?_⟩
    cases hg : getS q.2.2 i with
    | un => rw [hg] at hr; exact hr.elim
    | lk => rw [hg] at hr; exact hr.elim
    | vl k d =>
      rw [hg] at hr
      have hk : k ≠ .sh := fun z => by subst z; exact hr.elim
      have hr : OutR (flP Z D) noEx ((optR (mutate .setitem d [(q.1, q.2.1), (r.1, r.2.1)])).bind fun z => .ok (.next (setS q.2.2 i (.vl (mutK k z.2.2.2) z.2.2.1)))) := by
        cases k <;> first | exact hr | exact absurd rfl hk
      have hr := hr.bind
      cases em : mutate .setitem d [(q.1, q.2.1), (r.1, r.2.1)] with
      | none => rw [em] at hr; exact hr.elim
      | some z =>
        rw [em] at hr
        have hr : ∀ σ' H', Sta Z σ' (setS q.2.2 i (.vl (mutK k z.2.2.2) z.2.2.1)) [] [] H' → D.nx σ' H' := hr
        obtain ⟨ds, rfl⟩ : ∃ ds, d = .list ds := by
          cases d <;> first | exact ⟨_, rfl⟩ | (simp [mutate] at em)
        obtain ⟨n, en⟩ : ∃ n, q.1 = .int n := by
          cases hq : q.1 <;> first | exact ⟨_, rfl⟩ | (rw [hq] at em; simp [mutate] at em)
        rw [en] at em
        simp only [mutate] at em
        obtain ⟨f2, w2, o2⟩ := s2.ok
        have hl2 := o2.len
        have hl3 := s2.len
        have o3 : OkW Z ((σ ++ [some v1]) ++ [some v2]) ((q.2.2 ++ [Slot.vl r.2.1 r.1]) ++ [Slot.vl q.2.1 q.1]) H2 f2 w2 := by simpa using o2
        obtain ⟨v2', e2, r2, _⟩ := o3.last
        cases e2
        have ev2 : v2 = .int n := by rw [en] at r2; exact r2.int_inv
        cases ei : ixAt ds.length n with
        | none => rw [ei] at em; simp at em
        | some j =>
          rw [ei] at em
          simp only [Option.some.injEq] at em
          subst em
          refine mut_setL (n := i) (k := k) ⟨_, _, o3.pop⟩ hx (getS_at hg) hk ei ev2 fun H' ok => ?_
          refine hr σ H' ⟨by unfold setS; simpa using hl3, ?_⟩
          simpa [setS] using ok
end
end TH
end
section
set_option Elab.async false
set_option linter.all false
set_option maxRecDepth 100000
namespace TH
open PySem PySem.Spec PyProof.Rows L2

section
variable {E : Ce} {pos p p1 p2 : Pos}
/-- {} -/
theorem R.dnew : R E (.Dict [] [] pos) (.op .dct []) where
  pe := fun G Z X g zx => ⟨fun pins s σ H Q I h => by
    obtain ⟨ρ, tv, ts, st, h⟩ := h
    have h : ∀ v H', Sta Z σ ρ (tv ++ [some v]) (ts ++ [.vl .fr (.dict [])]) H' → Q v H' := by
      simp only [evE, evL, Res.bind] at h
      exact h
    obtain ⟨f, w, o⟩ := st.ok
    refine wpAny_Dict_empty ⟨.ref s.heap.objs.size, upd H s.heap.objs.size (.ext (isObj s.heap.objs.size (dO #[] 0))), I.laid (t' := s.toks) (fun _ _ q => Heap.get?_push_of_some _ q) (Nat.le_refl _) (ext_ok (Heap.get?_push_size _ rfl)), rfl, ?_⟩
    exact give_dict (d := .dict []) (k := .fr) (kvs := []) (as := []) o rfl .nil .nil .nil (Nat.zero_le _) (fun v H' ok => h v H' ⟨st.len, by simpa using ok⟩) I.fresh (Nat.ne_of_gt I.big)⟩
  var := fun i h => by cases h
  pk := rfl
  sh := ⟨fun _ _ => rfl, fun _ _ => rfl, fun _ => rfl⟩
/-- {a text: a number} -/
theorem R.dlit {x : Str} {i : Int} {j1 j2 : Nat} (hx : line x.length = true) (hh : hashable (.str x) = true) : R E (.Dict [some (.Constant (.str x) j1 p1)] [.Constant (.int i) j2 p2] pos) (.op .dct [.lit (.str x), .lit (.int i)]) where
  pe := fun G Z X g zx => ⟨fun pins s σ H Q I h => by
    obtain ⟨ρ, tv, ts, st, h⟩ := h
    have h : ∀ v H', Sta Z σ ρ (tv ++ [some v]) (ts ++ [.vl .fr (.dict [(.str x, .int i)])]) H' → Q v H' := by
      simp only [evE, evL, Res.bind] at h
      have e : prim .dct [(.str x, .fr), (.int i, .fr)] = some (.dict [(.str x, .int i)], .fr) := by
        have h2 : line 2 = true := by decide
        simp [prim, dctPairs, hh, h2, dMerge, dPut, dHas, dGet, mkK]
      rw [e] at h
      exact h
    obtain ⟨f, w, o⟩ := st.ok
    rw [arm_eval_Dict, zip_pairTrees _ _ _ _ rfl rfl, dictDisplay_pairs _ (by intro z; cases z) (by show 1 < 17; omega)]
    refine wpAny_bind (wpAny_standAt (wpAny_bind (subDictN (w := X.w) (Q := fun d s' => wpAny (model X.prog X.w) X.A (pure (Value.ref d)) (EP X pins σ Q) X.xe s') (by have := g.un; omega) (by show 1 ≤ 15; omega) ?_)))
    have I1 : Inv X pins σ (upd H s.heap.objs.size (.ext (isObj s.heap.objs.size (dO #[] 0)))) { s with heap := s.heap.push { cls := .type "dict", data := .dict #[] } } := I.laid (t' := s.toks) (fun _ _ q => Heap.get?_push_of_some _ q) (Nat.le_refl _) (ext_ok (Heap.get?_push_size _ rfl))
    refine pairTrees_cons_walk (thn ((pe_str (X := X)).run pins _ σ _ (fun v H' => v = .str x ∧ H' = upd H s.heap.objs.size (.ext (isObj s.heap.objs.size (dO #[] 0)))) I1 ⟨rfl, rfl⟩) fun u1 s1 ⟨v1, H1, I2, r1, e1, e2⟩ => ?_)
    subst e1 e2
    refine thn ((pe_int (X := X)).run pins s1 σ _ (fun v H' => v = .int i ∧ H' = upd H s.heap.objs.size (.ext (isObj s.heap.objs.size (dO #[] 0)))) I2 ⟨rfl, rfl⟩) fun u2 s2 ⟨v2, H2, I3, r2, e1, e2⟩ => ?_
    subst e1 e2
    refine pairTrees_nil_walk ?_
    have hg2 : s2.heap.get? s.heap.objs.size = some (dO #[] 0) := (I3.hok s.heap.objs.size _ upd_same).1
    have rk : DRep X.w X.K (upd H s.heap.objs.size (.ext (isObj s.heap.objs.size (dO #[] 0)))) true (.str x) (.str x) [] := .str x (of_decide_eq_true hx)
    refine ⟨[(nk (.str x), u1, u2)], ⟨rfl, rfl, ⟨DRep.nested I3 rk r1 rfl, hashable_depth hh⟩, trivial⟩, ⟨dO #[] 0, #[], 0, hg2, ⟨rfl, rfl, rfl⟩, rfl, rfl, fun z hz => by simp at hz, .nil⟩, fun h' tk hd' sb => ?_⟩
    obtain ⟨es, ep, ho, he⟩ := hd'.obj
    have I4 := d_write (t' := tk) (ob := .ext (isObj s.heap.objs.size (dO es ep))) I3 (by rw [upd_same]; trivial) sb ⟨_, ho⟩ (ext_ok ho)
    refine wpAny_pure ⟨.ref s.heap.objs.size, _, I4, rfl, ?_⟩
    have e1 : upd (upd H s.heap.objs.size (.ext (isObj s.heap.objs.size (dO #[] 0)))) s.heap.objs.size (.ext (isObj s.heap.objs.size (dO es ep))) = upd H s.heap.objs.size (.ext (isObj s.heap.objs.size (dO es ep))) := by
      funext z
      by_cases hz : z = s.heap.objs.size
      · subst hz; rw [upd_same, upd_same]
      · rw [upd_ne hz, upd_ne hz, upd_ne hz]
    rw [e1]
    have he2 : es.toList = [entN X.w (nk (.str x), u1, u2)] := he
    have hsz : es.size ≤ sizeLine := by
      have : es.size = 1 := by have := congrArg List.length he2; simpa using this
      rw [this, sizeLine_eq]; omega
    have dn : DEnts Z.w Z.K H true es.toList [(.str x, .int i)] ([] ++ []) := by
      rw [he2]
      exact .cons (k := .str x) (kv := .str x) (vv := .int i) r1 (.str x (of_decide_eq_true hx)) hh (by rw [zx.w]; rfl) r2 (.int i) .nil
    exact give_dict (d := .dict [(.str x, .int i)]) (k := .fr) (kvs := [(.str x, .int i)]) (as := []) o rfl dn .nil (by simp [Distinct]) hsz (fun v H' ok => h v H' ⟨st.len, by simpa using ok⟩) I.fresh (Nat.ne_of_gt I.big)⟩
  var := fun i h => by cases h
  pk := rfl
  sh := ⟨fun _ _ => rfl, fun _ _ => rfl, fun _ => rfl⟩
end
end TH
end
section
set_option Elab.async false
set_option linter.all false
set_option maxRecDepth 100000
namespace TH
open PySem PySem.Spec PyProof.Rows L2

section
variable {E : Ce} {e a b c0 : Expr} {c ca cb cc : C} {pos p : Pos}
/-- a is None, as a test -/
theorem RT.is {p : P} {n : Bool} {y : D} {k : Const} {j : Nat} {pos' : Pos} (hp : ∀ a : D × Own, prim p [a] = okA (.bool (notIf n (isD y a.1)))) (hk : (y = .none ∧ k = .none) ∨ ∃ c, y = .bool c ∧ k = .bool c) (ra : R E a ca) :
    RT E (.Compare a [if n then .IsNot else .Is] [.Constant k j pos'] pos) (.op p [argOf p ca]) where
  pt := fun G Z X g zx => by
    refine ⟨fun pins s σ H Q I h => ?_⟩
    have h := op1 (tr_val h)
    refine wpAny_isTrue_Compare1 (thn ((ra.arg p g zx).run pins s σ H _ I h) fun v s1 ⟨x, H1, I1, r1, q1⟩ => ?_) (by cases n <;> rfl)
    rcases hk with ⟨e1, e2⟩ | ⟨c, e1, e2⟩
    · subst e1 e2
      refine Constant_none ?_
      exact thn (pr_is (vy := .none) hp (.inl ⟨rfl, rfl⟩) zx I1 r1 q1) fun v s2 ⟨x, H2, I2, r2, d, q2, q3⟩ => truth_ok zx I2 r2 q2 fun tk => ⟨H2, I2.tok tk, q3⟩
    · subst e1 e2
      refine Constant_bool ?_
      exact thn (pr_is (vy := .bool c) hp (.inr ⟨c, rfl, rfl⟩) zx I1 r1 q1) fun v s2 ⟨x, H2, I2, r2, d, q2, q3⟩ => truth_ok zx I2 r2 q2 fun tk => ⟨H2, I2.tok tk, q3⟩

/-! the compiler, its results with proofs -/
abbrev RO (E : Ce) (e : Expr) := Option {c : C // R E e c}
abbrev TO (E : Ce) (e : Expr) := Option {c : C // RT E e c}
structure Rcs where
  e : (E : Ce) → (e : Expr) → RO E e
  t : (E : Ce) → (e : Expr) → TO E e
def ixIs (N : List Str) (i : Nat) (x : Str) : Bool := N[i]? == some x
theorem ixIs_ok {N : List Str} {i : Nat} {x : Str} (h : ixIs N i x = true) : N[i]? = some x := by simpa [ixIs] using h
def noDbg (x : Str) : Bool := !(x == ("__debug__" : Str)) && !(x == ("__classdict__" : Str))
theorem noDbg_ok {x : Str} (h : noDbg x = true) : (x == ("__debug__" : Str)) = false ∧ (x == ("__classdict__" : Str)) = false := by
  simpa [noDbg] using h
def cName (E : Ce) (x : Str) (pos : Pos) : RO E (.Name x pos) :=
  match ixOf E.N x with
  | some i => if h : (visB E.sc x && ixIs E.N i x && noDbg x) = true then some ⟨.var i, by
      simp only [Bool.and_eq_true] at h
      exact R.name h.1.1 (ixIs_ok h.1.2) (noDbg_ok h.2).1 (noDbg_ok h.2).2⟩ else none
  | none => match hc : E.sig.cons.lookup x with
    | some n => if h : (glB E.sc x && noDbg x) = true then some ⟨.con n, by
        simp only [Bool.and_eq_true] at h
        exact R.con hc h.1 (noDbg_ok h.2).1⟩ else none
    | none => none
def cConst (E : Ce) (k : Const) (j : Nat) (pos : Pos) : RO E (.Constant k j pos) := match k with
  | .none => some ⟨_, R.cnone⟩
  | .bool b => some ⟨_, R.cbool⟩
  | .int i => some ⟨_, R.cint⟩
  | .str x => if h : line x.length = true then some ⟨_, R.cstr h⟩ else none
  | _ => none
def cBin (E : Ce) (rc : Rcs) (a : Expr) (op : Operator) (b : Expr) (pos : Pos) : RO E (.BinOp a op b pos) :=
  match rc.e E a, rc.e E b with
  | some ⟨ca, ra⟩, some ⟨cb, rb⟩ => match op with
    | .Add => some ⟨_, R.bin ok_add ra rb⟩
    | .Sub => some ⟨_, R.bin ok_sub ra rb⟩
    | .Mult => some ⟨_, R.bin ok_mul ra rb⟩
    | .FloorDiv => some ⟨_, R.bin ok_fdiv ra rb⟩
    | .Mod => some ⟨_, R.bin ok_mod ra rb⟩
    | .Pow => some ⟨_, R.bin ok_pow ra rb⟩
    | _ => none
  | _, _ => none
/-- comparisons -/
structure CmpI (op : CmpOp) where
  p : P
  hp : boolP p = true
  ok : OpOk (compareOp op) p
def cmpI : (op : CmpOp) → Option (CmpI op)
  | .Eq => some ⟨.eq, rfl, ok_eq⟩
  | .NotEq => some ⟨.ne, rfl, ok_ne⟩
  | .Lt => some ⟨.lt, rfl, ok_lt⟩
  | .LtE => some ⟨.le, rfl, ok_le⟩
  | .Gt => some ⟨.gt, rfl, ok_gt⟩
  | .GtE => some ⟨.ge, rfl, ok_ge⟩
  | .In => some ⟨.isin, rfl, ok_in⟩
  | .NotIn => some ⟨.notin, rfl, ok_notin⟩
  | _ => none
def cCmp (E : Ce) (rc : Rcs) (a : Expr) (op : CmpOp) (b : Expr) (pos : Pos) : RO E (.Compare a [op] [b] pos) :=
  match op, b with
  | .Is, .Constant .none _ _ => match rc.e E a with | some ⟨ca, ra⟩ => some ⟨_, R.is (n := false) (p := .isNone) (y := .none) (fun a => by rfl) (.inl ⟨rfl, rfl⟩) ra⟩ | none => none
  | .IsNot, .Constant .none _ _ => match rc.e E a with | some ⟨ca, ra⟩ => some ⟨_, R.is (n := true) (p := .notNone) (y := .none) (fun a => by rfl) (.inl ⟨rfl, rfl⟩) ra⟩ | none => none
  | .Is, .Constant (.bool true) _ _ => match rc.e E a with | some ⟨ca, ra⟩ => some ⟨_, R.is (n := false) (p := .isTrue) (y := .bool true) (fun a => by rfl) (.inr ⟨_, rfl, rfl⟩) ra⟩ | none => none
  | .IsNot, .Constant (.bool true) _ _ => match rc.e E a with | some ⟨ca, ra⟩ => some ⟨_, R.is (n := true) (p := .notTrue) (y := .bool true) (fun a => by rfl) (.inr ⟨_, rfl, rfl⟩) ra⟩ | none => none
  | .Is, .Constant (.bool false) _ _ => match rc.e E a with | some ⟨ca, ra⟩ => some ⟨_, R.is (n := false) (p := .isFalse) (y := .bool false) (fun a => by rfl) (.inr ⟨_, rfl, rfl⟩) ra⟩ | none => none
  | op, b => match cmpI op, rc.e E a, rc.e E b with
    | some ⟨p, _, ok⟩, some ⟨ca, ra⟩, some ⟨cb, rb⟩ => some ⟨_, R.cmp ok ra rb⟩
    | _, _, _ => none
def tCmp (E : Ce) (rc : Rcs) (a : Expr) (op : CmpOp) (b : Expr) (pos : Pos) : TO E (.Compare a [op] [b] pos) :=
  match op, b with
  | .Is, .Constant .none _ _ => match rc.e E a with | some ⟨ca, ra⟩ => some ⟨_, RT.is (n := false) (p := .isNone) (y := .none) (fun a => by rfl) (.inl ⟨rfl, rfl⟩) ra⟩ | none => none
  | .IsNot, .Constant .none _ _ => match rc.e E a with | some ⟨ca, ra⟩ => some ⟨_, RT.is (n := true) (p := .notNone) (y := .none) (fun a => by rfl) (.inl ⟨rfl, rfl⟩) ra⟩ | none => none
  | .Is, .Constant (.bool true) _ _ => match rc.e E a with | some ⟨ca, ra⟩ => some ⟨_, RT.is (n := false) (p := .isTrue) (y := .bool true) (fun a => by rfl) (.inr ⟨_, rfl, rfl⟩) ra⟩ | none => none
  | .IsNot, .Constant (.bool true) _ _ => match rc.e E a with | some ⟨ca, ra⟩ => some ⟨_, RT.is (n := true) (p := .notTrue) (y := .bool true) (fun a => by rfl) (.inr ⟨_, rfl, rfl⟩) ra⟩ | none => none
  | .Is, .Constant (.bool false) _ _ => match rc.e E a with | some ⟨ca, ra⟩ => some ⟨_, RT.is (n := false) (p := .isFalse) (y := .bool false) (fun a => by rfl) (.inr ⟨_, rfl, rfl⟩) ra⟩ | none => none
  | op, b => match cmpI op, rc.e E a, rc.e E b with
    | some ⟨p, hp, ok⟩, some ⟨ca, ra⟩, some ⟨cb, rb⟩ => some ⟨_, RT.cmp hp ok ra rb⟩
    | _, _, _ => none
def cChain (E : Ce) (rc : Rcs) (a : Expr) (op op' : CmpOp) (b c : Expr) (pos : Pos) : RO E (.Compare a [op, op'] [b, c] pos) :=
  match cmpI op, cmpI op', rc.e E a, rc.e E b, rc.e E c with
  | some ⟨p1, h1, o1⟩, some ⟨p2, h2, o2⟩, some ⟨ca, ra⟩, some ⟨cb, rb⟩, some ⟨cc, rcc⟩ => if h : lastMarks [op, op'] [b, c] = false then some ⟨_, R.chain h1 h2 o1 o2 ra rb rcc h⟩ else none
  | _, _, _, _, _ => none
def cList (E : Ce) (rc : Rcs) : (es : List Expr) → Option {cs : List C // RL E es cs}
  | [] => some ⟨_, .nil⟩
  | e :: es => match rc.e E e, cList E rc es with
    | some ⟨c, r⟩, some ⟨cs, rs⟩ => some ⟨_, .cons r rs⟩
    | _, _ => none
def cKws (E : Ce) (rc : Rcs) : (ks : List Keyword) → Option {q : List Str × List C // RK E ks q.1 q.2}
  | [] => some ⟨([], []), .nil⟩
  | ⟨some nm, e, _⟩ :: ks => match rc.e E e, cKws E rc ks with
    | some ⟨c, r⟩, some ⟨q, rs⟩ => some ⟨(nm :: q.1, c :: q.2), .cons r rs⟩
    | _, _ => none
  | _ => none
/-- and, or of values -/
def cBoolV (E : Ce) (rc : Rcs) (op : BoolOp) (pos : Pos) : (es : List Expr) → Option {c : C // RV E (.BoolOp op es pos) c}
  | [] => none
  | [a] => match rc.e E a with | some ⟨_, r⟩ => some ⟨_, RV.one r⟩ | none => none
  | a :: b :: rest => match op, rc.e E a, cBoolV E rc op pos (b :: rest) with
    | .And, some ⟨_, r⟩, some ⟨_, rs⟩ => some ⟨_, R.and r rs⟩
    | .Or, some ⟨_, r⟩, some ⟨_, rs⟩ => some ⟨_, R.or r rs⟩
    | _, _, _ => none
def noVar : C → Bool
  | .var _ => false
  | _ => true
def cBool (E : Ce) (rc : Rcs) (op : BoolOp) (es : List Expr) (pos : Pos) : RO E (.BoolOp op es pos) :=
  match cBoolV E rc op pos es with
  | some ⟨c, r⟩ => if h : (noVar c && (peekOf c).isNone) = true then some ⟨c, by
      simp only [Bool.and_eq_true] at h
      exact R.v r (fun i e => by subst e; simp [noVar] at h) (by simpa using h.2)⟩ else none
  | none => none
def tBoolW (E : Ce) (rc : Rcs) (op : BoolOp) (pos : Pos) : (es : List Expr) → Option {c : C // RW E (.BoolOp op es pos) c}
  | [] => none
  | [a] => match op, rc.t E a with
    | .And, some ⟨_, r⟩ => some ⟨_, RW.and1 r⟩
    | .Or, some ⟨_, r⟩ => some ⟨_, RW.or1 r⟩
    | _, _ => none
  | a :: b :: rest => match op, rc.t E a, tBoolW E rc op pos (b :: rest) with
    | .And, some ⟨_, r⟩, some ⟨_, rs⟩ => some ⟨_, RW.and r rs⟩
    | .Or, some ⟨_, r⟩, some ⟨_, rs⟩ => some ⟨_, RW.or r rs⟩
    | _, _, _ => none
end
end TH
end
section
set_option Elab.async false
set_option linter.all false
set_option maxRecDepth 100000
namespace TH
open PySem PySem.Spec PyProof.Rows L2

/-! built-ins by name -/
structure B1 (x : Str) where
  pr : P
  ok : ∀ {E : Ce} {e : Expr} {c : C} {p pos : Pos}, E.sig.funs.lookup x = none → glB E.sc x = true → R E e c → R E (.Call (.Name x p) [e] [] pos) (.op pr [argOf pr c])
structure B2 (x : Str) where
  pr : P
  ok : ∀ {E : Ce} {e e2 : Expr} {c c2 : C} {p pos : Pos}, E.sig.funs.lookup x = none → glB E.sc x = true → R E e c → R E e2 c2 → R E (.Call (.Name x p) [e, e2] [] pos) (.op pr [argOf pr c, argOf pr c2])
def b1_len : B1 "len" := ⟨.len, fun hf hg r => R.fn (id := "len") (r := fun Z X xs H Q => ZX Z X ∧ PrimT Z .len xs H Q) (by decide) hf hg (by rfl) (by decide) (by decide) (fun G Z X g zx => pr_len) (fun G Z X g zx vs H Q q => ⟨zx, q⟩) (.cons r .nil)⟩
def b1_repr : B1 "repr" := ⟨.repr, fun hf hg r => R.fn (id := "repr") (r := fun Z X xs H Q => ZX Z X ∧ PrimT Z .repr xs H Q) (by decide) hf hg (by rfl) (by decide) (by decide) (fun G Z X g zx => pr_repr g.gd g.sys g.un) (fun G Z X g zx vs H Q q => ⟨zx, q⟩) (.cons r .nil)⟩
def b1_abs : B1 "abs" := ⟨.abs, fun hf hg r => R.fn (id := "abs") (r := fun Z X xs H Q => PrimT Z .abs xs H Q) (by decide) hf hg (by rfl) (by decide) (by decide) (fun G Z X g zx => pr_abs) (fun G Z X g zx vs H Q q => q) (.cons r .nil)⟩
def b1_sum : B1 "sum" := ⟨.sum, fun hf hg r => R.fn (id := "sum") (r := fun Z X xs H Q => ZX Z X ∧ PrimT Z .sum xs H Q) (by decide) hf hg (by rfl) (by decide) (by decide) (fun G Z X g zx => pr_sum g.calm) (fun G Z X g zx vs H Q q => ⟨zx, q⟩) (.cons r .nil)⟩
def b1_all : B1 "all" := ⟨.all, fun hf hg r => R.fn (id := "all") (r := fun Z X xs H Q => ZX Z X ∧ PrimT Z .all xs H Q) (by decide) hf hg (by rfl) (by decide) (by decide) (fun G Z X g zx => pr_all g.calm) (fun G Z X g zx vs H Q q => ⟨zx, q⟩) (.cons r .nil)⟩
def b1_any : B1 "any" := ⟨.any, fun hf hg r => R.fn (id := "any") (r := fun Z X xs H Q => ZX Z X ∧ PrimT Z .any xs H Q) (by decide) hf hg (by rfl) (by decide) (by decide) (fun G Z X g zx => pr_any g.calm) (fun G Z X g zx vs H Q q => ⟨zx, q⟩) (.cons r .nil)⟩
def b1_sorted : B1 "sorted" := ⟨.sorted, fun hf hg r => R.fn (id := "sorted") (r := fun Z X xs H Q => ZX Z X ∧ PrimT Z .sorted xs H Q) (by decide) hf hg (by rfl) (by decide) (by decide) (fun G Z X g zx => pr_sorted g.un) (fun G Z X g zx vs H Q q => ⟨zx, q⟩) (.cons r .nil)⟩
def b1_str : B1 "str" := ⟨.str, fun hf hg r => R.ty (T := "str") (r := fun Z X xs H Q => PrimT Z .str xs H Q) (by decide) hf hg (by rfl) (by decide) (by decide) (fun G Z X g zx => pr_str) (fun G Z X g zx vs H Q q => q) (.cons r .nil)⟩
def b1_int : B1 "int" := ⟨.int, fun hf hg r => R.ty (T := "int") (r := fun Z X xs H Q => PrimT Z .int xs H Q) (by decide) hf hg (by rfl) (by decide) (by decide) (fun G Z X g zx => pr_int) (fun G Z X g zx vs H Q q => q) (.cons r .nil)⟩
def b1_list : B1 "list" := ⟨.list, fun hf hg r => R.ty (T := "list") (r := fun Z X xs H Q => ZX Z X ∧ X.A.handled = none ∧ PrimT Z .list xs H Q) (by decide) hf hg (by rfl) (by decide) (by decide) (fun G Z X g zx => pr_list) (fun G Z X g zx vs H Q q => ⟨zx, g.hh, q⟩) (.cons r .nil)⟩
def b1_tuple : B1 "tuple" := ⟨.tuple, fun hf hg r => R.ty (T := "tuple") (r := fun Z X xs H Q => ZX Z X ∧ PrimT Z .tuple xs H Q) (by decide) hf hg (by rfl) (by decide) (by decide) (fun G Z X g zx => pr_tuple) (fun G Z X g zx vs H Q q => ⟨zx, q⟩) (.cons r .nil)⟩
def b1_dict : B1 "dict" := ⟨.dict, fun hf hg r => R.ty (T := "dict") (r := fun Z X xs H Q => ZX Z X ∧ X.A.handled = none ∧ PrimT Z .dict xs H Q) (by decide) hf hg (by rfl) (by decide) (by decide) (fun G Z X g zx => pr_dict g.un) (fun G Z X g zx vs H Q q => ⟨zx, g.hh, q⟩) (.cons r .nil)⟩
def b2_max : B2 "max" := ⟨.max2, fun hf hg r r2 => R.fn (id := "max") (r := fun Z X xs H Q => PrimT Z .max2 xs H Q) (by decide) hf hg (by rfl) (by decide) (by decide) (fun G Z X g zx => pr_max2 g.calm) (fun G Z X g zx vs H Q q => q) (.cons r (.cons r2 .nil))⟩
def b2_min : B2 "min" := ⟨.min2, fun hf hg r r2 => R.fn (id := "min") (r := fun Z X xs H Q => PrimT Z .min2 xs H Q) (by decide) hf hg (by rfl) (by decide) (by decide) (fun G Z X g zx => pr_min2 g.calm) (fun G Z X g zx vs H Q q => q) (.cons r (.cons r2 .nil))⟩
def b1 (x : Str) : Option (B1 x) :=
  if h : x = "len" then some ⟨b1_len.pr, by subst h; exact b1_len.ok⟩
  else if h : x = "repr" then some ⟨b1_repr.pr, by subst h; exact b1_repr.ok⟩
  else if h : x = "abs" then some ⟨b1_abs.pr, by subst h; exact b1_abs.ok⟩
  else if h : x = "sum" then some ⟨b1_sum.pr, by subst h; exact b1_sum.ok⟩
  else if h : x = "all" then some ⟨b1_all.pr, by subst h; exact b1_all.ok⟩
  else if h : x = "any" then some ⟨b1_any.pr, by subst h; exact b1_any.ok⟩
  else if h : x = "sorted" then some ⟨b1_sorted.pr, by subst h; exact b1_sorted.ok⟩
  else if h : x = "str" then some ⟨b1_str.pr, by subst h; exact b1_str.ok⟩
  else if h : x = "int" then some ⟨b1_int.pr, by subst h; exact b1_int.ok⟩
  else if h : x = "list" then some ⟨b1_list.pr, by subst h; exact b1_list.ok⟩
  else if h : x = "tuple" then some ⟨b1_tuple.pr, by subst h; exact b1_tuple.ok⟩
  else if h : x = "dict" then some ⟨b1_dict.pr, by subst h; exact b1_dict.ok⟩
  else none
def b2 (x : Str) : Option (B2 x) :=
  if h : x = "max" then some ⟨b2_max.pr, by subst h; exact b2_max.ok⟩
  else if h : x = "min" then some ⟨b2_min.pr, by subst h; exact b2_min.ok⟩
  else none
structure TyI (T : Str) where
  t : String
  ht : t ∈ tyNames
  hT : T ∈ bltAll
  hv : bootBuiltins T = some (.type t)
  hn : T ≠ "__name__"
  hd : (T == ("__debug__" : Str)) = false
def tyI (T : Str) : Option (TyI T) :=
  if h : T = "int" then some ⟨"int", by decide, by subst h; decide, by subst h; rfl, by subst h; decide, by subst h; decide⟩
  else if h : T = "bool" then some ⟨"bool", by decide, by subst h; decide, by subst h; rfl, by subst h; decide, by subst h; decide⟩
  else if h : T = "str" then some ⟨"str", by decide, by subst h; decide, by subst h; rfl, by subst h; decide, by subst h; decide⟩
  else if h : T = "list" then some ⟨"list", by decide, by subst h; decide, by subst h; rfl, by subst h; decide, by subst h; decide⟩
  else if h : T = "tuple" then some ⟨"tuple", by decide, by subst h; decide, by subst h; rfl, by subst h; decide, by subst h; decide⟩
  else if h : T = "dict" then some ⟨"dict", by decide, by subst h; decide, by subst h; rfl, by subst h; decide, by subst h; decide⟩
  else none
section
variable {E : Ce}
def free? (E : Ce) (x : Str) : Bool := (E.sig.funs.lookup x).isNone && glB E.sc x
theorem free_ok {x : Str} (h : free? E x = true) : E.sig.funs.lookup x = none ∧ glB E.sc x = true := by
  simpa [free?] using h
def cBlt (E : Ce) (rc : Rcs) (f : Str) (p : Pos) (es : List Expr) (pos : Pos) : RO E (.Call (.Name f p) es [] pos) :=
  if h : free? E f = true then match es with
    | [a] => match b1 f, rc.e E a with
      | some b, some ⟨c, r⟩ => some ⟨_, b.ok (free_ok h).1 (free_ok h).2 r⟩
      | _, _ => none
    | [a, b] => if hi : f = "isinstance" then match b with
        | .Name T p2 => match tyI T, rc.e E a with
          | some ⟨t, ht, hT, hv, hn, hd⟩, some ⟨c, r⟩ => if h2 : free? E T = true then some ⟨.op (.isi t) [argOf (.isi t) c], by
              subst hi
              exact R.isi (x := "isinstance") ht (by decide) (free_ok h).1 (free_ok h).2 hT (free_ok h2).1 (free_ok h2).2 hv hn hd r⟩ else none
          | _, _ => none
        | _ => none
      else match b2 f, rc.e E a, rc.e E b with
      | some bb, some ⟨c, r⟩, some ⟨c2, r2⟩ => some ⟨_, bb.ok (free_ok h).1 (free_ok h).2 r r2⟩
      | _, _, _ => none
    | _ => none
  else none
/-! calls of the module's own -/
def cOwn (E : Ce) (rc : Rcs) (f : Str) (p : Pos) (es : List Expr) (kws : List Keyword) (pos : Pos) (fn : String) (ps : List Str) (ms : List Bool) (hx : E.sig.funs.lookup f = some (fn, ps, ms)) : RO E (.Call (.Name f p) es kws pos) :=
  match ms with
  | true :: ms' => match es, kws with
    | e0 :: es', [] => match rc.e E e0, cList E rc es' with
      | some ⟨c0, r0⟩, some ⟨cs, rl⟩ => if h : (glB E.sc f && noDbg f && cs.length + 1 == ps.length && ms' == List.replicate cs.length false && cs.all valC) = true then
          match c0, r0 with
          | .var i, r0 => some ⟨_, by
              simp only [Bool.and_eq_true, beq_iff_eq, List.all_eq_true] at h
              exact R.callI hx h.1.1.1.1 (noDbg_ok h.1.1.1.2).1 r0 rl h.1.1.2 (by rw [h.1.2]) h.2⟩
          | c0, r0 => some ⟨_, by
              simp only [Bool.and_eq_true, beq_iff_eq, List.all_eq_true] at h
              exact R.callT hx h.1.1.1.1 (noDbg_ok h.1.1.1.2).1 r0 rl h.1.1.2 (by rw [h.1.2]) h.2⟩
        else none
      | _, _ => none
    | _, _ => none
  | ms => match cList E rc es, cKws E rc kws with
    | some ⟨cs, rl⟩, some ⟨(ks, ck), rk⟩ => match hpm : permOf ps ks cs.length with
      | some pm => if h : (glB E.sc f && noDbg f && decide ks.Nodup && ks.all (fun x => decide (x ∈ ps.drop cs.length)) && cs.length + ks.length == ps.length && ms == List.replicate pm.length false && (cs ++ ck).all valC) = true then some ⟨.call fn (cs ++ ck) pm, by
          simp only [Bool.and_eq_true, beq_iff_eq, List.all_eq_true, decide_eq_true_eq] at h
          exact R.callV hx h.1.1.1.1.1.1 (noDbg_ok h.1.1.1.1.1.2).1 rl rk hpm h.1.1.1.1.2 h.1.1.1.2 h.1.1.2 h.1.2 h.2⟩ else none
      | none => none
    | _, _ => none
def cCall (E : Ce) (rc : Rcs) (f : Str) (p : Pos) (es : List Expr) (kws : List Keyword) (pos : Pos) : RO E (.Call (.Name f p) es kws pos) :=
  match hx : E.sig.funs.lookup f with
  | some (fn, ps, ms) => cOwn E rc f p es kws pos fn ps ms hx
  | none => match kws with
    | [] => cBlt E rc f p es pos
    | _ => none
/-! subscripts, methods -/
def ixOk : Expr → Bool
  | .Constant .. | .Name .. | .BinOp .. | .UnaryOp .. | .Call .. | .Subscript .. | .Tuple .. => true
  | _ => false
theorem ixOk_ok {b : Expr} (h : ixOk b = true) : PlainIx b := by
  cases b <;> first | (intro o i; rfl) | cases h
def baseOk : Expr → Bool
  | .Name .. | .Subscript .. => true
  | _ => false
theorem baseOk_ok {o : Expr} (h : baseOk o = true) {m : Str} : ∀ env w, attributeBase o m env w = w := by
  cases o <;> first | (intro env w; rfl) | cases h
def cSub (E : Ce) (rc : Rcs) (a b : Expr) (pos : Pos) : RO E (.Subscript a b pos) :=
  match rc.e E a with
  | none => none
  | some ⟨ca, ra⟩ => match b with
    | .Slice none none (some (.UnaryOp .USub (.Constant (.int 1) k p1) p2)) p3 => some ⟨_, R.rev ra⟩
    | .Slice none none none p2 => some ⟨_, R.slc ra⟩
    | .Slice (some lo) none none p2 => match rc.e E lo with | some ⟨_, rl⟩ => some ⟨_, R.slcLo ra rl⟩ | none => none
    | .Slice none (some hi) none p2 => match rc.e E hi with | some ⟨_, rh⟩ => some ⟨_, R.slcHi ra rh⟩ | none => none
    | .Slice (some lo) (some hi) none p2 => match rc.e E lo, rc.e E hi with | some ⟨_, rl⟩, some ⟨_, rh⟩ => some ⟨_, R.slcB ra rl rh⟩ | _, _ => none
    | b => if h : ixOk b = true then match rc.e E b with | some ⟨_, rb⟩ => some ⟨_, R.ix ra rb (ixOk_ok h)⟩ | none => none else none
def cMeth (E : Ce) (rc : Rcs) (o : Expr) (m : Str) (apos : Pos) (es : List Expr) (pos : Pos) : RO E (.Call (.Attribute o m apos) es [] pos) :=
  if hl : (apos.endLine == pos.line) = true then match es with
    | [] => if hm : m = "bit_length" then if hb : baseOk o = true then match rc.e E o with
          | some ⟨c, r⟩ => some ⟨.op .bits [argOf .bits c], by subst hm; exact R.bits r (baseOk_ok hb) hl⟩
          | none => none
        else none else none
    | [a] => if hm : m = "append" then if hb : baseOk o = true then match rc.e E o, rc.e E a with
          | some ⟨.var i, ro⟩, some ⟨c, r⟩ => if hv : valC c = true then some ⟨.mut .append i [c], by subst hm; exact R.append ro (baseOk_ok hb) r hv hl⟩ else none
          | _, _ => none
        else none
      else if hm : m = "join" then match o with
        | .Constant (.str z) j cpos => if hz : line z.length = true then match rc.e E a with
            | some ⟨c, r⟩ => some ⟨.op .join [.lit (.str z), argOf .join c], by subst hm; exact R.join hz r hl⟩
            | none => none
          else none
        | _ => none
      else none
    | _ => none
  else none
end
end TH
end
section
set_option Elab.async false
set_option linter.all false
set_option maxRecDepth 100000
namespace TH
open PySem PySem.Spec PyProof.Rows L2

/-! targets -/
def cTgtN (E : Ce) (x : Str) (pos : Pos) : Option {t : T // RG E (.Name x pos) t} :=
  match ixOf E.N x with
  | some i => if h : (locB E.sc x && ixIs E.N i x && (E.fn x || kindIs .local (E.sc.names.lookup x))) = true then some ⟨.nm i, by
      rw [Bool.and_eq_true, Bool.and_eq_true] at h
      exact RG.name h.1.1 (ixIs_ok h.1.2) h.2⟩ else none
  | none => none
mutual
def cTgt (E : Ce) : Nat → (tg : Expr) → Option {t : T // RG E tg t}
  | 0, _ => none
  | n + 1, .Name x pos => cTgtN E x pos
  | n + 1, .Tuple es k pos => match cTgts E n es with
    | some ⟨_, rs⟩ => some ⟨_, RG.tup rs⟩
    | none => none
  | _, _ => none
def cTgts (E : Ce) : Nat → (es : List Expr) → Option {ts : List T // RGs E es ts}
  | _, [] => some ⟨_, .nil⟩
  | 0, _ => none
  | n + 1, e :: es => match cTgt E n e, cTgts E n es with
    | some ⟨_, r⟩, some ⟨_, rs⟩ => some ⟨_, .cons r rs⟩
    | _, _ => none
end
/-! blocks -/
def ownP (N : List Str) (scope : Scope) : List (Str × Nat) := scope.names.filterMap fun y => if kindIs .local (some y.2) || kindIs .cell (some y.2) then (ixOf N y.1).map fun i => (y.1, i) else none
def isFun : ScopeKind → Bool
  | .function => true
  | _ => false
def blkB (N : List Str) (sc scope : Scope) (own : List (Str × Nat)) : Bool :=
  isFun scope.kind && scope.names.all (fun y => kindIs y.2 (scope.names.lookup y.1)) && own.all (fun p => ixIs N p.2 p.1) &&
  scope.names.all (fun y => !kindIs .free (some y.2) || kindIs .cell (sc.names.lookup y.1) || kindIs .free (sc.names.lookup y.1)) &&
  scope.names.all (fun y => !(kindIs .local (some y.2) || kindIs .cell (some y.2)) || decide (y.1 ∈ own.map (·.1)) || decide (y.1 ∉ N))
theorem kindIs_self {k : NameKind} (h : k = .local ∨ k = .cell ∨ k = .free ∨ k = .globalImplicit) : kindIs k (some k) = true := by
  rcases h with rfl | rfl | rfl | rfl <;> rfl
theorem isFun_ok {k : ScopeKind} (h : isFun k = true) : k = .function := by cases k <;> first | rfl | cases h
theorem blk_ok {N : List Str} {sc scope : Scope} {own : List (Str × Nat)} (h : blkB N sc scope own = true) : BlkOk N sc scope own := by
  unfold blkB at h
  simp only [Bool.and_eq_true, List.all_eq_true] at h
  obtain ⟨⟨⟨⟨h1, h2⟩, h3⟩, h4⟩, h5⟩ := h
  refine ⟨isFun_ok h1, fun y hy => kindIs_eq (h2 y hy), fun p hp => ixIs_ok (h3 p hp), fun y hy e => ?_, fun y hy e => ?_⟩
  · have := h4 y hy
    rw [e] at this
    simp only [Bool.or_eq_true, Bool.not_eq_true'] at this
    rcases this with (z | z) | z
    · cases z
    · exact .inl (kindIs_eq z)
    · exact .inr (kindIs_eq z)
  · have := h5 y hy
    simp only [Bool.or_eq_true, Bool.not_eq_true', Bool.or_eq_false_iff, decide_eq_true_eq] at this
    rcases this with (z | z) | z
    · rcases e with e | e
      · rw [e] at z; exact absurd z.1 (by decide)
      · rw [e] at z; exact absurd z.2 (by decide)
    · exact .inl z
    · exact .inr z
/-! sources -/
section
variable {E : Ce}
def cSrc (E : Ce) (rc : Rcs) (tg : Expr) (body : Nat → Bool) : (x : Expr) → Option {c : C // RS E tg x c} := fun x => match x with
  | .Call (.Name f p) [a] [] pos => if hf : f = "range" then if h : free? E "range" = true then match rc.e E a with
        | some ⟨c, r⟩ => some ⟨.sq .range1 [c], by subst hf; exact RS.range1 (free_ok h).1 (free_ok h).2 r⟩
        | none => none
      else none
    else match rc.e E (.Call (.Name f p) [a] [] pos) with
    | some ⟨c, r⟩ => if hv : isVal c = true then some ⟨c, RS.val r hv⟩ else none
    | none => none
  | .Call (.Name f p) [a, b] [] pos => if hf : f = "range" then if h : free? E "range" = true then match rc.e E a, rc.e E b with
        | some ⟨c, r⟩, some ⟨c2, r2⟩ => some ⟨.sq .range2 [c, c2], by subst hf; exact RS.range2 (free_ok h).1 (free_ok h).2 r r2⟩
        | _, _ => none
      else none
    else if hz : f = "zip" then if h : free? E "zip" = true then match tg, rc.e E a, rc.e E b with
        | .Tuple elts kk tpos, some ⟨c, r⟩, some ⟨c2, r2⟩ => some ⟨.sq .zip [c, c2], by subst hz; exact RS.zip (free_ok h).1 (free_ok h).2 r r2⟩
        | _, _, _ => none
      else none
    else match rc.e E (.Call (.Name f p) [a, b] [] pos) with
    | some ⟨c, r⟩ => if hv : isVal c = true then some ⟨c, RS.val r hv⟩ else none
    | none => none
  | x => match rc.e E x with
    | some ⟨.var i, r⟩ => if body i then (if hv : isVal (.var i) = true then some ⟨.var i, RS.val r hv⟩ else none) else some ⟨.pt i, RS.pt r⟩
    | some ⟨c, r⟩ => if hv : isVal c = true then some ⟨c, RS.val r hv⟩ else none
    | none => none
/-- a list comprehension's parts -/
structure LcI (E : Ce) (elt tg it : Expr) (ifs : List Expr) (scope : Scope) where
  cs : C
  t : T
  own : List (Str × Nat)
  fs : List C
  ct : C
  rs : RS E tg it cs
  ok : BlkOk E.N E.sc scope own
  rg : RG (blkE E scope) tg t
  rt : RTs (blkE E scope) ifs fs
  re : R (blkE E scope) elt ct
  htg : ∀ i ∈ ixT t, i ∈ own.map (·.2)
def cIfs (E : Ce) (rc : Rcs) : (ifs : List Expr) → Option {fs : List C // RTs E ifs fs}
  | [] => some ⟨_, .nil⟩
  | [e] => match rc.t E e with | some ⟨_, r⟩ => some ⟨_, .one r⟩ | none => none
  | _ => none
def cLcI (E : Ce) (rc : Rcs) (elt tg it : Expr) (ifs : List Expr) (scope : Scope) : Option (LcI E elt tg it ifs scope) :=
  match cTgt (blkE E scope) 5 tg, cIfs (blkE E scope) rc ifs, rc.e (blkE E scope) elt with
  | some ⟨t, rg⟩, some ⟨fs, rt⟩, some ⟨ct, re⟩ => match cSrc E rc tg (fun i => usesL i fs || usesC i ct) it with
    | some ⟨cs, rs⟩ => if h : (blkB E.N E.sc scope (ownP E.N scope) && (ixT t).all (fun i => decide (i ∈ (ownP E.N scope).map (·.2)))) = true then
        some ⟨cs, t, ownP E.N scope, fs, ct, rs, blk_ok (Bool.and_eq_true_iff.mp h).1, rg, rt, re, fun i hi => by
          have := List.all_eq_true.mp (Bool.and_eq_true_iff.mp h).2 i hi
          simpa using this⟩ else none
    | none => none
  | _, _, _ => none
def LcI.r {elt tg it : Expr} {ifs : List Expr} {scope : Scope} {pos : Pos} (l : LcI E elt tg it ifs scope) : {c : C // R E (.ListComp elt [⟨tg, it, ifs, 0⟩] scope pos) c} := ⟨_, R.lc l.rs l.ok l.rg l.rt l.re l.htg⟩
/-! all expressions, all tests -/
def cE (rc : Rcs) (E : Ce) : (x : Expr) → RO E x := fun x => match x with
  | .Constant k j p => cConst E k j p
  | .Name x p => cName E x p
  | .BinOp a op b p => cBin E rc a op b p
  | .UnaryOp .USub a p => match rc.e E a with | some ⟨_, r⟩ => some ⟨_, R.neg r⟩ | none => none
  | .UnaryOp .Not a p => match rc.e E a with | some ⟨_, r⟩ => some ⟨_, R.not r⟩ | none => none
  | .BoolOp op es p => cBool E rc op es p
  | .IfExp a b c p => match rc.t E a, rc.e E b, rc.e E c with | some ⟨_, ra⟩, some ⟨_, rb⟩, some ⟨_, rcc⟩ => some ⟨_, R.ite ra rb rcc⟩ | _, _, _ => none
  | .Compare a [op] [b] p => cCmp E rc a op b p
  | .Compare a [op, op'] [b, c] p => cChain E rc a op op' b c p
  | .Tuple es k p => match cList E rc es with | some ⟨_, rl⟩ => some ⟨_, R.tup rl⟩ | none => none
  | .List es p => match cList E rc es with | some ⟨_, rl⟩ => some ⟨_, R.lst rl⟩ | none => none
  | .Dict [] [] p => some ⟨_, R.dnew⟩
  | .Dict [some (.Constant (.str x) j1 p1)] [.Constant (.int i) j2 p2] p => if h : (line x.length && hashable (.str x)) = true then some ⟨_, R.dlit (Bool.and_eq_true_iff.mp h).1 (Bool.and_eq_true_iff.mp h).2⟩ else none
  | .Subscript a b p => cSub E rc a b p
  | .Call (.Name f p) es kws pos => cCall E rc f p es kws pos
  | .Call (.Attribute o m apos) es [] pos => cMeth E rc o m apos es pos
  | .ListComp elt [⟨tg, it, ifs, 0⟩] scope pos => match cLcI E rc elt tg it ifs scope with | some l => some l.r | none => none
  | _ => none
def cT (rc : Rcs) (E : Ce) : (x : Expr) → TO E x := fun x => match x with
  | .Name x p => match cName E x p with | some ⟨.var i, r⟩ => some ⟨_, RT.name r⟩ | _ => none
  | .UnaryOp .Not a p => match rc.t E a with | some ⟨_, r⟩ => some ⟨_, RT.not r⟩ | none => none
  | .BoolOp op es p => match tBoolW E rc op p es with | some ⟨_, r⟩ => some ⟨_, RT.w r⟩ | none => none
  | .Compare a [op] [b] p => tCmp E rc a op b p
  | .Call f es kws pos => match rc.e E (.Call f es kws pos) with | some ⟨_, r⟩ => some ⟨_, RT.val r fun _ _ => rfl⟩ | none => none
  | .Subscript a b pos => match rc.e E (.Subscript a b pos) with | some ⟨_, r⟩ => some ⟨_, RT.val r fun _ _ => rfl⟩ | none => none
  | .Constant k j pos => match rc.e E (.Constant k j pos) with | some ⟨_, r⟩ => some ⟨_, RT.val r fun _ _ => rfl⟩ | none => none
  | _ => none
def rcs : Nat → Rcs
  | 0 => ⟨fun _ _ => none, fun _ _ => none⟩
  | n + 1 => ⟨fun E x => cE (rcs n) E x, fun E x => cT (rcs n) E x⟩
/-! statements -/
theorem noSwap {e : Expr} {tgt : Option Expr} (h : (match e with | .ListComp .. | .SetComp .. | .DictComp .. => false | _ => true) = true) : ∀ l env, swapsWith e tgt l env = pure false := by
  cases e <;> first | (intro l env; rfl) | cases h
def noComp (e : Expr) : Bool := match e with | .ListComp .. | .SetComp .. | .DictComp .. => false | _ => true
theorem swap_lc {E : Ce} {elt : Expr} {gs : List Comprehension} {scope : Scope} {pos p : Pos} {x : Str} (hk : E.sc.kind = .function) : ∀ l env, env.scope = E.sc → swapsWith (.ListComp elt gs scope pos) (some (.Name x p)) l env = pure (decide (E.sc.names.lookup x = some .local) && p.line == pos.line && !(scope.names.any fun (n, k) => n == x && (k == .local || k == .cell))) := by
  intro l env he
  show pure (env.blockKind == .function && env.kindOf x == some .local && p.line == pos.line && _) = _
  have h1 : env.blockKind = .function := by
    unfold Env.blockKind
    rw [he, hk]
    rfl
  have h2 : env.kindOf x = E.sc.names.lookup x := by
    show env.scope.names.lookup x = _
    rw [he]
  rw [h1, h2]
  congr 1
  have : (E.sc.names.lookup x == some NameKind.local) = decide (E.sc.names.lookup x = some .local) := by
    cases hq : E.sc.names.lookup x with
    | none => rfl
    | some k => cases k <;> rfl
  rw [this]
  rfl
def swB (E : Ce) (x : Str) (p pos : Pos) (scope : Scope) : Bool := decide (E.sc.names.lookup x = some .local) && p.line == pos.line && !(scope.names.any fun (n, k) => n == x && (k == .local || k == .cell))
end
end TH
end
section
set_option Elab.async false
set_option linter.all false
set_option maxRecDepth 100000
namespace TH
open PySem PySem.Spec PyProof.Rows L2

section
variable {E : Ce}
abbrev SO (E : Ce) (st : Stmt) := Option {s : S // RSt E st s}
abbrev SsO (E : Ce) (sts : List Stmt) := Option {s : List S // RSts E sts s}
def nmOk (E : Ce) (i : Nat) (x : Str) : Bool := locB E.sc x && ixIs E.N i x && (E.fn x || kindIs .local (E.sc.names.lookup x))
theorem nmOk_ok {i : Nat} {x : Str} (h : nmOk E i x = true) : locB E.sc x = true ∧ E.N[i]? = some x ∧ (E.fn x || kindIs .local (E.sc.names.lookup x)) = true := by
  unfold nmOk at h
  rw [Bool.and_eq_true, Bool.and_eq_true] at h
  exact ⟨h.1.1, ixIs_ok h.1.2, h.2⟩
theorem swB_true {x : Str} {p pos : Pos} {scope : Scope} (h : swB E x p pos scope = true) : E.sc.names.lookup x = some .local := by
  unfold swB at h
  rw [Bool.and_eq_true, Bool.and_eq_true] at h
  exact of_decide_eq_true h.1.1
def sAsgN (rc : Rcs) (E : Ce) (x : Str) (p : Pos) (e : Expr) (pos : Pos) : SO E (.Assign [.Name x p] e pos) :=
  match ixOf E.N x with
  | none => none
  | some i => if h : (nmOk E i x && isFun E.sc.kind) = true then match e with
    | .ListComp elt [⟨tg, it, ifs, 0⟩] scope lpos => match cLcI E rc elt tg it ifs scope with
      | none => none
      | some l => if hs : swB E x p lpos scope = true then some ⟨.asg (.nm i) (.lc l.cs l.t (l.own.map (·.2)) l.fs l.ct), by
            have hn := nmOk_ok (Bool.and_eq_true_iff.mp h).1
            exact RSt.asgLc l.rs l.ok l.rg l.rt l.re l.htg (swB_true hs) hn.2.1 fun li env he hl => by
              rw [swap_lc (isFun_ok (Bool.and_eq_true_iff.mp h).2) li env he]
              exact congrArg _ hs⟩
        else some ⟨.asg (.nm i) (.lc l.cs l.t (l.own.map (·.2)) l.fs l.ct), by
            have hn := nmOk_ok (Bool.and_eq_true_iff.mp h).1
            exact RSt.asg l.r.2 hn.1 hn.2.1 hn.2.2 fun li env he => by
              rw [swap_lc (isFun_ok (Bool.and_eq_true_iff.mp h).2) li env he]
              have hs : swB E x p lpos scope = false := by simpa using hs
              exact congrArg _ hs⟩
    | e => if hc : noComp e = true then match rc.e E e with
        | some ⟨c, r⟩ => some ⟨.asg (.nm i) c, by
            have hn := nmOk_ok (Bool.and_eq_true_iff.mp h).1
            exact RSt.asg r hn.1 hn.2.1 hn.2.2 fun li env _ => noSwap hc li env⟩
        | none => none
      else none
  else none
def noTup : Expr → Bool
  | .Tuple .. => false
  | _ => true
theorem swapT {e : Expr} {es : List Expr} {k : Nat} {p : Pos} : ∀ l env, swapsWith e (some (.Tuple es k p)) l env = pure false := by
  cases e <;> (intro l env; rfl)
theorem storesT {e : Expr} {es : List Expr} {k : Nat} {p : Pos} (h : noTup e = true) : ∀ env, swappedStores [.Tuple es k p] e env = pure none := by
  cases e <;> first | (intro env; rfl) | cases h
def sAsgT (rc : Rcs) (E : Ce) (es : List Expr) (k : Nat) (p : Pos) (e : Expr) (pos : Pos) : SO E (.Assign [.Tuple es k p] e pos) :=
  if h : noTup e = true then match cTgts E 6 es, rc.e E e with
    | some ⟨ts, rg⟩, some ⟨c, r⟩ => some ⟨.asg (.tp ts) c, RSt.asgT r rg swapT (storesT h)⟩
    | _, _ => none
  else none
theorem swapS {v o ix : Expr} {p : Pos} : ∀ l env, swapsWithSole [.Subscript o ix p] v l env = pure false := by
  cases v <;> (intro l env; rfl)
theorem storesS {v o ix : Expr} {p : Pos} : ∀ env, swappedStores [.Subscript o ix p] v env = pure none := by
  cases v <;> (intro env; rfl)
def sSeti (rc : Rcs) (E : Ce) (o ix : Expr) (tpos : Pos) (v : Expr) (pos : Pos) : SO E (.Assign [.Subscript o ix tpos] v pos) :=
  match rc.e E o, rc.e E ix, rc.e E v with
  | some ⟨.var i, ro⟩, some ⟨cx, rx⟩, some ⟨cv, rv⟩ => if h : ixOk ix = true then some ⟨.seti i cx cv, RSt.seti ro rx rv swapS storesS (fun env v => by cases ix <;> first | rfl | cases h)⟩ else none
  | _, _, _ => none
def cSs (f : (st : Stmt) → SO E st) : (sts : List Stmt) → SsO E sts
  | [] => some ⟨_, .nil⟩
  | st :: sts => match f st, cSs f sts with
    | some ⟨_, r⟩, some ⟨_, rs⟩ => some ⟨_, .cons r rs⟩
    | _, _ => none
def cS (rc : Rcs) (E : Ce) : Nat → (st : Stmt) → SO E st
  | 0, _ => none
  | n + 1, st => match st with
    | .Return none pos => some ⟨_, RSt.retN⟩
    | .Return (some e) pos => match rc.e E e with
      | some ⟨.var i, r⟩ => some ⟨_, RSt.retV r⟩
      | some ⟨c, r⟩ => some ⟨_, RSt.ret r⟩
      | none => none
    | .Assign [.Name x p] e pos => sAsgN rc E x p e pos
    | .Assign [.Tuple es k p] e pos => sAsgT rc E es k p e pos
    | .Assign [.Subscript o ix tpos] v pos => sSeti rc E o ix tpos v pos
    | .Expr (.Constant (.str x) j p) pos => some ⟨_, RSt.doc⟩
    | .Expr e pos => if hc : noComp e = true then match rc.e E e with
        | some ⟨_, r⟩ => some ⟨_, RSt.ex r (noSwap hc)⟩
        | none => none
      else none
    | .If c a b pos => match rc.t E c, cSs (cS rc E n) a, cSs (cS rc E n) b with
      | some ⟨_, r⟩, some ⟨_, ra⟩, some ⟨_, rb⟩ => some ⟨_, RSt.iff r ra rb⟩
      | _, _, _ => none
    | .For tg it body [] pos => match cTgt E 5 tg, cSs (cS rc E n) body with
      | some ⟨t, rg⟩, some ⟨tb, rb⟩ => match cSrc E rc tg (fun i => usesSs i tb) it with
        | some ⟨cs, rs⟩ => some ⟨_, RSt.for_ rs rg rb⟩
        | none => none
      | _, _ => none
    | .While c body [] pos => match rc.t E c, cSs (cS rc E n) body with
      | some ⟨_, r⟩, some ⟨_, rb⟩ => some ⟨_, RSt.while_ r rb⟩
      | _, _ => none
    | .Pass _ => some ⟨_, RSt.pass⟩
    | .Break _ => some ⟨_, RSt.brk⟩
    | .Continue _ => some ⟨_, RSt.cont⟩
    | _ => none
/-- a body, compiled -/
def cBody (E : Ce) (sts : List Stmt) : SsO E sts := cSs (cS (rcs 25) E 12) sts
theorem cBody_ok {sts : List Stmt} {code : List S} (h : (cBody E sts).map (·.1) = some code) : RSts E sts code := by
  cases hc : cBody E sts with
  | none => rw [hc] at h; cases h
  | some x =>
    rw [hc] at h
    cases h
    exact x.2
end
end TH
end
section
set_option Elab.async false
set_option linter.all false
set_option maxRecDepth 100000
namespace TH
open PySem PySem.Spec PyProof.Rows L2

/-! the module's defs, n calls deep -/
structure DefI where
  modes : List Bool
  slots : Nat
  code : List S
def globs (con : String → Option D) (defs : String → Option DefI) (fuel : Nat) : Nat → Glob
  | 0 => ⟨con, fun f => (defs f).map fun d => ⟨d.modes, fun _ => .stk "depth"⟩⟩
  | n + 1 => ⟨con, fun f => (defs f).map fun d => ⟨d.modes, runBody (globs con defs fuel n) d.modes d.slots fuel d.code⟩⟩
/-- a def as it stands behind the top -/
structure FnD (K : PySem.W.Frag) (mg : Str → Option Value) (sig : Sig) (defs : String → Option DefI) (y : Str × String × List Str × List Bool) : Prop where
  ex : ∃ (f : Addr) (fd : FuncData) (st : Stmt) (N : List Str) (code : List S), defs y.2.1 = some ⟨y.2.2.2, N.length, code⟩ ∧ y.2.2.2.length = y.2.2.1.length ∧ mg y.1 = some (.ref f) ∧ PySem.W.keepIn K (.ref f) = true ∧ Fun K y.1 y.1 st f fd ∧ FnScope N y.2.2.1 (defScope st) ∧
    RSts ⟨sig, N, defScope st, fun _ => true⟩ (defBody st) code ∧ Bnd fd y.2.2.1
structure ConD (w : World) (K : PySem.W.Frag) (mg : Str → Option Value) (con : String → Option D) (y : Str × String) : Prop where
  ex : ∃ (d : D) (u : Value) (v : V), con y.2 = some d ∧ mg y.1 = some u ∧ RelV v u ∧ ∀ H, DRep w K H true v d []
section
variable {P : Program} {w : World} {K : PySem.W.Frag} {mg : Str → Option Value} {base : Heap} {sig : Sig} {con : String → Option D} {defs : String → Option DefI} {fuel : Nat}
theorem all_mo (hs : (∃ o, base.get? sysModules = some o) ∧ K.lookup sysModules = none) (hb : ∀ x ∈ bltAll, sig.funs.lookup x = none → mg x = none) (hc : ∀ y ∈ sig.cons, ConD w K mg con y) (hf : ∀ y ∈ sig.funs, FnD K mg sig defs y) : ∀ n, Mo sig (globs con defs fuel n) P w K mg base n
  | 0 => ⟨hs, hb, fun x fn ps ms h => by
      obtain ⟨f, fd, st, N, code, h1, h2, h3, h4, h5, h6, h7, h8⟩ := (hf _ (PySem.mem_of_lookup h)).ex
      exact ⟨⟨ms, fun _ => .stk "depth"⟩, f, fd, by simp only [globs]; rw [show defs fn = _ from h1]; rfl, rfl, h2, h3, h4, fn_zero h2, h8⟩, fun x c h => by
      have h9 : con = (globs con defs fuel 0).con := rfl
      exact (hc _ (PySem.mem_of_lookup h)).ex⟩
  | n + 1 => ⟨hs, hb, fun x fn ps ms h => by
      obtain ⟨f, fd, st, N, code, h1, h2, h3, h4, h5, h6, h7, h8⟩ := (hf _ (PySem.mem_of_lookup h)).ex
      exact ⟨⟨ms, runBody (globs con defs fuel n) ms N.length fuel code⟩, f, fd, by simp only [globs]; rw [show defs fn = _ from h1]; rfl, rfl, h2, h3, h4, fn_body h5 h6 h2 (all_mo hs hb hc hf n) h7, h8⟩, fun x c h => (hc _ (PySem.mem_of_lookup h)).ex⟩
/-- a def's arguments -/
theorem Fun.plain {x : Str} {st : Stmt} {f : Addr} {fd : FuncData} {ps : List Str} (F : Fun K x x st f fd) (h1 : (defArgs st).posonlyargs = []) (h2 : (defArgs st).kwonlyargs = []) (h3 : (defArgs st).vararg = none) (h4 : (defArgs st).kwarg = none) (h5 : (defArgs st).args.map (·.arg) = ps) : PlainP fd ps := by
  obtain ⟨oc, od, kV, doc, pm, an, cdv, ct, osl, rfl, _, _⟩ := F.ex
  exact ⟨h1, h2, h3, h4, h5, rfl⟩
theorem fnD_mk {x : Str} {fn : String} {ps : List Str} {ms : List Bool} {st : Stmt} {N : List Str} {code : List S} {f : Addr} {fd : FuncData} (hd : defs fn = some ⟨ms, N.length, code⟩) (hl : ms.length = ps.length) (hm : mg x = some (.ref f)) (hk : PySem.W.keepIn K (.ref f) = true) (F : Fun K x x st f fd)
    (hs : FnScope N ps (defScope st)) (hc : (cBody ⟨sig, N, defScope st, fun _ => true⟩ (defBody st)).map (·.1) = some code) (h1 : (defArgs st).posonlyargs = []) (h2 : (defArgs st).kwonlyargs = []) (h3 : (defArgs st).vararg = none) (h4 : (defArgs st).kwarg = none) (h5 : (defArgs st).args.map (·.arg) = ps) :
    FnD K mg sig defs (x, fn, ps, ms) := ⟨f, fd, st, N, code, hd, hl, hm, hk, F, hs, cBody_ok hc, (Fun.plain F h1 h2 h3 h4 h5).bnd (by rw [← hs.pre]; exact hs.nd.sublist (List.take_sublist _ _))⟩
theorem conD_str {x : Str} {c : String} {z : Str} {t : Tok} (hc : con c = some (.str z)) (hm : mg x = some (.str z t)) (hz : z.length ≤ sizeLine) : ConD w K mg con (x, c) := ⟨.str z, _, .str z, hc, hm, ⟨t, rfl⟩, fun H => .str z hz⟩
theorem conD_int {x : Str} {c : String} {z : Int} {t : Tok} (hc : con c = some (.int z)) (hm : mg x = some (.int z t)) : ConD w K mg con (x, c) := ⟨.int z, _, .int z, hc, hm, ⟨t, rfl⟩, fun H => .int z⟩
end
/-- the law's def, called by the claim -/
theorem law_G {P : Program} {w : World} {K : PySem.W.Frag} {mg mb : Str → Option Value} {k : Nat} {fa a : Addr} {fd : FuncData} {x : Str} {sp : Sp} {t1 : Shared} {us : List Value} {ns : List Int} (kin : K.In t1.heap) (nsG : t1.heap.Ns mainGlobals mg) (nsB : t1.heap.Ns builtinsNs mb)
    (boot : ∀ x : Str, x ≠ "__name__" → mb x = bootBuiltins x) (noLim : t1.heap.NoLimit) (gen : t1.gens = #[]) (sysm : ∃ mm, t1.heap.Ns sysModules mm) (scr : t1.heap.get? a = some { cls := .type "list", data := .seq us.toArray }) (ints' : IntsAre us ns) (len : ns.length ≤ sizeLine) (room : Room k callerA)
    (law : ∀ base : Heap, K.In base → base.Ns mainGlobals mg → (∃ o, base.get? sysModules = some o) → FnG P w K mg base k fa fd [x] sp) (bnd : ∀ (s : Shared) (u : Value), BindsTo s fd ⟨[u], []⟩ [(x, u)])
    (want : ∀ Hx : Hp, Only Hx → SqL K Hx a (ns.map V.int) → (∃ u, t1.heap.get? a = some u) → sp [.ref a] Hx (fun v _ => v = .bl true) fun _ _ _ => False) :
    codeAny (model P w) callerA (.call (.ref fa) ⟨[.ref a], []⟩) (fun r t2 => r = .ok (.ret (.bool true)) ∧ OldK t1.heap t2.heap ∧ t2.os = t1.os ∧ AllBare t2.gens) t1 := by
  have vi := vals_ints ints'
  have lv := ints'.length
  have asys : a ≠ sysModules := by
    rintro rfl
    obtain ⟨mm, o, es, ep, e1, e2, _⟩ := sysm
    rw [scr] at e1
    cases e1
    cases e2
  have run : ∀ Hx : Hp, Only Hx → SqL K Hx a (ns.map V.int) → HOk P w Hx t1.heap → (∀ b, Hx b ≠ none → b = a) → (Hx a ≠ none → K.lookup a = none) →
      codeAny (model P w) callerA (.call (.ref fa) ⟨[.ref a], []⟩) (fun r t2 => r = .ok (.ret (.bool true)) ∧ OldK t1.heap t2.heap ∧ t2.os = t1.os ∧ AllBare t2.gens) t1 := by
    intro Hx only sq ok at1 kn
    have off : ∀ {b : Addr}, b ≠ a → Hx b = none := fun {b} hb => by
      cases q : Hx b with
      | none => rfl
      | some u => exact absurd (at1 b (by rw [q]; exact Option.some_ne_none _)) hb
    have see : ∀ {b : Addr} {o : Obj}, t1.heap.get? b = some o → b ≠ a → (hidT t1.heap Hx).get? b = some o := fun e hb => hidT_get e (off hb)
    have dicts : ∀ {b : Addr} {m : Str → Option Value}, t1.heap.Ns b m → (hidT t1.heap Hx).Ns b m := by
      rintro b m ⟨o, es, ep, e, d, rest⟩
      refine ⟨o, es, ep, see e ?_, d, rest⟩
      rintro rfl
      rw [scr] at e
      cases e
      cases d
    have kb : K.In (hidT t1.heap Hx) := by
      intro b o e
      cases q : Hx b with
      | none => exact hidT_get (kin b o e) q
      | some u =>
        have eb := at1 b (by rw [q]; exact Option.some_ne_none _)
        subst eb
        rw [kn (by rw [q]; exact Option.some_ne_none _)] at e
        cases e
    have modl : Mod K mg (hidT t1.heap Hx) := ⟨kb, dicts nsG, ⟨mb, dicts nsB, boot⟩, by
      obtain ⟨mc, q1, q2⟩ := noLim
      exact ⟨mc, dicts q1, q2⟩⟩
    have sy : ∃ o, (hidT t1.heap Hx).get? sysModules = some o := by
      obtain ⟨mm, o, es, ep, e1, _⟩ := sysm
      exact ⟨o, see e1 (Ne.symm asys)⟩
    have env : Env0 P w K mg (hidT t1.heap Hx) callerA [] t1 Hx := { frames := rfl, mod := modl, bs := fun b o e => of_hidT e, bsz := Nat.le_of_eq (hidT_size _ _), funs := trivial, frf := fun b hb => absurd (show b ∈ ([] : List Addr) from hb) List.not_mem_nil, hok := ok, bare := .of_eq gen }
    refine codeAny_mono ((law _ kb (dicts nsG) sy).run callerA [] t1 Hx ⟨[.ref a], []⟩ [.ref a] [.ref a] _ _ room rfl env (bnd t1 (.ref a)) (.cons rfl .nil) (want Hx only sq ⟨_, scr⟩)) ?_
    intro r t2 fin
    cases r with
    | error e => exact (show False from fin).elim
    | ok fl =>
      cases fl with
      | next => exact (show False from fin).elim
      | brk => exact (show False from fin).elim
      | cont => exact (show False from fin).elim
      | ret u =>
        obtain ⟨v, H2, e1, e2, un, ok2, rel, e3⟩ := fin
        have e4 : v = .bl true := e3
        rw [e4] at rel
        cases (show u = Value.bool true from rel)
        refine ⟨rfl, OldK.of_keep ?_, e1, e2⟩
        intro b o e
        cases q : Hx b with
        | none => exact un.keep b o e q (fun z => absurd (show b ∈ ([] : List Addr) from z) List.not_mem_nil) List.not_mem_nil
        | some u =>
          rcases only b with z | ⟨ob, xs, z⟩
          · rw [q] at z; cases z
          · have := (ok b _ z).1
            rw [e] at this
            cases this
            exact (ok2 b _ (un.frzs b _ _ z)).1
  cases hk : K.lookup a with
  | some o =>
    have e := kin a o hk
    rw [scr] at e
    cases e
    exact run (fun _ => none) (fun _ => .inl rfl) (.inr ⟨_, us.toArray, _, hk, rfl, rfl, rfl, by rw [List.size_toArray, lv]; exact len, by simpa using vi⟩) (fun b u z => by have z' : (none : Option HO) = some u := z; cases z') (fun b z => absurd rfl z) (fun z => absurd rfl z)
  | none =>
    have at_a : ∀ b, (if b = a then some (HO.frz { cls := .type "list", data := .seq us.toArray } (.lst (ns.map V.int))) else none) ≠ none → b = a := by
      intro b z
      by_cases hb : b = a
      · exact hb
      · rw [if_neg hb] at z; exact absurd rfl z
    refine run (fun b => if b = a then some (HO.frz { cls := .type "list", data := .seq us.toArray } (.lst (ns.map V.int))) else none) ?_ (.inl (.inr ⟨_, if_pos rfl⟩)) ?_ at_a fun _ => hk
    · intro b
      by_cases hb : b = a
      · exact .inr ⟨_, _, if_pos hb⟩
      · exact .inl (if_neg hb)
    · intro b u z
      have eb := at_a b (by rw [show (if b = a then _ else _) = _ from z]; exact Option.some_ne_none _)
      subst eb
      have ez : some (HO.frz { cls := .type "list", data := .seq us.toArray } (.lst (ns.map V.int))) = some u := (if_pos rfl).symm.trans z
      cases ez
      exact ⟨scr, by rw [List.length_map]; exact len, us, _, vi, scr⟩
/-- the goal of the head -/
theorem walkG {l : PySem.W.OpenLaw} {n k : Nat} {q : Program} {loose : List Str} {XP : (Str → Option Value) → Heap → Prop} {YP : World → Heap → Prop} {d : DefRec} {K : Params → PySem.W.Frag} {sp : World → Sp} {x : Str} (hn : l.most = some n) (hn2 : n ≤ sizeLine) (hdf : d.params.defaults = []) (hr : Room k callerA) (himp : importsNone q = true)
    (hY : ∀ (w : World) (h : Heap), YP w h → (K w.params).In h)
    (F : ∀ (w : World) (mg : Str → Option Value) (fa : Addr) (h : Heap), (K w.params).In h → h.Ns mainGlobals mg → mg d.name = some (.ref fa) → ∃ fd : FuncData, (∀ (s : Shared) (u : Value), BindsTo s fd ⟨[u], []⟩ [(x, u)]) ∧
        ∀ base : Heap, (K w.params).In base → base.Ns mainGlobals mg → (∃ o, base.get? sysModules = some o) → FnG l.prog w (K w.params) mg base k fa fd [x] (sp w))
    (hsp : ∀ (w : World) (Hx : Hp) (a : Addr) (ns : List Int), ns.length ≤ n → Only Hx → SqL (K w.params) Hx a (ns.map V.int) → sp w [.ref a] Hx (fun v _ => v = .bl true) fun _ _ _ => False) : PySem.W.WalkO q loose XP YP l.row.toRowW d [] (fun f vs => PySem.call f vs) := by
  refine Att.attach_call hn hdf ?_
  intro w s0 t1 mg mb fa o pm cd doc a us ns G Y ho hd hcd hmg hobj hints hlen hgens
  obtain ⟨fd, hb, hF⟩ := F w mg fa _ (hY w _ Y) G.T.g hmg
  have sm : ∃ mm, t1.heap.Ns sysModules mm := let ⟨mm, e, _⟩ := (G.T.seer himp).mods; ⟨mm, e⟩
  exact law_G (hY w _ Y) G.T.g G.T.b G.T.builtins G.T.nolimit hgens sm hobj hints (Nat.le_trans hlen hn2) hr hF hb fun Hx h1 h2 _ => hsp w Hx a ns hlen h1 h2
/-- what the law's def must give: the answer True -/
theorem sp_law {w : World} {K : PySem.W.Frag} {F : Fn} {Hx : Hp} {a : Addr} {ns : List Int} (hm : F.modes = [false]) (only : Only Hx) (sq : SqL K Hx a (ns.map V.int)) (hlen : ns.length ≤ sizeLine) (h : ∃ k, F.sem [.list (ns.map .int)] = .ok (.bool true, k, [])) :
    SpF w K F [.ref a] Hx (fun v _ => v = .bl true) fun _ _ _ => False := by
  obtain ⟨k, e⟩ := h
  let Z : Cf := ⟨w, K, Hx, [], [], fun _ => none, .non⟩
  have all : ∀ ns : List Int, DAll w K Hx true (ns.map V.int) (ns.map PyData.int) [] := by
    intro ns
    induction ns with
    | nil => exact .nil
    | cons i ns ih => exact DAll.cons (.int i) ih
  have rep : DRep w K Hx true (.ref a) (.list (ns.map .int)) [] := by
    refine .listF rfl ?_ (all ns)
    rcases sq with (sq | sq) | sq
    · rcases only a with z | ⟨o, xs, z⟩
      · rw [z] at sq; cases sq
      · rw [z] at sq; cases sq
    · exact .inl sq
    · exact .inr sq
  have o0 : OkW Z [] [] Hx (fun _ => []) (fun _ => []) := ⟨rfl, fun i o s e => by simp at e, fun i _ => ⟨rfl, rfl⟩, fun i j a h => by simp at h, fun i a h => by simp at h, KeepBut.refl, fun b hb => by simp [Z] at hb, fun b hb => by simp [Z] at hb, fun i e => by simp at e⟩
  refine ⟨by rw [hm]; rfl, Z, [.list (ns.map .int)], rfl, rfl, rfl, ?_, ?_⟩
  · rw [hm]
    have := o0.pushSh (v := .ref a) (d := .list (ns.map .int)) rep .nil
    exact this
  · rw [e]
    intro v H' σ' ρ' ok hl ho
    obtain ⟨f, w, o⟩ := ok
    obtain ⟨v', e1, r, _⟩ := o.last
    cases e1
    exact r.bool_inv
end TH
end
section
set_option Elab.async false
set_option linter.all false
set_option maxRecDepth 100000
namespace TH
open PySem PySem.Spec PyProof.Rows L2

/-! plain evaluation -/
section
variable {G : Glob} {ρ ρ' : Ev}
theorem bind_ok {α β : Type} (a : α) (f : α → Res β) : (Res.ok a).bind f = f a := rfl
theorem optR_some {α : Type} (a : α) : optR (some a) = .ok a := rfl
theorem noExc_ok {α : Type} (a : α) : noExc (Res.ok a) = .ok a := rfl
theorem line_ok {n : Nat} (h : n ≤ 16777216) : line n = true := by
  unfold line; rw [sizeLine_eq]; exact decide_eq_true h
theorem ev_lit (d : D) : evE G (.lit d) ρ = .ok (d, .fr, ρ) := by simp only [evE]
theorem ev_var (i : Nat) : evE G (.var i) ρ = (match getS ρ i with
    | .vl .sh d => .ok (d, .sh, ρ)
    | .vl .io _ => .stk "an in-out thing is handed on"
    | .vl _ d => if imm d then .ok (d, .sh, ρ) else .ok (d, .sh, setS ρ i (.vl .sh d))
    | _ => .stk "unbound") := by simp only [evE] <;> rfl
theorem ev_mv (i : Nat) : evE G (.mv i) ρ = (match getS ρ i with
    | .vl .io _ => .stk "an in-out thing is handed on"
    | .vl k d => .ok (d, k, setS ρ i .un)
    | _ => .stk "unbound") := by simp only [evE] <;> rfl
theorem ev_con {x : String} {d : D} (h : G.con x = some d) : evE G (.con x) ρ = .ok (d, .sh, ρ) := by simp only [evE, h]
theorem ev_op (p : P) (as : List C) : evE G (.op p as) ρ = (evL G as ρ).bind fun r => if scalarP p || r.1.all (fun x => x.2 != .io) then (optR (prim p r.1)).bind fun q => .ok (q.1, q.2, r.2) else .stk "a peek is handed on" := by simp only [evE]
theorem ev_and (a b : C) : evE G (.and_ a b) ρ = (evE G a ρ).bind fun r => if truth r.1 then evE G b r.2.2 else .ok r := by simp only [evE]
theorem ev_or (a b : C) : evE G (.or_ a b) ρ = (evE G a ρ).bind fun r => if truth r.1 then .ok r else evE G b r.2.2 := by simp only [evE]
theorem ev_not (a : C) : evE G (.not_ a) ρ = (evE G a ρ).bind fun r => .ok (.bool (!truth r.1), .fr, r.2.2) := by simp only [evE]
theorem ev_ite (c a b : C) : evE G (.ite c a b) ρ = (evE G c ρ).bind fun r => if truth r.1 then evE G a r.2.2 else evE G b r.2.2 := by simp only [evE]
theorem ev_chain (p q : P) (a b c : C) : evE G (.chain p q a b c) ρ = (evE G a ρ).bind fun x => (evE G b x.2.2).bind fun y => (optR (prim p [(x.1, .sh), (y.1, .sh)])).bind fun z =>
      if truth z.1 then (evE G c y.2.2).bind fun u => (optR (prim q [(y.1, .sh), (u.1, .sh)])).bind fun v => .ok (v.1, v.2, u.2.2) else .ok (z.1, z.2, y.2.2) := by simp only [evE]
theorem evL_nil : evL G [] ρ = .ok ([], ρ) := by simp only [evL]
theorem evL_pk (i : Nat) (cs : List C) : evL G (.pk i :: cs) ρ = if bound ρ i then (evL G cs ρ).bind fun q => (peek false q.2 i).bind fun r => .ok ((r.1, r.2.1) :: q.1, r.2.2) else .stk "unbound" := by simp only [evL]
theorem evL_pt (i : Nat) (cs : List C) : evL G (.pt i :: cs) ρ = if bound ρ i then (evL G cs ρ).bind fun q => (peek true q.2 i).bind fun r => .ok ((r.1, r.2.1) :: q.1, r.2.2) else .stk "unbound" := by simp only [evL]
theorem evL_val {c : C} {cs : List C} (h : peekOf c = none) : evL G (c :: cs) ρ = (evE G c ρ).bind fun r => (evL G cs r.2.2).bind fun q => .ok ((r.1, r.2.1) :: q.1, q.2) := evL_cons h
theorem evT_nil : evT G [] ρ = .ok (true, ρ) := by simp only [evT]
theorem evT_cons (c : C) (cs : List C) : evT G (c :: cs) ρ = (evE G c ρ).bind fun r => if truth r.1 then evT G cs r.2.2 else .ok (false, r.2.2) := by simp only [evT]
theorem evA_nil : evA G [] ρ = .ok ([], ρ) := by simp only [evA]
theorem evA_v {c : C} {cs : List C} (h : valC c = true) : evA G (c :: cs) ρ = (evE G c ρ).bind fun r => (evA G cs r.2.2).bind fun q => .ok (r.1 :: q.1, q.2) := by
  cases c <;> first | (simp only [evA]; done) | (cases h)
theorem evL_lit (d : D) (cs : List C) : evL G ((.lit d) :: cs) ρ = (evE G (.lit d) ρ).bind fun r => (evL G cs r.2.2).bind fun q => .ok ((r.1, r.2.1) :: q.1, q.2) := evL_cons rfl
theorem evA_lit (d : D) (cs : List C) : evA G ((.lit d) :: cs) ρ = (evE G (.lit d) ρ).bind fun r => (evA G cs r.2.2).bind fun q => .ok (r.1 :: q.1, q.2) := evA_v rfl
theorem evL_var (i : Nat) (cs : List C) : evL G ((.var i) :: cs) ρ = (evE G (.var i) ρ).bind fun r => (evL G cs r.2.2).bind fun q => .ok ((r.1, r.2.1) :: q.1, q.2) := evL_cons rfl
theorem evA_var (i : Nat) (cs : List C) : evA G ((.var i) :: cs) ρ = (evE G (.var i) ρ).bind fun r => (evA G cs r.2.2).bind fun q => .ok (r.1 :: q.1, q.2) := evA_v rfl
theorem evL_mv (i : Nat) (cs : List C) : evL G ((.mv i) :: cs) ρ = (evE G (.mv i) ρ).bind fun r => (evL G cs r.2.2).bind fun q => .ok ((r.1, r.2.1) :: q.1, q.2) := evL_cons rfl
theorem evA_mv (i : Nat) (cs : List C) : evA G ((.mv i) :: cs) ρ = (evE G (.mv i) ρ).bind fun r => (evA G cs r.2.2).bind fun q => .ok (r.1 :: q.1, q.2) := evA_v rfl
theorem evL_con (x : String) (cs : List C) : evL G ((.con x) :: cs) ρ = (evE G (.con x) ρ).bind fun r => (evL G cs r.2.2).bind fun q => .ok ((r.1, r.2.1) :: q.1, q.2) := evL_cons rfl
theorem evA_con (x : String) (cs : List C) : evA G ((.con x) :: cs) ρ = (evE G (.con x) ρ).bind fun r => (evA G cs r.2.2).bind fun q => .ok (r.1 :: q.1, q.2) := evA_v rfl
theorem evL_op (p : P) (as : List C) (cs : List C) : evL G ((.op p as) :: cs) ρ = (evE G (.op p as) ρ).bind fun r => (evL G cs r.2.2).bind fun q => .ok ((r.1, r.2.1) :: q.1, q.2) := evL_cons rfl
theorem evA_op (p : P) (as : List C) (cs : List C) : evA G ((.op p as) :: cs) ρ = (evE G (.op p as) ρ).bind fun r => (evA G cs r.2.2).bind fun q => .ok (r.1 :: q.1, q.2) := evA_v rfl
theorem evL_and (a b : C) (cs : List C) : evL G ((.and_ a b) :: cs) ρ = (evE G (.and_ a b) ρ).bind fun r => (evL G cs r.2.2).bind fun q => .ok ((r.1, r.2.1) :: q.1, q.2) := evL_cons rfl
theorem evA_and (a b : C) (cs : List C) : evA G ((.and_ a b) :: cs) ρ = (evE G (.and_ a b) ρ).bind fun r => (evA G cs r.2.2).bind fun q => .ok (r.1 :: q.1, q.2) := evA_v rfl
theorem evL_or (a b : C) (cs : List C) : evL G ((.or_ a b) :: cs) ρ = (evE G (.or_ a b) ρ).bind fun r => (evL G cs r.2.2).bind fun q => .ok ((r.1, r.2.1) :: q.1, q.2) := evL_cons rfl
theorem evA_or (a b : C) (cs : List C) : evA G ((.or_ a b) :: cs) ρ = (evE G (.or_ a b) ρ).bind fun r => (evA G cs r.2.2).bind fun q => .ok (r.1 :: q.1, q.2) := evA_v rfl
theorem evL_not (a : C) (cs : List C) : evL G ((.not_ a) :: cs) ρ = (evE G (.not_ a) ρ).bind fun r => (evL G cs r.2.2).bind fun q => .ok ((r.1, r.2.1) :: q.1, q.2) := evL_cons rfl
theorem evA_not (a : C) (cs : List C) : evA G ((.not_ a) :: cs) ρ = (evE G (.not_ a) ρ).bind fun r => (evA G cs r.2.2).bind fun q => .ok (r.1 :: q.1, q.2) := evA_v rfl
theorem evL_ite (a b c : C) (cs : List C) : evL G ((.ite a b c) :: cs) ρ = (evE G (.ite a b c) ρ).bind fun r => (evL G cs r.2.2).bind fun q => .ok ((r.1, r.2.1) :: q.1, q.2) := evL_cons rfl
theorem evA_ite (a b c : C) (cs : List C) : evA G ((.ite a b c) :: cs) ρ = (evE G (.ite a b c) ρ).bind fun r => (evA G cs r.2.2).bind fun q => .ok (r.1 :: q.1, q.2) := evA_v rfl
theorem evL_chain (p q : P) (a b c : C) (cs : List C) : evL G ((.chain p q a b c) :: cs) ρ = (evE G (.chain p q a b c) ρ).bind fun r => (evL G cs r.2.2).bind fun q => .ok ((r.1, r.2.1) :: q.1, q.2) := evL_cons rfl
theorem evA_chain (p q : P) (a b c : C) (cs : List C) : evA G ((.chain p q a b c) :: cs) ρ = (evE G (.chain p q a b c) ρ).bind fun r => (evA G cs r.2.2).bind fun q => .ok (r.1 :: q.1, q.2) := evA_v rfl
theorem evL_call (f : String) (as : List C) (pm : List Nat) (cs : List C) : evL G ((.call f as pm) :: cs) ρ = (evE G (.call f as pm) ρ).bind fun r => (evL G cs r.2.2).bind fun q => .ok ((r.1, r.2.1) :: q.1, q.2) := evL_cons rfl
theorem evA_call (f : String) (as : List C) (pm : List Nat) (cs : List C) : evA G ((.call f as pm) :: cs) ρ = (evE G (.call f as pm) ρ).bind fun r => (evA G cs r.2.2).bind fun q => .ok (r.1 :: q.1, q.2) := evA_v rfl
theorem evL_lc (s : C) (t : T) (o : List Nat) (fs : List C) (e : C) (cs : List C) : evL G ((.lc s t o fs e) :: cs) ρ = (evE G (.lc s t o fs e) ρ).bind fun r => (evL G cs r.2.2).bind fun q => .ok ((r.1, r.2.1) :: q.1, q.2) := evL_cons rfl
theorem evA_lc (s : C) (t : T) (o : List Nat) (fs : List C) (e : C) (cs : List C) : evA G ((.lc s t o fs e) :: cs) ρ = (evE G (.lc s t o fs e) ρ).bind fun r => (evA G cs r.2.2).bind fun q => .ok (r.1 :: q.1, q.2) := evA_v rfl
theorem evL_mut (m : M) (i : Nat) (as : List C) (cs : List C) : evL G ((.mut m i as) :: cs) ρ = (evE G (.mut m i as) ρ).bind fun r => (evL G cs r.2.2).bind fun q => .ok ((r.1, r.2.1) :: q.1, q.2) := evL_cons rfl
theorem evA_mut (m : M) (i : Nat) (as : List C) (cs : List C) : evA G ((.mut m i as) :: cs) ρ = (evE G (.mut m i as) ρ).bind fun r => (evA G cs r.2.2).bind fun q => .ok (r.1 :: q.1, q.2) := evA_v rfl
theorem evA_io (i : Nat) (cs : List C) : evA G (.io i :: cs) ρ = if bound ρ i then (evA G cs ρ).bind fun q => match getS q.2 i with
        | .vl .sh _ => .stk "in-out of a shared thing"
        | .vl k d => if boxD d then .ok (d :: q.1, setS q.2 i (.vl (if k == .io then .io else .top) d)) else .stk "in-out of no list"
        | _ => .stk "unbound"
      else .stk "unbound" := by simp only [evA] <;> rfl
theorem src_pt (i : Nat) : evSrc G (.pt i) ρ = (peek true ρ i).bind fun r => walkR (seqOf r.1) r.2.2 := by simp only [evSrc]
theorem src_sq (p : P) (as : List C) : evSrc G (.sq p as) ρ = (evL G as ρ).bind fun r => if r.1.all (fun x => x.2 != .io) then (optR (prim p r.1)).bind fun q => match q.1 with | .list l => .ok (l, r.2) | _ => .stk "walk" else .stk "a peek is handed on" := by simp only [evSrc] <;> rfl
def srcV : C → Bool
  | .pt _ => false
  | .sq _ _ => false
  | _ => true
theorem src_v {c : C} (h2 : srcV c = true) : evSrc G c ρ = (evE G c ρ).bind fun r => walkR (seqOf r.1) r.2.2 := by
  cases c <;> first | (simp only [evSrc]; done) | (cases h2)
/-- a call -/
theorem ev_call {f : String} {as : List C} {pm : List Nat} {ds ds' : List D} {F : Fn} {d : D} {k : Own} {os : List D} {ρ1 ρ2 : Ev} (ha : evA G as ρ = .ok (ds, ρ1)) (hf : G.fn f = some F) (hp : permute ds pm = some ds') (hs : F.sem ds' = .ok (d, k, os)) (hk : (k == .io) = false) (ho : putOuts ρ1 (ioSlots as) os = some ρ2) :
    evE G (.call f as pm) ρ = .ok (d, k, ρ2) := by
  simp only [evE, ha, bind_ok, hf, hp, hs, hk, ho]
  rfl
theorem shal_int (i : Int) : shal (.int i) = true := rfl
theorem shal_str (x : Str) : shal (.str x) = true := rfl
theorem shal_bool (b : Bool) : shal (.bool b) = true := rfl
theorem shal_none : shal .none = true := rfl
theorem ltD_int (i j : Int) : ltD (.int i) (.int j) = some (decide (i < j)) := by
  unfold ltD
  have h1 : PySem.W.alike (.int i) (.int j) = true := rfl
  have h2 : PySem.W.dataLt (.int i) (.int j) = decide (i < j) := PySem.W.dataLt_int i j
  rw [h1, h2]; rfl
theorem gtD_int (i j : Int) : gtD (.int i) (.int j) = some (decide (j < i)) := by
  unfold gtD
  have h1 : PySem.W.alike (.int i) (.int j) = true := rfl
  have h2 : PySem.W.dataLt (.int j) (.int i) = decide (j < i) := PySem.W.dataLt_int j i
  rw [h1, h2]; rfl
theorem ltD_str (x y : Str) : ltD (.str x) (.str y) = some (decide (x.cps.toList < y.cps.toList)) := by
  unfold ltD
  have h1 : PySem.W.alike (.str x) (.str y) = true := rfl
  rw [h1, PySem.W.dataLt_str]; rfl
theorem eqOk_int (i j : Int) : eqOk (.int i) (.int j) = some (i == j) := by
  simp [eqOk, shal_int, noD, eqD]
theorem eqOk_str (x y : Str) : eqOk (.str x) (.str y) = some (x == y) := by
  simp [eqOk, shal_str, noD, eqD]
theorem eqOk_bool (x y : Bool) : eqOk (.bool x) (.bool y) = some (x == y) := by
  simp [eqOk, shal_bool, noD, eqD]
theorem inD_list {a : D} {xs : List D} (h1 : shal a = true) (h2 : noD a = true) (h3 : noDs xs = true) : inD a (.list xs) = some (xs.any fun x => eqD x a) := by
  simp only [inD, h1, h2, h3, Bool.and_self, if_true]
theorem idxD_list {xs : List D} {i : Int} {k : Nat} {d : D} (h : i = (k : Int)) (hx : xs[k]? = some d) : idxD (.list xs) (.int i) = some (d, .sh) := by
  subst h
  have hl := lt_of_get hx
  have h1 : ixAt xs.length (k : Int) = some k := by
    unfold ixAt
    rw [if_pos (by omega), if_pos (by omega)]
    simp
  simp only [idxD, h1, Option.bind_some, hx, okP]
def rangeL (i j : Int) : List D := (List.range (j - i).toNat).map fun (k : Nat) => PyData.int (i + (k : Int))
theorem rangeD_eq {i j : Int} (h1 : -4000000000000000000 ≤ i) (h2 : i < 4000000000000000000) (h3 : -4000000000000000000 ≤ j) (h4 : j < 4000000000000000000) : rangeD i j = some (.list (rangeL i j), .sh) := by
  unfold rangeD
  exact if_pos ⟨Int.le_trans (by decide) h1, Int.lt_of_lt_of_le h2 (by decide), Int.le_trans (by decide) h3, Int.lt_of_lt_of_le h4 (by decide)⟩
theorem srcR2 {as : List C} {i j : Int} {k1 k2 : Own} (h : evL G as ρ = .ok ([(.int i, k1), (.int j, k2)], ρ')) (hk1 : (k1 != .io) = true) (hk2 : (k2 != .io) = true) (h1 : -4000000000000000000 ≤ i) (h2 : i < 4000000000000000000) (h3 : -4000000000000000000 ≤ j) (h4 : j < 4000000000000000000) :
    evSrc G (.sq .range2 as) ρ = .ok (rangeL i j, ρ') := by
  have e := rangeD_eq h1 h2 h3 h4
  rw [src_sq, h, bind_ok]
  have hp : prim .range2 [(PyData.int i, k1), (PyData.int j, k2)] = some (.list (rangeL i j), .sh) := e
  simp only [List.all_cons, List.all_nil, hk1, hk2, Bool.and_self, if_true, hp, optR_some, bind_ok]
theorem srcR1 {as : List C} {j : Int} {k2 : Own} (h : evL G as ρ = .ok ([(.int j, k2)], ρ')) (hk2 : (k2 != .io) = true) (h3 : -4000000000000000000 ≤ j) (h4 : j < 4000000000000000000) :
    evSrc G (.sq .range1 as) ρ = .ok (rangeL 0 j, ρ') := by
  have e := rangeD_eq (i := 0) (by decide) (by decide) h3 h4
  rw [src_sq, h, bind_ok]
  have hp : prim .range1 [(PyData.int j, k2)] = some (.list (rangeL 0 j), .sh) := e
  simp only [List.all_cons, List.all_nil, hk2, Bool.and_self, if_true, hp, optR_some, bind_ok]
theorem noDs_all {l : List D} (h : ∀ d ∈ l, noD d = true) : noDs l = true := by
  induction l with
  | nil => simp [noDs]
  | cons d l ih => simp [noDs, h d (.head _), ih fun x hx => h x (.tail _ hx)]
theorem eq_nil {l : List D} (h : noDs l = true) : eqOk (.list l) (.list []) = some l.isEmpty := by
  have h1 : shal (.list []) = true := by decide
  unfold eqOk
  rw [h1]
  simp only [noD, noDs, h, Bool.or_true, Bool.and_true, if_true]
  cases l <;> simp [eqD, eqDs]
/-- loops -/
theorem loop_ind {α : Type} {f : D → α → Ev → Res (α × Ev)} {I : List D → α → Ev → Prop} (h : ∀ x xs a ρ, I (x :: xs) a ρ → ∃ a' ρ', f x a ρ = .ok (a', ρ') ∧ I xs a' ρ') : ∀ xs a ρ, I xs a ρ → ∃ a' ρ', loop f xs a ρ = .ok (a', ρ') ∧ I [] a' ρ'
  | [], a, ρ, i => ⟨a, ρ, rfl, i⟩
  | x :: xs, a, ρ, i => by
    obtain ⟨a1, ρ1, e1, i1⟩ := h x xs a ρ i
    obtain ⟨a2, ρ2, e2, i2⟩ := loop_ind h xs a1 ρ1 i1
    exact ⟨a2, ρ2, by rw [loop, e1, bind_ok, e2], i2⟩
theorem for_ind {f : D → Ev → Res Fl} {I : List D → Ev → Prop} (h : ∀ x xs ρ, I (x :: xs) ρ → ∃ ρ', f x ρ = .ok (.next ρ') ∧ I xs ρ') : ∀ xs ρ, I xs ρ → ∃ ρ', forLoop f xs ρ = .ok (.next ρ') ∧ I [] ρ'
  | [], ρ, i => ⟨ρ, rfl, i⟩
  | x :: xs, ρ, i => by
    obtain ⟨ρ1, e1, i1⟩ := h x xs ρ i
    obtain ⟨ρ2, e2, i2⟩ := for_ind h xs ρ1 i1
    exact ⟨ρ2, by rw [forLoop, e1, bind_ok]; exact e2, i2⟩
/-- a list comprehension whose turns leave the slots alone -/
theorem lc_loop {bd : D → Ev → Res Ev} {test : Ev → Res (Bool × Ev)} {elt : Ev → Res (D × Own × Ev)} {hs : List Nat} {p : D → Bool} {q : D → D} {kk : D → Own} : ∀ (xs acc : List D) (b : Bool),
    (∀ x ∈ xs, ∃ ρa ρb, bd x ρ = .ok ρa ∧ test ρa = .ok (p x, ρb) ∧ (p x = false → wipeS ρb hs = ρ) ∧ (p x = true → ∃ ρc, elt ρb = .ok (q x, kk x, ρc) ∧ wipeS ρc hs = ρ)) →
    loop (lcF bd test elt hs) xs (acc, b) ρ = .ok ((acc ++ (xs.filter p).map q, b && (xs.filter p).all (fun x => kk x == .fr || imm (q x))), ρ)
  | [], acc, b, _ => by simp [loop]
  | x :: xs, acc, b, h => by
    obtain ⟨ρa, ρb, e1, e2, e3, e4⟩ := h x (.head _)
    rw [loop]
    cases hp : p x with
    | false =>
      have e5 : lcF bd test elt hs x (acc, b) ρ = .ok ((acc, b), ρ) := by
        simp only [lcF, e1, bind_ok, e2, hp, e3 hp, Bool.false_eq_true, if_false]
      rw [e5, bind_ok]
      have := lc_loop xs acc b fun y hy => h y (.tail _ hy)
      rw [this]
      simp [List.filter_cons, hp]
    | true =>
      obtain ⟨ρc, e5, e6⟩ := e4 hp
      have e7 : lcF bd test elt hs x (acc, b) ρ = .ok ((acc ++ [q x], b && (kk x == .fr || imm (q x))), ρ) := by
        simp only [lcF, e1, bind_ok, e2, hp, e5, e6, if_true]
      rw [e7, bind_ok]
      have := lc_loop xs (acc ++ [q x]) (b && (kk x == .fr || imm (q x))) fun y hy => h y (.tail _ hy)
      rw [this]
      simp [List.filter_cons, hp, Bool.and_assoc]
theorem ev_lc {src : C} {tgt : T} {own : List Nat} {ifs : List C} {elt : C} {xs l : List D} {b : Bool} {ρ1 ρ2 : Ev} (hs : evSrc G src ρ = .ok (xs, ρ1)) (ho : ownOk ρ1 own (hides src ++ own) = true)
    (hl : loop (lcF (fun x ρ => bindT tgt x .sh ρ) (fun ρ => evT G ifs ρ) (fun ρ => evE G elt ρ) (hides src ++ own)) xs ([], true) (wipeS (shareS ρ1 own) (hides src ++ own)) = .ok ((l, b), ρ2)) (hz : line l.length = true) :
    evE G (.lc src tgt own ifs elt) ρ = .ok (.list l, mkK b (.list l), backS ρ2 (shareS ρ1 own) (hides src ++ own)) := by
  simp only [evE, hs, bind_ok, lcRun, ho, if_true, hl, noExc_ok, hz]
end
end TH
end
section
set_option Elab.async false
set_option linter.all false
set_option maxRecDepth 100000
namespace TH
open PySem PySem.Spec PyProof.Rows L2

section
variable {G : Glob} {ρ ρ1 ρ2 : Ev} {fuel : Nat}
theorem run_of {ms : List Bool} {n : Nat} {code : List S} {ds : List D} {d : D} {k : Own} {os : List D} (hl : (ds.length == ms.length) = true) (h : evSs G fuel code (startS ms ds n) = .ok (.ret d k ρ)) (ho : outsOf ms ρ = some os) : runBody G ms n fuel code ds = .ok (d, k, os) := by
  unfold runBody
  rw [hl, if_pos rfl, h, bind_ok]
  simp only [ho]
theorem ss_nil : evSs G fuel [] ρ = .ok (.next ρ) := by simp only [evSs]
theorem ss_next {s : S} {r : List S} (h : evS G fuel s ρ = .ok (.next ρ1)) : evSs G fuel (s :: r) ρ = evSs G fuel r ρ1 := by
  simp only [evSs, h, bind_ok]
theorem ss_ret {s : S} {r : List S} {d : D} {k : Own} (h : evS G fuel s ρ = .ok (.ret d k ρ1)) : evSs G fuel (s :: r) ρ = .ok (.ret d k ρ1) := by
  simp only [evSs, h, bind_ok]
theorem s_asg {i : Nat} {c : C} {d : D} {k : Own} (h : evE G c ρ = .ok (d, k, ρ1)) (hb : bindT (.nm i) d k ρ1 = .ok ρ2) : evS G fuel (.asg (.nm i) c) ρ = .ok (.next ρ2) := by
  simp only [evS, h, bind_ok, hb]
theorem s_ret {c : C} {d : D} {k : Own} (h : evE G c ρ = .ok (d, k, ρ1)) : evS G fuel (.ret c) ρ = .ok (.ret d k ρ1) := by
  simp only [evS, h, bind_ok]
theorem s_ex {c : C} {d : D} {k : Own} (h : evE G c ρ = .ok (d, k, ρ1)) : evS G fuel (.ex c) ρ = .ok (.next ρ1) := by
  simp only [evS, h, bind_ok]
theorem s_iff {c : C} {a b : List S} {d : D} {k : Own} (h : evE G c ρ = .ok (d, k, ρ1)) : evS G fuel (.iff c a b) ρ = if truth d then evSs G fuel a ρ1 else evSs G fuel b ρ1 := by
  simp only [evS, h, bind_ok]
theorem s_iff_no {c : C} {a : List S} {d : D} {k : Own} (h : evE G c ρ = .ok (d, k, ρ1)) (ht : truth d = false) : evS G fuel (.iff c a []) ρ = .ok (.next ρ1) := by
  rw [s_iff h, ht]
  exact ss_nil (G := G) (ρ := ρ1) (fuel := fuel)
theorem s_iff_yes {c : C} {a b : List S} {d : D} {k : Own} (h : evE G c ρ = .ok (d, k, ρ1)) (ht : truth d = true) : evS G fuel (.iff c a b) ρ = evSs G fuel a ρ1 := by
  rw [s_iff h, ht]; rfl
theorem s_for {t : T} {src : C} {body : List S} {xs : List D} (hs : evSrc G src ρ = .ok (xs, ρ1)) (hk : lockOf src ρ1 = none) (h : forLoop (fun x ρ => (bindT t x .sh ρ).bind fun ρ => evSs G fuel body ρ) xs ρ1 = .ok (.next ρ2)) : evS G fuel (.for_ t src body) ρ = .ok (.next ρ2) := by
  simp only [evS, hs, bind_ok, hk, h]
theorem s_seti {i : Nat} {ix v : C} {d e x : D} {k1 k2 k : Own} {a : D} {ka : Own} {d' : D} {wh : Bool} (hv : evE G v ρ = .ok (d, k1, ρ1)) (hb : bound ρ1 i = true) (hx : evE G ix ρ1 = .ok (e, k2, ρ2)) (hg : getS ρ2 i = .vl k x) (hk : k ≠ .sh) (hm : mutate .setitem x [(e, k2), (d, k1)] = some (a, ka, d', wh)) :
    evS G fuel (.seti i ix v) ρ = .ok (.next (setS ρ2 i (.vl (mutK k wh) d'))) := by
  simp only [evS, hv, bind_ok, hb, if_true, hx, hg]
  cases k <;> first | exact absurd rfl hk | (simp only [hm, optR_some, bind_ok])
end
theorem lcF_yes {bd : D → Ev → Res Ev} {test : Ev → Res (Bool × Ev)} {elt : Ev → Res (D × Own × Ev)} {hs : List Nat} {x d : D} {acc : List D} {b : Bool} {k : Own} {ρ ρa ρb ρc : Ev} (h1 : bd x ρ = .ok ρa) (h2 : test ρa = .ok (true, ρb)) (h3 : elt ρb = .ok (d, k, ρc)) :
    lcF bd test elt hs x (acc, b) ρ = .ok ((acc ++ [d], b && (k == .fr || imm d)), wipeS ρc hs) := by
  simp only [lcF, h1, bind_ok, h2, h3, if_true]
theorem lcF_no {bd : D → Ev → Res Ev} {test : Ev → Res (Bool × Ev)} {elt : Ev → Res (D × Own × Ev)} {hs : List Nat} {x : D} {acc : List D} {b : Bool} {ρ ρa ρb : Ev} (h1 : bd x ρ = .ok ρa) (h2 : test ρa = .ok (false, ρb)) :
    lcF bd test elt hs x (acc, b) ρ = .ok ((acc, b), wipeS ρb hs) := by
  simp only [lcF, h1, bind_ok, h2, Bool.false_eq_true, if_false]
theorem log2_small {n : Nat} (h : n < 1000000000000000000000000000000000000000000000000000000000000) : n.log2 < 200 := by
  by_cases h0 : n = 0
  · subst h0; decide
  · exact (Nat.log2_lt h0).mpr (Nat.lt_of_lt_of_le h (by decide))
theorem mulD_small {i j : Int} (h1 : i.natAbs < 1000000000000000000000000000000000000000000000000000000000000) (h2 : j.natAbs < 1000000000000000000000000000000000000000000000000000000000000) : mulD (.int i) (.int j) = some (.int (i * j), .fr) := by
  have a := log2_small h1
  have b := log2_small h2
  show (if i.natAbs.log2 + j.natAbs.log2 < 1000000 then okA (.int (i * j)) else none) = _
  rw [if_pos (by omega)]
  rfl
theorem fmod_pos {i b : Int} (hb : 0 < b) : 0 ≤ i.fmod b ∧ i.fmod b < b := ⟨Int.fmod_nonneg_of_pos i hb, Int.fmod_lt_of_pos i hb⟩
theorem modD_ok {i b : Int} (hb : b ≠ 0) : modD (.int i) (.int b) = some (.int (i.fmod b), .fr) := by
  show (if b ≠ 0 then okA (.int (i.fmod b)) else none) = _
  rw [if_pos hb]; rfl
theorem fdivD_ok {i b : Int} (hb : b ≠ 0) (h : b.natAbs < 1000000000000000000000000000000000000000000000000000000000000) : fdivD (.int i) (.int b) = some (.int (i.fdiv b), .fr) := by
  have := log2_small h
  show (if b ≠ 0 ∧ b.natAbs.log2 < 9000 then okA (.int (i.fdiv b)) else none) = _
  rw [if_pos ⟨hb, by omega⟩]; rfl
end TH
end
section
set_option linter.all false
set_option maxRecDepth 100000
namespace TH.Lk01
open PySem PySem.Spec PyProof.Rows L2
def topS (i : Nat) : Stmt := PySem.Challenge.pw_tanhall_k01_names_and_lots_of_names.main.body.getD i (.Pass ⟨0, 0, 0, 0⟩)
def sig : Sig := ⟨[("is_signs", "is_signs", ["value", "signs"], [false, false]),
  ("is_name", "is_name", ["value"], [false]),
  ("ascends", "ascends", ["items"], [false]),
  ("is_names", "is_names", ["value"], [false]),
  ("_law_hash", "_law_hash", ["seed", "index"], [false, false]),
  ("_law_cell", "_law_cell", ["script", "index"], [false, false]),
  ("_law_generator", "_law_generator", ["script", "index"], [false, false]),
  ("_law_random", "_law_random", ["generator", "bound"], [true, false]),
  ("_law_pick", "_law_pick", ["generator", "things"], [true, false]),
  ("_law_copied", "_law_copied", ["value"], [false]),
  ("_law_exact", "_law_exact", ["told", "due"], [false, false]),
  ("_law_unlike", "_law_unlike", ["items"], [false]),
  ("_law_any", "_law_any", ["generator"], [true]),
  ("_law_name", "_law_name", ["value"], [false]),
  ("_law_rise", "_law_rise", ["items"], [false]),
  ("_law_string", "_law_string", ["generator"], [true]),
  ("_law_numbers", "_law_numbers", ["generator"], [true]),
  ("_law_judged", "_law_judged", ["value"], [false]),
  ("law", "law", ["script"], [false])], [("SMALL", "SMALL"), ("FIGURES", "FIGURES"), ("MOST_NAME", "MOST_NAME")]⟩
def N_is_signs : List Str := ["value", "signs", ".0", "sign"]
def c_is_signs : List TH.S := [(.ret (.and_ (.op (.isi "str") [(.pk 0)]) (.op .eq [(.lc (.pt 0) (.nm 3) [2, 3] [(.op .notin [(.pk 3), (.pk 1)])] (.var 3)), (.op .lst [])])))]
def N_is_name : List Str := ["value"]
def c_is_name : List TH.S := [(.ret (.and_ (.call "is_signs" [(.var 0), (.op .add [(.con "SMALL"), (.con "FIGURES")])] [0, 1]) (.and_ (.chain .lt .le (.lit (.int 0)) (.op .len [(.pk 0)]) (.con "MOST_NAME")) (.op .isin [(.op .idx [(.pt 0), (.lit (.int 0))]), (.con "SMALL")]))))]
def N_ascends : List Str := ["items", ".0", "at"]
def c_ascends : List TH.S := [(.ret (.op .eq [(.lc (.sq .range2 [(.lit (.int 1)), (.op .len [(.pk 0)])]) (.nm 2) [1, 2] [(.op .ge [(.op .idx [(.pt 0), (.op .sub [(.pk 2), (.lit (.int 1))])]), (.op .idx [(.pt 0), (.pt 2)])])] (.var 2)), (.op .lst [])]))]
def N_is_names : List Str := ["value", ".0", "item"]
def c_is_names : List TH.S := [(.iff (.or_ (.not_ (.op (.isi "list") [(.pk 0)])) (.op .ne [(.lc (.pt 0) (.nm 2) [1, 2] [(.not_ (.call "is_name" [(.var 2)] [0]))] (.var 2)), (.op .lst [])])) [(.ret (.lit (.bool false)))] []),     (.ret (.call "ascends" [(.var 0)] [0]))]
def N__law_hash : List Str := ["seed", "index", "mixed"]
def c__law_hash : List TH.S := [(.asg (.nm 2) (.op .mod [(.op .int [(.op .add [(.op .add [(.op .add [(.op .mul [(.pt 0), (.lit (.int 1140671))]), (.op .mul [(.op .mul [(.lit (.int 27644437)), (.pt 1)]), (.pt 1)])]), (.op .mul [(.lit (.int 131)), (.pt 1)])]), (.lit (.int 19))])]), (.lit (.int 2147483629))])),     (.asg (.nm 2) (.op .mod [(.op .int [(.op .add [(.op .add [(.op .mul [(.pt 2), (.pt 2)]), (.op .mul [(.lit (.int 62089)), (.pt 1)])]), (.lit (.int 32416187))])]), (.lit (.int 2147483587))])),     (.ret (.op .mod [(.op .int [(.op .mul [(.pt 2), (.lit (.int 48271))])]), (.lit (.int 2147483647))]))]
def N__law_cell : List Str := ["script", "index"]
def c__law_cell : List TH.S := [(.iff (.op .lt [(.pk 1), (.op .len [(.pk 0)])]) [(.ret (.op .idx [(.pt 0), (.pt 1)]))] []),     (.ret (.op .mod [(.op .sum [(.op (.slc false true) [(.pt 0), (.lit (.int 1))])]), (.lit (.int 1000003))]))]
def N__law_generator : List Str := ["script", "index", "seed"]
def c__law_generator : List TH.S := [(.asg (.nm 2) (.call "_law_cell" [(.var 0), (.var 1)] [0, 1])),     (.ret (.op .lst [(.op .mod [(.op .int [(.op .max2 [(.op .sub [(.pk 2), (.op .pow [(.lit (.int 10)), (.lit (.int 18))])]), (.lit (.int 0))])]), (.op .pow [(.op .pow [(.lit (.int 10)), (.lit (.int 60))]), (.lit (.int 10))])]), (.op .mod [(.op .int [(.pk 2)]), (.lit (.int 2147483647))]), (.op .mul [(.lit (.int 1000)), (.pt 1)])]))]
def N__law_random : List Str := ["generator", "bound", "drawn", "turn"]
def c__law_random : List TH.S := [(.iff (.op .gt [(.op .idx [(.pt 0), (.lit (.int 0))]), (.lit (.int 0))]) [(.asg (.nm 2) (.op .mod [(.op .int [(.op .idx [(.pt 0), (.lit (.int 0))])]), (.pk 1)])),     (.seti 0 (.lit (.int 0)) (.op .fdiv [(.op .idx [(.pt 0), (.lit (.int 0))]), (.pk 1)])),     (.ret (.mv 2))] []),     (.asg (.nm 2) (.lit (.int 0))),     (.for_ (.nm 3) (.sq .range1 [(.op .add [(.lit (.int 1)), (.op .fdiv [(.op .bits [(.pk 1)]), (.lit (.int 30))])])]) [(.seti 0 (.lit (.int 2)) (.op .add [(.op .idx [(.pt 0), (.lit (.int 2))]), (.lit (.int 1))])),     (.asg (.nm 2) (.op .add [(.op .mul [(.pt 2), (.lit (.int 2147483587))]), (.call "_law_hash" [(.op .idx [(.pt 0), (.lit (.int 1))]), (.op .idx [(.pt 0), (.lit (.int 2))])] [0, 1])]))]),     (.ret (.op .mod [(.op .int [(.pk 2)]), (.pk 1)]))]
def N__law_pick : List Str := ["generator", "things"]
def c__law_pick : List TH.S := [(.ret (.op .idx [(.pt 1), (.call "_law_random" [(.io 0), (.op .len [(.pk 1)])] [0, 1])]))]
def N__law_copied : List Str := ["value", ".0", "item", "key"]
def c__law_copied : List TH.S := [(.iff (.op (.isi "list") [(.pk 0)]) [(.ret (.lc (.pt 0) (.nm 2) [1, 2] [] (.call "_law_copied" [(.var 2)] [0])))] []),     (.iff (.op (.isi "tuple") [(.pk 0)]) [(.ret (.op .tuple [(.lc (.pt 0) (.nm 2) [1, 2] [] (.call "_law_copied" [(.var 2)] [0]))]))] []),     (.ret (.ite (.op (.isi "dict") [(.pk 0)]) (.op .dict [(.lc (.var 0) (.nm 3) [1, 3] [] (.op .tup [(.var 3), (.call "_law_copied" [(.op .idx [(.pt 0), (.pt 3)])] [0])]))]) (.var 0)))]
def N__law_exact : List Str := ["told", "due", ".0", "one", "other"]
def c__law_exact : List TH.S := [(.iff (.op (.isi "list") [(.pk 1)]) [(.ret (.and_ (.op (.isi "list") [(.pk 0)]) (.and_ (.op .eq [(.op .len [(.pk 0)]), (.op .len [(.pk 1)])]) (.op .notin [(.lit (.bool false)), (.lc (.sq .zip [(.var 0), (.var 1)]) (.tp [(.nm 3), (.nm 4)]) [2, 3, 4] [] (.call "_law_exact" [(.var 3), (.var 4)] [0, 1]))]))))] []),     (.iff (.op (.isi "tuple") [(.pk 1)]) [(.ret (.and_ (.op (.isi "tuple") [(.pk 0)]) (.and_ (.op .eq [(.op .len [(.pk 0)]), (.op .len [(.pk 1)])]) (.op .notin [(.lit (.bool false)), (.lc (.sq .zip [(.var 0), (.var 1)]) (.tp [(.nm 3), (.nm 4)]) [2, 3, 4] [] (.call "_law_exact" [(.var 3), (.var 4)] [0, 1]))]))))] []),     (.iff (.op .isNone [(.pk 1)]) [(.ret (.op .isNone [(.pk 0)]))] []),     (.iff (.op .isTrue [(.pk 1)]) [(.ret (.op .isTrue [(.pk 0)]))] []),     (.iff (.op .isFalse [(.pk 1)]) [(.ret (.op .isFalse [(.pk 0)]))] []),     (.iff (.op (.isi "int") [(.pk 1)]) [(.ret (.and_ (.op (.isi "int") [(.pk 0)]) (.and_ (.not_ (.op (.isi "bool") [(.pk 0)])) (.op .eq [(.pk 0), (.pk 1)]))))] []),     (.ret (.and_ (.op (.isi "str") [(.pk 0)]) (.op .eq [(.pk 0), (.pk 1)])))]
def N__law_unlike : List Str := ["items", "found", "item"]
def c__law_unlike : List TH.S := [(.asg (.nm 1) (.op .lst [])),     (.for_ (.nm 2) (.op .sorted [(.pt 0)]) [(.iff (.op .notin [(.pk 2), (.pk 1)]) [(.ex (.mut .append 1 [(.var 2)]))] [])]),     (.ret (.mv 1))]
def N__law_any : List Str := ["generator", "menu"]
def c__law_any : List TH.S := [(.asg (.nm 1) (.op .lst [(.lit .none), (.lit (.bool true)), (.lit (.bool false)), (.lit (.int 0)), (.lit (.int 1)), (.op .neg [(.lit (.int 1))]), (.op .pow [(.lit (.int 10)), (.lit (.int 11))]), (.lit (.str "")), (.lit (.str "a")), (.lit (.str "A")), (.lit (.str "ab")), (.lit (.str "a b")), (.lit (.str "1a")), (.lit (.str "a1")), (.lit (.str " ")), (.lit (.str ⟨#[97, 10]⟩)), (.op .mul [(.lit (.str "z")), (.lit (.int 20))]), (.op .mul [(.lit (.str "z")), (.lit (.int 21))]), (.lit (.str "abcdefgh")), (.lit (.str "abcdefghi"))])),     (.asg (.nm 1) (.op .add [(.pt 1), (.op .lst [(.op .lst []), (.op .tup []), (.op .dct []), (.op .lst [(.lit (.int 0))]), (.op .lst [(.lit (.int 1)), (.lit (.int 0))]), (.op .lst [(.lit (.int 0)), (.lit (.str "a"))]), (.op .lst [(.lit (.str "a")), (.lit (.int 0))]), (.op .lst [(.lit .none), (.lit (.int 0))]), (.op .lst [(.lit (.int 0)), (.op .lst [(.lit (.int 1))])]), (.op .lst [(.lit (.int 0)), (.op .tup [(.lit (.int 1))])]), (.op .lst [(.lit (.bool true))]), (.op .lst [(.lit (.int 0)), (.lit (.int 1))]), (.op .lst [(.lit (.int 0)), (.lit (.int 0))]), (.op .tup [(.lit (.int 0)), (.lit (.int 1))]), (.op .lst [(.lit (.str "a"))]), (.op .lst [(.op .lst [])])])])),     (.asg (.nm 1) (.op .add [(.pt 1), (.op .lst [(.op .dct [(.lit (.str "a")), (.lit (.int 1))]), (.op .lst [(.lit (.int 1)), (.lit (.int 2)), (.op .pow [(.lit (.int 10)), (.lit (.int 11))])]), (.op .lst [(.op .neg [(.lit (.int 1))])]), (.lit (.str "a_b")), (.lit (.str "aB")), (.op .mul [(.lit (.str "a")), (.lit (.int 200))]), (.lit (.str "e0")), (.lit (.str "0")), (.lit (.str "house")), (.op .tup [(.lit (.str "house"))])])])),     (.ret (.call "_law_copied" [(.call "_law_pick" [(.io 0), (.var 1)] [0, 1])] [0]))]
def N__law_name : List Str := ["value", ".0", "sign"]
def c__law_name : List TH.S := [(.iff (.or_ (.not_ (.op (.isi "str") [(.pk 0)])) (.or_ (.op .gt [(.op .len [(.pk 0)]), (.lit (.int 8))]) (.op .notin [(.op (.slc false true) [(.pt 0), (.lit (.int 1))]), (.op .list [(.lit (.str "abcdefghijklmnopqrstuvwxyz"))])]))) [(.ret (.lit (.bool false)))] []),     (.ret (.op .eq [(.lc (.pt 0) (.nm 2) [1, 2] [(.op .notin [(.pk 2), (.lit (.str "abcdefghijklmnopqrstuvwxyz0123456789"))])] (.var 2)), (.op .lst [])]))]
def N__law_rise : List Str := ["items", ".0", "at"]
def c__law_rise : List TH.S := [(.ret (.op .eq [(.lc (.sq .range2 [(.lit (.int 1)), (.op .len [(.pk 0)])]) (.nm 2) [1, 2] [(.op .ge [(.op .idx [(.pt 0), (.op .sub [(.pk 2), (.lit (.int 1))])]), (.op .idx [(.pt 0), (.pt 2)])])] (.var 2)), (.op .lst [])]))]
def N__law_string : List Str := ["generator", "signs", ".0", "turn"]
def c__law_string : List TH.S := [(.asg (.nm 1) (.call "_law_pick" [(.io 0), (.op .lst [(.lit (.str "ab")), (.lit (.str "abcdefghijklmnopqrstuvwxyz")), (.lit (.str "a0123456789")), (.lit (.str "aZ_ -~")), (.lit (.str ⟨#[97, 48, 10, 9]⟩))])] [0, 1])),     (.ret (.op .join [(.lit (.str "")), (.lc (.sq .range1 [(.call "_law_random" [(.io 0), (.lit (.int 24))] [0, 1])]) (.nm 3) [2, 3] [] (.call "_law_pick" [(.io 0), (.var 1)] [0, 1]))]))]
def N__law_numbers : List Str := ["generator", ".0", "turn"]
def c__law_numbers : List TH.S := [(.ret (.lc (.sq .range1 [(.call "_law_random" [(.io 0), (.lit (.int 6))] [0, 1])]) (.nm 2) [1, 2] [] (.op .sub [(.call "_law_random" [(.io 0), (.call "_law_pick" [(.io 0), (.op .lst [(.lit (.int 3)), (.lit (.int 9)), (.op .pow [(.lit (.int 10)), (.lit (.int 12))])])] [0, 1])] [0, 1]), (.call "_law_random" [(.io 0), (.lit (.int 2))] [0, 1])])))]
def N__law_judged : List Str := ["value", "kept", "lots", "due", "told", "again", ".0", "item"]
def c__law_judged : List TH.S := [(.asg (.nm 1) (.op .repr [(.pk 0)])),     (.asg (.nm 2) (.and_ (.op (.isi "list") [(.pk 0)]) (.op .eq [(.lc (.pt 0) (.nm 7) [6, 7] [(.not_ (.call "_law_name" [(.var 7)] [0]))] (.var 7)), (.op .lst [])]))),     (.asg (.nm 3) (.op .lst [(.call "_law_name" [(.var 0)] [0]), (.and_ (.var 2) (.call "_law_rise" [(.var 0)] [0]))])),     (.asg (.nm 4) (.op .lst [(.call "is_name" [(.var 0)] [0]), (.call "is_names" [(.var 0)] [0])])),     (.asg (.nm 5) (.op .lst [(.call "is_name" [(.var 0)] [0]), (.call "is_names" [(.var 0)] [0])])),     (.ret (.and_ (.call "_law_exact" [(.var 4), (.var 3)] [0, 1]) (.and_ (.call "_law_exact" [(.var 5), (.var 3)] [0, 1]) (.op .eq [(.op .repr [(.pk 0)]), (.pk 1)]))))]
def N_law : List Str := ["script", "index", "generator", "turn", "numbers", "menu", "names", "good", "lists", "value", "many", "due", ".0", "at", "name"]
def c_law : List TH.S := [(.for_ (.nm 1) (.sq .range1 [(.lit (.int 3))]) [(.asg (.nm 2) (.call "_law_generator" [(.var 0), (.var 1)] [0, 1])),     (.for_ (.nm 3) (.sq .range1 [(.lit (.int 12))]) [(.asg (.nm 4) (.call "_law_numbers" [(.io 2)] [0])),     (.asg (.nm 5) (.op .lst [(.lit (.str "a")), (.lit (.str "b")), (.lit (.str "ab")), (.lit (.str "a1")), (.lit (.str "z")), (.lit (.str "abcdefgh")), (.lit (.str "abcdefghi")), (.lit (.str "A")), (.lit (.str "")), (.lit (.str "1a")), (.lit (.int 1)), (.lit .none), (.lit (.str "arm")), (.lit (.str "old")), (.lit (.str "a b")), (.lit (.str "aB")), (.lit (.str "a_b")), (.lit (.str ⟨#[97, 10]⟩)), (.lit (.str "a1b")), (.lit (.str "z0z0z0z0"))])),     (.asg (.nm 6) (.lc (.sq .range1 [(.call "_law_random" [(.io 2), (.lit (.int 5))] [0, 1])]) (.nm 13) [12, 13] [] (.call "_law_pick" [(.io 2), (.var 5)] [0, 1]))),     (.asg (.nm 7) (.lc (.pt 6) (.nm 14) [12, 14] [(.and_ (.op (.isi "str") [(.pk 14)]) (.call "_law_name" [(.var 14)] [0]))] (.var 14))),     (.asg (.nm 8) (.op .lst [(.var 6), (.var 7), (.op .sorted [(.pt 7)]), (.call "_law_unlike" [(.var 7)] [0]), (.op .tuple [(.call "_law_unlike" [(.var 7)] [0])]), (.op (.slc false true) [(.call "_law_unlike" [(.var 7)] [0]), (.lit (.int 1))]), (.op .rev [(.call "_law_unlike" [(.var 7)] [0])])])),     (.for_ (.nm 9) (.op .add [(.op .lst [(.call "_law_any" [(.io 2)] [0]), (.call "_law_string" [(.io 2)] [0]), (.var 4), (.op .sorted [(.pt 4)]), (.call "_law_unlike" [(.var 4)] [0]), (.op .tuple [(.call "_law_unlike" [(.var 4)] [0])])]), (.pt 8)]) [(.iff (.not_ (.call "_law_judged" [(.var 9)] [0])) [(.ret (.lit (.bool false)))] [])])])]),     (.asg (.nm 10) (.lc (.sq .range1 [(.lit (.int 60))]) (.nm 13) [12, 13] [] (.op .add [(.lit (.str "n")), (.op .str [(.op .add [(.lit (.int 10)), (.pt 13)])])]))),     (.asg (.nm 11) (.lc (.op .lst [(.var 10), (.op .add [(.op (.slc false true) [(.pt 10), (.lit (.int 58))]), (.op .lst [(.op .idx [(.pt 10), (.lit (.int 59))]), (.op .idx [(.pt 10), (.lit (.int 58))])])]), (.op .add [(.op (.slc false true) [(.pt 10), (.lit (.int 59))]), (.op .lst [(.op .idx [(.pt 10), (.lit (.int 58))])])]), (.op .add [(.pt 10), (.op .lst [(.lit (.str "A"))])])]) (.nm 9) [12, 9] [] (.call "_law_judged" [(.var 9)] [0]))),     (.asg (.nm 11) (.op .add [(.pt 11), (.lc (.op .lst [(.op .lst [(.lit (.int 0)), (.lit (.str "a"))]), (.op .lst [(.lit (.str "a")), (.lit (.int 0))]), (.op .lst [(.lit .none), (.lit (.int 0))]), (.op .lst [(.lit (.int 0)), (.op .lst [(.lit (.int 1))])]), (.lit (.int 0)), (.op .pow [(.lit (.int 10)), (.lit (.int 12))]), (.lit (.bool true)), (.op .neg [(.lit (.int 1))]), (.op .mul [(.lit (.str "a")), (.lit (.int 8))]), (.op .mul [(.lit (.str "a")), (.lit (.int 9))]), (.lit (.str "a0")), (.lit (.str "0a")), (.op .lst []), (.op .lst [(.lit (.int 0))]), (.op .lst [(.lit (.int 0)), (.op .pow [(.lit (.int 10)), (.lit (.int 12))])]), (.op .lst [(.lit (.bool true))]), (.op .lst [(.lit (.int 1)), (.lit (.int 1))]), (.op .lst [(.lit (.int 2)), (.lit (.int 1))])]) (.nm 9) [12, 9] [] (.call "_law_judged" [(.var 9)] [0]))])),     (.ret (.op .notin [(.lit (.bool false)), (.pk 11)]))]
def defs : String → Option DefI := fun f => match f with
  | "is_signs" => some ⟨[false, false], 4, c_is_signs⟩
  | "is_name" => some ⟨[false], 1, c_is_name⟩
  | "ascends" => some ⟨[false], 3, c_ascends⟩
  | "is_names" => some ⟨[false], 3, c_is_names⟩
  | "_law_hash" => some ⟨[false, false], 3, c__law_hash⟩
  | "_law_cell" => some ⟨[false, false], 2, c__law_cell⟩
  | "_law_generator" => some ⟨[false, false], 3, c__law_generator⟩
  | "_law_random" => some ⟨[true, false], 4, c__law_random⟩
  | "_law_pick" => some ⟨[true, false], 2, c__law_pick⟩
  | "_law_copied" => some ⟨[false], 4, c__law_copied⟩
  | "_law_exact" => some ⟨[false, false], 5, c__law_exact⟩
  | "_law_unlike" => some ⟨[false], 3, c__law_unlike⟩
  | "_law_any" => some ⟨[true], 2, c__law_any⟩
  | "_law_name" => some ⟨[false], 3, c__law_name⟩
  | "_law_rise" => some ⟨[false], 3, c__law_rise⟩
  | "_law_string" => some ⟨[true], 4, c__law_string⟩
  | "_law_numbers" => some ⟨[true], 3, c__law_numbers⟩
  | "_law_judged" => some ⟨[false], 8, c__law_judged⟩
  | "law" => some ⟨[false], 15, c_law⟩
  | _ => none
def con : String → Option D := fun f => match f with
  | "SMALL" => some (.str "abcdefghijklmnopqrstuvwxyz")
  | "FIGURES" => some (.str "0123456789")
  | "MOST_NAME" => some (.int 8)
  | _ => none
theorem sc_is_signs : FnScope N_is_signs ["value", "signs"] (defScope (topS 4)) := ⟨rfl, rfl, rfl, by decide +kernel, rfl, by decide +kernel, by decide +kernel⟩
theorem cc_is_signs : (cBody ⟨sig, N_is_signs, defScope (topS 4), fun _ => true⟩ (defBody (topS 4))).map (·.1) = some c_is_signs := by with_unfolding_all rfl
theorem sc_is_name : FnScope N_is_name ["value"] (defScope (topS 5)) := ⟨rfl, rfl, rfl, by decide +kernel, rfl, by decide +kernel, by decide +kernel⟩
theorem cc_is_name : (cBody ⟨sig, N_is_name, defScope (topS 5), fun _ => true⟩ (defBody (topS 5))).map (·.1) = some c_is_name := by with_unfolding_all rfl
theorem sc_ascends : FnScope N_ascends ["items"] (defScope (topS 6)) := ⟨rfl, rfl, rfl, by decide +kernel, rfl, by decide +kernel, by decide +kernel⟩
theorem cc_ascends : (cBody ⟨sig, N_ascends, defScope (topS 6), fun _ => true⟩ (defBody (topS 6))).map (·.1) = some c_ascends := by with_unfolding_all rfl
theorem sc_is_names : FnScope N_is_names ["value"] (defScope (topS 7)) := ⟨rfl, rfl, rfl, by decide +kernel, rfl, by decide +kernel, by decide +kernel⟩
theorem cc_is_names : (cBody ⟨sig, N_is_names, defScope (topS 7), fun _ => true⟩ (defBody (topS 7))).map (·.1) = some c_is_names := by with_unfolding_all rfl
theorem sc__law_hash : FnScope N__law_hash ["seed", "index"] (defScope (topS 9)) := ⟨rfl, rfl, rfl, by decide +kernel, rfl, by decide +kernel, by decide +kernel⟩
theorem cc__law_hash : (cBody ⟨sig, N__law_hash, defScope (topS 9), fun _ => true⟩ (defBody (topS 9))).map (·.1) = some c__law_hash := by with_unfolding_all rfl
theorem sc__law_cell : FnScope N__law_cell ["script", "index"] (defScope (topS 10)) := ⟨rfl, rfl, rfl, by decide +kernel, rfl, by decide +kernel, by decide +kernel⟩
theorem cc__law_cell : (cBody ⟨sig, N__law_cell, defScope (topS 10), fun _ => true⟩ (defBody (topS 10))).map (·.1) = some c__law_cell := by with_unfolding_all rfl
theorem sc__law_generator : FnScope N__law_generator ["script", "index"] (defScope (topS 11)) := ⟨rfl, rfl, rfl, by decide +kernel, rfl, by decide +kernel, by decide +kernel⟩
theorem cc__law_generator : (cBody ⟨sig, N__law_generator, defScope (topS 11), fun _ => true⟩ (defBody (topS 11))).map (·.1) = some c__law_generator := by with_unfolding_all rfl
theorem sc__law_random : FnScope N__law_random ["generator", "bound"] (defScope (topS 12)) := ⟨rfl, rfl, rfl, by decide +kernel, rfl, by decide +kernel, by decide +kernel⟩
theorem cc__law_random : (cBody ⟨sig, N__law_random, defScope (topS 12), fun _ => true⟩ (defBody (topS 12))).map (·.1) = some c__law_random := by with_unfolding_all rfl
theorem sc__law_pick : FnScope N__law_pick ["generator", "things"] (defScope (topS 13)) := ⟨rfl, rfl, rfl, by decide +kernel, rfl, by decide +kernel, by decide +kernel⟩
theorem cc__law_pick : (cBody ⟨sig, N__law_pick, defScope (topS 13), fun _ => true⟩ (defBody (topS 13))).map (·.1) = some c__law_pick := by with_unfolding_all rfl
theorem sc__law_copied : FnScope N__law_copied ["value"] (defScope (topS 14)) := ⟨rfl, rfl, rfl, by decide +kernel, rfl, by decide +kernel, by decide +kernel⟩
theorem cc__law_copied : (cBody ⟨sig, N__law_copied, defScope (topS 14), fun _ => true⟩ (defBody (topS 14))).map (·.1) = some c__law_copied := by with_unfolding_all rfl
theorem sc__law_exact : FnScope N__law_exact ["told", "due"] (defScope (topS 15)) := ⟨rfl, rfl, rfl, by decide +kernel, rfl, by decide +kernel, by decide +kernel⟩
theorem cc__law_exact : (cBody ⟨sig, N__law_exact, defScope (topS 15), fun _ => true⟩ (defBody (topS 15))).map (·.1) = some c__law_exact := by with_unfolding_all rfl
theorem sc__law_unlike : FnScope N__law_unlike ["items"] (defScope (topS 16)) := ⟨rfl, rfl, rfl, by decide +kernel, rfl, by decide +kernel, by decide +kernel⟩
theorem cc__law_unlike : (cBody ⟨sig, N__law_unlike, defScope (topS 16), fun _ => true⟩ (defBody (topS 16))).map (·.1) = some c__law_unlike := by with_unfolding_all rfl
theorem sc__law_any : FnScope N__law_any ["generator"] (defScope (topS 17)) := ⟨rfl, rfl, rfl, by decide +kernel, rfl, by decide +kernel, by decide +kernel⟩
theorem cc__law_any : (cBody ⟨sig, N__law_any, defScope (topS 17), fun _ => true⟩ (defBody (topS 17))).map (·.1) = some c__law_any := by with_unfolding_all rfl
theorem sc__law_name : FnScope N__law_name ["value"] (defScope (topS 18)) := ⟨rfl, rfl, rfl, by decide +kernel, rfl, by decide +kernel, by decide +kernel⟩
theorem cc__law_name : (cBody ⟨sig, N__law_name, defScope (topS 18), fun _ => true⟩ (defBody (topS 18))).map (·.1) = some c__law_name := by with_unfolding_all rfl
theorem sc__law_rise : FnScope N__law_rise ["items"] (defScope (topS 19)) := ⟨rfl, rfl, rfl, by decide +kernel, rfl, by decide +kernel, by decide +kernel⟩
theorem cc__law_rise : (cBody ⟨sig, N__law_rise, defScope (topS 19), fun _ => true⟩ (defBody (topS 19))).map (·.1) = some c__law_rise := by with_unfolding_all rfl
theorem sc__law_string : FnScope N__law_string ["generator"] (defScope (topS 20)) := ⟨rfl, rfl, rfl, by decide +kernel, rfl, by decide +kernel, by decide +kernel⟩
theorem cc__law_string : (cBody ⟨sig, N__law_string, defScope (topS 20), fun _ => true⟩ (defBody (topS 20))).map (·.1) = some c__law_string := by with_unfolding_all rfl
theorem sc__law_numbers : FnScope N__law_numbers ["generator"] (defScope (topS 21)) := ⟨rfl, rfl, rfl, by decide +kernel, rfl, by decide +kernel, by decide +kernel⟩
theorem cc__law_numbers : (cBody ⟨sig, N__law_numbers, defScope (topS 21), fun _ => true⟩ (defBody (topS 21))).map (·.1) = some c__law_numbers := by with_unfolding_all rfl
theorem sc__law_judged : FnScope N__law_judged ["value"] (defScope (topS 22)) := ⟨rfl, rfl, rfl, by decide +kernel, rfl, by decide +kernel, by decide +kernel⟩
theorem cc__law_judged : (cBody ⟨sig, N__law_judged, defScope (topS 22), fun _ => true⟩ (defBody (topS 22))).map (·.1) = some c__law_judged := by with_unfolding_all rfl
theorem sc_law : FnScope N_law ["script"] (defScope (topS 23)) := ⟨rfl, rfl, rfl, by decide +kernel, rfl, by decide +kernel, by decide +kernel⟩
theorem cc_law : (cBody ⟨sig, N_law, defScope (topS 23), fun _ => true⟩ (defBody (topS 23))).map (·.1) = some c_law := by with_unfolding_all rfl
def lvl : Nat := 40
def fuel : Nat := 100000
theorem bltNone {K : PySem.W.Frag} {h : Heap} {mg : Str → Option Value} (X : K.In h) (G : h.Ns mainGlobals mg) (z0 : PySem.W.nsIn K mainGlobals "len" = some none) (z1 : PySem.W.nsIn K mainGlobals "repr" = some none) (z2 : PySem.W.nsIn K mainGlobals "str" = some none) (z3 : PySem.W.nsIn K mainGlobals "int" = some none) (z4 : PySem.W.nsIn K mainGlobals "abs" = some none) (z5 : PySem.W.nsIn K mainGlobals "max" = some none) (z6 : PySem.W.nsIn K mainGlobals "min" = some none) (z7 : PySem.W.nsIn K mainGlobals "sum" = some none) (z8 : PySem.W.nsIn K mainGlobals "all" = some none) (z9 : PySem.W.nsIn K mainGlobals "any" = some none) (z10 : PySem.W.nsIn K mainGlobals "sorted" = some none) (z11 : PySem.W.nsIn K mainGlobals "list" = some none) (z12 : PySem.W.nsIn K mainGlobals "tuple" = some none) (z13 : PySem.W.nsIn K mainGlobals "dict" = some none) (z14 : PySem.W.nsIn K mainGlobals "range" = some none) (z15 : PySem.W.nsIn K mainGlobals "enumerate" = some none) (z16 : PySem.W.nsIn K mainGlobals "zip" = some none) (z17 : PySem.W.nsIn K mainGlobals "isinstance" = some none) (z18 : PySem.W.nsIn K mainGlobals "bool" = some none) (z19 : PySem.W.nsIn K mainGlobals "set" = some none) : ∀ x ∈ bltAll, mg x = none := by
  intro x hx
  simp only [bltAll, List.mem_cons, List.not_mem_nil, or_false] at hx
  rcases hx with rfl | rfl | rfl | rfl | rfl | rfl | rfl | rfl | rfl | rfl | rfl | rfl | rfl | rfl | rfl | rfl | rfl | rfl | rfl | rfl
  · exact PySem.W.mg_none_of X G z0
  · exact PySem.W.mg_none_of X G z1
  · exact PySem.W.mg_none_of X G z2
  · exact PySem.W.mg_none_of X G z3
  · exact PySem.W.mg_none_of X G z4
  · exact PySem.W.mg_none_of X G z5
  · exact PySem.W.mg_none_of X G z6
  · exact PySem.W.mg_none_of X G z7
  · exact PySem.W.mg_none_of X G z8
  · exact PySem.W.mg_none_of X G z9
  · exact PySem.W.mg_none_of X G z10
  · exact PySem.W.mg_none_of X G z11
  · exact PySem.W.mg_none_of X G z12
  · exact PySem.W.mg_none_of X G z13
  · exact PySem.W.mg_none_of X G z14
  · exact PySem.W.mg_none_of X G z15
  · exact PySem.W.mg_none_of X G z16
  · exact PySem.W.mg_none_of X G z17
  · exact PySem.W.mg_none_of X G z18
  · exact PySem.W.mg_none_of X G z19
set_option maxHeartbeats 0 in
theorem lawF {l : PySem.W.OpenLaw} {w : World} {K : PySem.W.Frag} {h : Heap} {mg : Str → Option Value} {fa : Addr} (X : K.In h) (G : h.Ns mainGlobals mg) (hfa : mg "law" = some (.ref fa))
    {f0 : Addr} {od0 an0 : Option Addr} {sl0 : Array (Option Value)} {oc0 kV0 dc0 pm0 cd0 ct0 : Value}
    {f1 : Addr} {od1 an1 : Option Addr} {sl1 : Array (Option Value)} {oc1 kV1 dc1 pm1 cd1 ct1 : Value}
    {f2 : Addr} {od2 an2 : Option Addr} {sl2 : Array (Option Value)} {oc2 kV2 dc2 pm2 cd2 ct2 : Value}
    {f3 : Addr} {od3 an3 : Option Addr} {sl3 : Array (Option Value)} {oc3 kV3 dc3 pm3 cd3 ct3 : Value}
    {f4 : Addr} {od4 an4 : Option Addr} {sl4 : Array (Option Value)} {oc4 kV4 dc4 pm4 cd4 ct4 : Value}
    {f5 : Addr} {od5 an5 : Option Addr} {sl5 : Array (Option Value)} {oc5 kV5 dc5 pm5 cd5 ct5 : Value}
    {f6 : Addr} {od6 an6 : Option Addr} {sl6 : Array (Option Value)} {oc6 kV6 dc6 pm6 cd6 ct6 : Value}
    {f7 : Addr} {od7 an7 : Option Addr} {sl7 : Array (Option Value)} {oc7 kV7 dc7 pm7 cd7 ct7 : Value}
    {f8 : Addr} {od8 an8 : Option Addr} {sl8 : Array (Option Value)} {oc8 kV8 dc8 pm8 cd8 ct8 : Value}
    {f9 : Addr} {od9 an9 : Option Addr} {sl9 : Array (Option Value)} {oc9 kV9 dc9 pm9 cd9 ct9 : Value}
    {f10 : Addr} {od10 an10 : Option Addr} {sl10 : Array (Option Value)} {oc10 kV10 dc10 pm10 cd10 ct10 : Value}
    {f11 : Addr} {od11 an11 : Option Addr} {sl11 : Array (Option Value)} {oc11 kV11 dc11 pm11 cd11 ct11 : Value}
    {f12 : Addr} {od12 an12 : Option Addr} {sl12 : Array (Option Value)} {oc12 kV12 dc12 pm12 cd12 ct12 : Value}
    {f13 : Addr} {od13 an13 : Option Addr} {sl13 : Array (Option Value)} {oc13 kV13 dc13 pm13 cd13 ct13 : Value}
    {f14 : Addr} {od14 an14 : Option Addr} {sl14 : Array (Option Value)} {oc14 kV14 dc14 pm14 cd14 ct14 : Value}
    {f15 : Addr} {od15 an15 : Option Addr} {sl15 : Array (Option Value)} {oc15 kV15 dc15 pm15 cd15 ct15 : Value}
    {f16 : Addr} {od16 an16 : Option Addr} {sl16 : Array (Option Value)} {oc16 kV16 dc16 pm16 cd16 ct16 : Value}
    {f17 : Addr} {od17 an17 : Option Addr} {sl17 : Array (Option Value)} {oc17 kV17 dc17 pm17 cd17 ct17 : Value}
    {f18 : Addr} {od18 an18 : Option Addr} {sl18 : Array (Option Value)} {oc18 kV18 dc18 pm18 cd18 ct18 : Value}
    (a0 : PySem.W.nsIn K mainGlobals "is_signs" = some (some (.ref f0)))
    (l0 : K.lookup f0 = some ⟨oc0, od0, .func (PySem.W.fnOf "is_signs" "is_signs" (defArgs (topS 4)) (defBody (topS 4)) (defScope (topS 4)) .none kV0 dc0 pm0 an0 cd0 ct0), sl0⟩)
    (d0 : PySem.W.codeIn K cd0 "is_signs" = true)
    (k0 : PySem.W.keepIn K (.ref f0) = true)
    (a1 : PySem.W.nsIn K mainGlobals "is_name" = some (some (.ref f1)))
    (l1 : K.lookup f1 = some ⟨oc1, od1, .func (PySem.W.fnOf "is_name" "is_name" (defArgs (topS 5)) (defBody (topS 5)) (defScope (topS 5)) .none kV1 dc1 pm1 an1 cd1 ct1), sl1⟩)
    (d1 : PySem.W.codeIn K cd1 "is_name" = true)
    (k1 : PySem.W.keepIn K (.ref f1) = true)
    (a2 : PySem.W.nsIn K mainGlobals "ascends" = some (some (.ref f2)))
    (l2 : K.lookup f2 = some ⟨oc2, od2, .func (PySem.W.fnOf "ascends" "ascends" (defArgs (topS 6)) (defBody (topS 6)) (defScope (topS 6)) .none kV2 dc2 pm2 an2 cd2 ct2), sl2⟩)
    (d2 : PySem.W.codeIn K cd2 "ascends" = true)
    (k2 : PySem.W.keepIn K (.ref f2) = true)
    (a3 : PySem.W.nsIn K mainGlobals "is_names" = some (some (.ref f3)))
    (l3 : K.lookup f3 = some ⟨oc3, od3, .func (PySem.W.fnOf "is_names" "is_names" (defArgs (topS 7)) (defBody (topS 7)) (defScope (topS 7)) .none kV3 dc3 pm3 an3 cd3 ct3), sl3⟩)
    (d3 : PySem.W.codeIn K cd3 "is_names" = true)
    (k3 : PySem.W.keepIn K (.ref f3) = true)
    (a4 : PySem.W.nsIn K mainGlobals "_law_hash" = some (some (.ref f4)))
    (l4 : K.lookup f4 = some ⟨oc4, od4, .func (PySem.W.fnOf "_law_hash" "_law_hash" (defArgs (topS 9)) (defBody (topS 9)) (defScope (topS 9)) .none kV4 dc4 pm4 an4 cd4 ct4), sl4⟩)
    (d4 : PySem.W.codeIn K cd4 "_law_hash" = true)
    (k4 : PySem.W.keepIn K (.ref f4) = true)
    (a5 : PySem.W.nsIn K mainGlobals "_law_cell" = some (some (.ref f5)))
    (l5 : K.lookup f5 = some ⟨oc5, od5, .func (PySem.W.fnOf "_law_cell" "_law_cell" (defArgs (topS 10)) (defBody (topS 10)) (defScope (topS 10)) .none kV5 dc5 pm5 an5 cd5 ct5), sl5⟩)
    (d5 : PySem.W.codeIn K cd5 "_law_cell" = true)
    (k5 : PySem.W.keepIn K (.ref f5) = true)
    (a6 : PySem.W.nsIn K mainGlobals "_law_generator" = some (some (.ref f6)))
    (l6 : K.lookup f6 = some ⟨oc6, od6, .func (PySem.W.fnOf "_law_generator" "_law_generator" (defArgs (topS 11)) (defBody (topS 11)) (defScope (topS 11)) .none kV6 dc6 pm6 an6 cd6 ct6), sl6⟩)
    (d6 : PySem.W.codeIn K cd6 "_law_generator" = true)
    (k6 : PySem.W.keepIn K (.ref f6) = true)
    (a7 : PySem.W.nsIn K mainGlobals "_law_random" = some (some (.ref f7)))
    (l7 : K.lookup f7 = some ⟨oc7, od7, .func (PySem.W.fnOf "_law_random" "_law_random" (defArgs (topS 12)) (defBody (topS 12)) (defScope (topS 12)) .none kV7 dc7 pm7 an7 cd7 ct7), sl7⟩)
    (d7 : PySem.W.codeIn K cd7 "_law_random" = true)
    (k7 : PySem.W.keepIn K (.ref f7) = true)
    (a8 : PySem.W.nsIn K mainGlobals "_law_pick" = some (some (.ref f8)))
    (l8 : K.lookup f8 = some ⟨oc8, od8, .func (PySem.W.fnOf "_law_pick" "_law_pick" (defArgs (topS 13)) (defBody (topS 13)) (defScope (topS 13)) .none kV8 dc8 pm8 an8 cd8 ct8), sl8⟩)
    (d8 : PySem.W.codeIn K cd8 "_law_pick" = true)
    (k8 : PySem.W.keepIn K (.ref f8) = true)
    (a9 : PySem.W.nsIn K mainGlobals "_law_copied" = some (some (.ref f9)))
    (l9 : K.lookup f9 = some ⟨oc9, od9, .func (PySem.W.fnOf "_law_copied" "_law_copied" (defArgs (topS 14)) (defBody (topS 14)) (defScope (topS 14)) .none kV9 dc9 pm9 an9 cd9 ct9), sl9⟩)
    (d9 : PySem.W.codeIn K cd9 "_law_copied" = true)
    (k9 : PySem.W.keepIn K (.ref f9) = true)
    (a10 : PySem.W.nsIn K mainGlobals "_law_exact" = some (some (.ref f10)))
    (l10 : K.lookup f10 = some ⟨oc10, od10, .func (PySem.W.fnOf "_law_exact" "_law_exact" (defArgs (topS 15)) (defBody (topS 15)) (defScope (topS 15)) .none kV10 dc10 pm10 an10 cd10 ct10), sl10⟩)
    (d10 : PySem.W.codeIn K cd10 "_law_exact" = true)
    (k10 : PySem.W.keepIn K (.ref f10) = true)
    (a11 : PySem.W.nsIn K mainGlobals "_law_unlike" = some (some (.ref f11)))
    (l11 : K.lookup f11 = some ⟨oc11, od11, .func (PySem.W.fnOf "_law_unlike" "_law_unlike" (defArgs (topS 16)) (defBody (topS 16)) (defScope (topS 16)) .none kV11 dc11 pm11 an11 cd11 ct11), sl11⟩)
    (d11 : PySem.W.codeIn K cd11 "_law_unlike" = true)
    (k11 : PySem.W.keepIn K (.ref f11) = true)
    (a12 : PySem.W.nsIn K mainGlobals "_law_any" = some (some (.ref f12)))
    (l12 : K.lookup f12 = some ⟨oc12, od12, .func (PySem.W.fnOf "_law_any" "_law_any" (defArgs (topS 17)) (defBody (topS 17)) (defScope (topS 17)) .none kV12 dc12 pm12 an12 cd12 ct12), sl12⟩)
    (d12 : PySem.W.codeIn K cd12 "_law_any" = true)
    (k12 : PySem.W.keepIn K (.ref f12) = true)
    (a13 : PySem.W.nsIn K mainGlobals "_law_name" = some (some (.ref f13)))
    (l13 : K.lookup f13 = some ⟨oc13, od13, .func (PySem.W.fnOf "_law_name" "_law_name" (defArgs (topS 18)) (defBody (topS 18)) (defScope (topS 18)) .none kV13 dc13 pm13 an13 cd13 ct13), sl13⟩)
    (d13 : PySem.W.codeIn K cd13 "_law_name" = true)
    (k13 : PySem.W.keepIn K (.ref f13) = true)
    (a14 : PySem.W.nsIn K mainGlobals "_law_rise" = some (some (.ref f14)))
    (l14 : K.lookup f14 = some ⟨oc14, od14, .func (PySem.W.fnOf "_law_rise" "_law_rise" (defArgs (topS 19)) (defBody (topS 19)) (defScope (topS 19)) .none kV14 dc14 pm14 an14 cd14 ct14), sl14⟩)
    (d14 : PySem.W.codeIn K cd14 "_law_rise" = true)
    (k14 : PySem.W.keepIn K (.ref f14) = true)
    (a15 : PySem.W.nsIn K mainGlobals "_law_string" = some (some (.ref f15)))
    (l15 : K.lookup f15 = some ⟨oc15, od15, .func (PySem.W.fnOf "_law_string" "_law_string" (defArgs (topS 20)) (defBody (topS 20)) (defScope (topS 20)) .none kV15 dc15 pm15 an15 cd15 ct15), sl15⟩)
    (d15 : PySem.W.codeIn K cd15 "_law_string" = true)
    (k15 : PySem.W.keepIn K (.ref f15) = true)
    (a16 : PySem.W.nsIn K mainGlobals "_law_numbers" = some (some (.ref f16)))
    (l16 : K.lookup f16 = some ⟨oc16, od16, .func (PySem.W.fnOf "_law_numbers" "_law_numbers" (defArgs (topS 21)) (defBody (topS 21)) (defScope (topS 21)) .none kV16 dc16 pm16 an16 cd16 ct16), sl16⟩)
    (d16 : PySem.W.codeIn K cd16 "_law_numbers" = true)
    (k16 : PySem.W.keepIn K (.ref f16) = true)
    (a17 : PySem.W.nsIn K mainGlobals "_law_judged" = some (some (.ref f17)))
    (l17 : K.lookup f17 = some ⟨oc17, od17, .func (PySem.W.fnOf "_law_judged" "_law_judged" (defArgs (topS 22)) (defBody (topS 22)) (defScope (topS 22)) .none kV17 dc17 pm17 an17 cd17 ct17), sl17⟩)
    (d17 : PySem.W.codeIn K cd17 "_law_judged" = true)
    (k17 : PySem.W.keepIn K (.ref f17) = true)
    (a18 : PySem.W.nsIn K mainGlobals "law" = some (some (.ref f18)))
    (l18 : K.lookup f18 = some ⟨oc18, od18, .func (PySem.W.fnOf "law" "law" (defArgs (topS 23)) (defBody (topS 23)) (defScope (topS 23)) .none kV18 dc18 pm18 an18 cd18 ct18), sl18⟩)
    (d18 : PySem.W.codeIn K cd18 "law" = true)
    (k18 : PySem.W.keepIn K (.ref f18) = true)
    {t0 : Tok}
    (cst0 : PySem.W.nsIn K mainGlobals "SMALL" = some (some (.str "abcdefghijklmnopqrstuvwxyz" t0)))
    {t1 : Tok}
    (cst1 : PySem.W.nsIn K mainGlobals "FIGURES" = some (some (.str "0123456789" t1)))
    {t2 : Tok}
    (cst2 : PySem.W.nsIn K mainGlobals "MOST_NAME" = some (some (.int 8 t2)))
    (z0 : PySem.W.nsIn K mainGlobals "len" = some none)
    (z1 : PySem.W.nsIn K mainGlobals "repr" = some none)
    (z2 : PySem.W.nsIn K mainGlobals "str" = some none)
    (z3 : PySem.W.nsIn K mainGlobals "int" = some none)
    (z4 : PySem.W.nsIn K mainGlobals "abs" = some none)
    (z5 : PySem.W.nsIn K mainGlobals "max" = some none)
    (z6 : PySem.W.nsIn K mainGlobals "min" = some none)
    (z7 : PySem.W.nsIn K mainGlobals "sum" = some none)
    (z8 : PySem.W.nsIn K mainGlobals "all" = some none)
    (z9 : PySem.W.nsIn K mainGlobals "any" = some none)
    (z10 : PySem.W.nsIn K mainGlobals "sorted" = some none)
    (z11 : PySem.W.nsIn K mainGlobals "list" = some none)
    (z12 : PySem.W.nsIn K mainGlobals "tuple" = some none)
    (z13 : PySem.W.nsIn K mainGlobals "dict" = some none)
    (z14 : PySem.W.nsIn K mainGlobals "range" = some none)
    (z15 : PySem.W.nsIn K mainGlobals "enumerate" = some none)
    (z16 : PySem.W.nsIn K mainGlobals "zip" = some none)
    (z17 : PySem.W.nsIn K mainGlobals "isinstance" = some none)
    (z18 : PySem.W.nsIn K mainGlobals "bool" = some none)
    (z19 : PySem.W.nsIn K mainGlobals "set" = some none)
    (y0 : K.lookup sysModules = none) :
    ∃ fd : FuncData, (∀ (s : Shared) (v : Value), BindsTo s fd ⟨[v], []⟩ [("script", v)]) ∧ ∀ base : Heap, K.In base → base.Ns mainGlobals mg → (∃ o, base.get? sysModules = some o) → FnG l.prog w K mg base (lvl + 1) fa fd ["script"] (SpF w K ⟨[false], runBody (globs con defs fuel lvl) [false] 15 fuel c_law⟩) := by
  have e := hfa.symm.trans (PySem.W.mg_of X G a18)
  cases e
  have F0 := fun_mk (st := topS 4) l0 d0 k0
  have D0 : FnD K mg sig defs ("is_signs", "is_signs", ["value", "signs"], [false, false]) := fnD_mk (N := N_is_signs) rfl rfl (PySem.W.mg_of X G a0) k0 F0 sc_is_signs cc_is_signs rfl rfl rfl rfl rfl
  have F1 := fun_mk (st := topS 5) l1 d1 k1
  have D1 : FnD K mg sig defs ("is_name", "is_name", ["value"], [false]) := fnD_mk (N := N_is_name) rfl rfl (PySem.W.mg_of X G a1) k1 F1 sc_is_name cc_is_name rfl rfl rfl rfl rfl
  have F2 := fun_mk (st := topS 6) l2 d2 k2
  have D2 : FnD K mg sig defs ("ascends", "ascends", ["items"], [false]) := fnD_mk (N := N_ascends) rfl rfl (PySem.W.mg_of X G a2) k2 F2 sc_ascends cc_ascends rfl rfl rfl rfl rfl
  have F3 := fun_mk (st := topS 7) l3 d3 k3
  have D3 : FnD K mg sig defs ("is_names", "is_names", ["value"], [false]) := fnD_mk (N := N_is_names) rfl rfl (PySem.W.mg_of X G a3) k3 F3 sc_is_names cc_is_names rfl rfl rfl rfl rfl
  have F4 := fun_mk (st := topS 9) l4 d4 k4
  have D4 : FnD K mg sig defs ("_law_hash", "_law_hash", ["seed", "index"], [false, false]) := fnD_mk (N := N__law_hash) rfl rfl (PySem.W.mg_of X G a4) k4 F4 sc__law_hash cc__law_hash rfl rfl rfl rfl rfl
  have F5 := fun_mk (st := topS 10) l5 d5 k5
  have D5 : FnD K mg sig defs ("_law_cell", "_law_cell", ["script", "index"], [false, false]) := fnD_mk (N := N__law_cell) rfl rfl (PySem.W.mg_of X G a5) k5 F5 sc__law_cell cc__law_cell rfl rfl rfl rfl rfl
  have F6 := fun_mk (st := topS 11) l6 d6 k6
  have D6 : FnD K mg sig defs ("_law_generator", "_law_generator", ["script", "index"], [false, false]) := fnD_mk (N := N__law_generator) rfl rfl (PySem.W.mg_of X G a6) k6 F6 sc__law_generator cc__law_generator rfl rfl rfl rfl rfl
  have F7 := fun_mk (st := topS 12) l7 d7 k7
  have D7 : FnD K mg sig defs ("_law_random", "_law_random", ["generator", "bound"], [true, false]) := fnD_mk (N := N__law_random) rfl rfl (PySem.W.mg_of X G a7) k7 F7 sc__law_random cc__law_random rfl rfl rfl rfl rfl
  have F8 := fun_mk (st := topS 13) l8 d8 k8
  have D8 : FnD K mg sig defs ("_law_pick", "_law_pick", ["generator", "things"], [true, false]) := fnD_mk (N := N__law_pick) rfl rfl (PySem.W.mg_of X G a8) k8 F8 sc__law_pick cc__law_pick rfl rfl rfl rfl rfl
  have F9 := fun_mk (st := topS 14) l9 d9 k9
  have D9 : FnD K mg sig defs ("_law_copied", "_law_copied", ["value"], [false]) := fnD_mk (N := N__law_copied) rfl rfl (PySem.W.mg_of X G a9) k9 F9 sc__law_copied cc__law_copied rfl rfl rfl rfl rfl
  have F10 := fun_mk (st := topS 15) l10 d10 k10
  have D10 : FnD K mg sig defs ("_law_exact", "_law_exact", ["told", "due"], [false, false]) := fnD_mk (N := N__law_exact) rfl rfl (PySem.W.mg_of X G a10) k10 F10 sc__law_exact cc__law_exact rfl rfl rfl rfl rfl
  have F11 := fun_mk (st := topS 16) l11 d11 k11
  have D11 : FnD K mg sig defs ("_law_unlike", "_law_unlike", ["items"], [false]) := fnD_mk (N := N__law_unlike) rfl rfl (PySem.W.mg_of X G a11) k11 F11 sc__law_unlike cc__law_unlike rfl rfl rfl rfl rfl
  have F12 := fun_mk (st := topS 17) l12 d12 k12
  have D12 : FnD K mg sig defs ("_law_any", "_law_any", ["generator"], [true]) := fnD_mk (N := N__law_any) rfl rfl (PySem.W.mg_of X G a12) k12 F12 sc__law_any cc__law_any rfl rfl rfl rfl rfl
  have F13 := fun_mk (st := topS 18) l13 d13 k13
  have D13 : FnD K mg sig defs ("_law_name", "_law_name", ["value"], [false]) := fnD_mk (N := N__law_name) rfl rfl (PySem.W.mg_of X G a13) k13 F13 sc__law_name cc__law_name rfl rfl rfl rfl rfl
  have F14 := fun_mk (st := topS 19) l14 d14 k14
  have D14 : FnD K mg sig defs ("_law_rise", "_law_rise", ["items"], [false]) := fnD_mk (N := N__law_rise) rfl rfl (PySem.W.mg_of X G a14) k14 F14 sc__law_rise cc__law_rise rfl rfl rfl rfl rfl
  have F15 := fun_mk (st := topS 20) l15 d15 k15
  have D15 : FnD K mg sig defs ("_law_string", "_law_string", ["generator"], [true]) := fnD_mk (N := N__law_string) rfl rfl (PySem.W.mg_of X G a15) k15 F15 sc__law_string cc__law_string rfl rfl rfl rfl rfl
  have F16 := fun_mk (st := topS 21) l16 d16 k16
  have D16 : FnD K mg sig defs ("_law_numbers", "_law_numbers", ["generator"], [true]) := fnD_mk (N := N__law_numbers) rfl rfl (PySem.W.mg_of X G a16) k16 F16 sc__law_numbers cc__law_numbers rfl rfl rfl rfl rfl
  have F17 := fun_mk (st := topS 22) l17 d17 k17
  have D17 : FnD K mg sig defs ("_law_judged", "_law_judged", ["value"], [false]) := fnD_mk (N := N__law_judged) rfl rfl (PySem.W.mg_of X G a17) k17 F17 sc__law_judged cc__law_judged rfl rfl rfl rfl rfl
  have F18 := fun_mk (st := topS 23) l18 d18 k18
  have D18 : FnD K mg sig defs ("law", "law", ["script"], [false]) := fnD_mk (N := N_law) rfl rfl (PySem.W.mg_of X G a18) k18 F18 sc_law cc_law rfl rfl rfl rfl rfl
  have C0 : ConD w K mg con ("SMALL", "SMALL") := conD_str rfl (PySem.W.mg_of X G cst0) (by decide)
  have C1 : ConD w K mg con ("FIGURES", "FIGURES") := conD_str rfl (PySem.W.mg_of X G cst1) (by decide)
  have C2 : ConD w K mg con ("MOST_NAME", "MOST_NAME") := conD_int rfl (PySem.W.mg_of X G cst2)
  refine ⟨PySem.W.fnOf "law" "law" (defArgs (topS 23)) (defBody (topS 23)) (defScope (topS 23)) .none kV18 dc18 pm18 an18 cd18 ct18, fun s v => .of_eq rfl, fun base kb nb hs => ?_⟩
  have hf : ∀ y ∈ sig.funs, FnD K mg sig defs y := by
    intro y hy
    simp only [sig, List.mem_cons, List.not_mem_nil, or_false] at hy
    rcases hy with rfl | rfl | rfl | rfl | rfl | rfl | rfl | rfl | rfl | rfl | rfl | rfl | rfl | rfl | rfl | rfl | rfl | rfl | rfl
    · exact D0
    · exact D1
    · exact D2
    · exact D3
    · exact D4
    · exact D5
    · exact D6
    · exact D7
    · exact D8
    · exact D9
    · exact D10
    · exact D11
    · exact D12
    · exact D13
    · exact D14
    · exact D15
    · exact D16
    · exact D17
    · exact D18
  have hc : ∀ y ∈ sig.cons, ConD w K mg con y := by
    intro y hy
    simp only [sig, List.mem_cons, List.not_mem_nil, or_false] at hy
    rcases hy with rfl | rfl | rfl
    · exact C0
    · exact C1
    · exact C2
  have M := all_mo (P := l.prog) (fuel := fuel) ⟨hs, y0⟩ (fun x hx _ => bltNone X G z0 z1 z2 z3 z4 z5 z6 z7 z8 z9 z10 z11 z12 z13 z14 z15 z16 z17 z18 z19 x hx) hc hf lvl
  exact fn_body F18 sc_law rfl M (cBody_ok cc_law)
end TH.Lk01
end
section
set_option Elab.async false
set_option linter.all false
set_option maxRecDepth 100000
namespace TH.Lk01
open PySem PySem.Spec PyProof.Rows L2
abbrev GG (n : Nat) : Glob := globs con defs fuel n
theorem con_SMALL (n : Nat) : (GG n).con "SMALL" = some (.str "abcdefghijklmnopqrstuvwxyz") := by cases n <;> rfl
theorem con_FIG (n : Nat) : (GG n).con "FIGURES" = some (.str "0123456789") := by cases n <;> rfl
theorem con_MOST (n : Nat) : (GG n).con "MOST_NAME" = some (.int 8) := by cases n <;> rfl
def ch (c : Nat) : D := .str ⟨#[c]⟩
/-- all signs of x among those of s -/
def allIn (x s : Str) : Bool := x.cps.toList.all fun c => decide (c ∈ s.cps.toList)
theorem in_one (c : Nat) (s : Str) : inD (ch c) (.str s) = some (decide (c ∈ s.cps.toList)) := by
  show some (!(Builtin.Str.occurrences s ⟨#[c]⟩ 0 s.length 1).isEmpty) = _
  rw [StrLaws.found_one]
def sgn (s : Str) (d : D) : Bool := match inD d (.str s) with | some b => !b | none => false
theorem sgn_ch (s : Str) (c : Nat) : sgn s (ch c) = !decide (c ∈ s.cps.toList) := by
  unfold sgn; rw [in_one]
theorem filt (x s : Str) : ((x.cps.toList.map ch).filter (sgn s)).map id = [] ↔ allIn x s = true := by
  unfold allIn
  rw [List.map_id, List.filter_eq_nil_iff, List.all_eq_true]
  constructor
  · intro h c hc
    have := h (ch c) (List.mem_map_of_mem hc)
    rw [sgn_ch] at this
    simpa using this
  · intro h d hd
    obtain ⟨c, hc, rfl⟩ := List.mem_map.mp hd
    rw [sgn_ch]
    have := h c hc
    simpa using this
theorem is_signs_str (n : Nat) (x s : Str) (hx : x.length ≤ 1000) : runBody (GG n) [false, false] 4 fuel c_is_signs [.str x, .str s] = .ok (.bool (allIn x s), .fr, []) := by
  have h1 : evE (GG n) (.lc (.pt 0) (.nm 3) [2, 3] [(.op .notin [(.pk 3), (.pk 1)])] (.var 3)) [.vl .sh (.str x), .vl .sh (.str s), .un, .un] = .ok (.list (((x.cps.toList.map ch).filter (sgn s)).map id), .fr, [.vl .sh (.str x), .vl .sh (.str s), .un, .un]) := by
    rw [ev_lc (xs := x.cps.toList.map ch) (l := ((x.cps.toList.map ch).filter (sgn s)).map id) (b := true) (ρ1 := [.vl .sh (.str x), .vl .sh (.str s), .un, .un]) (ρ2 := [.un, .vl .sh (.str s), .un, .un])]
    · rfl
    · simp [ev_lit, ev_var, ev_mv, ev_op, ev_and, ev_or, ev_not, ev_ite, ev_chain, evL_nil, evL_pk, evL_pt, evT_nil, evT_cons, src_pt, src_sq, bind_ok, optR_some, noExc_ok, getS, setS, bound, peek, evL_lit, evA_lit, evL_var, evA_var, evL_mv, evA_mv, evL_con, evA_con, evL_op, evA_op, evL_and, evA_and, evL_or, evA_or, evL_not, evA_not, evL_ite, evA_ite, evL_chain, evA_chain, evL_call, evA_call, evL_lc, evA_lc, evL_mut, evA_mut, evA_nil, evA_io, imm, immL, immKids, topK, scalarP, truth, prim, okA, okN, okP, okT, okB, isType, seqOf, walkR, List.getElem?_cons_zero, List.getElem?_cons_succ, Option.getD_some, Option.bind_some, Option.bind_none, Option.map_some, isNoneD, isBoolD, ch]
    · rfl
    · have := lc_loop (ρ := [.un, .vl .sh (.str s), .un, .un]) (bd := fun x ρ => bindT (.nm 3) x .sh ρ) (test := fun ρ => evT (GG n) [(.op .notin [(.pk 3), (.pk 1)])] ρ) (elt := fun ρ => evE (GG n) (.var 3) ρ) (hs := [0, 2, 3]) (p := sgn s) (q := id) (kk := fun _ => .sh) (x.cps.toList.map ch) [] true ?_
      · refine this.trans ?_
        have hb : (true && (((x.cps.toList.map ch).filter (sgn s)).all fun x => (Own.sh == Own.fr) || imm (id x))) = true := by
          rw [Bool.true_and, List.all_eq_true]
          intro d hd
          obtain ⟨c, hc, rfl⟩ := List.mem_map.mp (List.mem_filter.mp hd).1
          rfl
        rw [hb, List.nil_append]
      · intro d hd
        obtain ⟨c, hc, rfl⟩ := List.mem_map.mp hd
        refine ⟨[.un, .vl .sh (.str s), .un, .vl .sh (ch c)], [.un, .vl .sh (.str s), .un, .vl .sh (ch c)], rfl, ?_, fun _ => rfl, fun _ => ⟨[.un, .vl .sh (.str s), .un, .vl .sh (ch c)], ?_, rfl⟩⟩
        · rw [sgn_ch]
          cases hq : decide (c ∈ s.cps.toList) <;> simp [ev_lit, ev_var, ev_mv, ev_op, ev_and, ev_or, ev_not, ev_ite, ev_chain, evL_nil, evL_pk, evL_pt, evT_nil, evT_cons, src_pt, src_sq, bind_ok, optR_some, noExc_ok, getS, setS, bound, peek, evL_lit, evA_lit, evL_var, evA_var, evL_mv, evA_mv, evL_con, evA_con, evL_op, evA_op, evL_and, evA_and, evL_or, evA_or, evL_not, evA_not, evL_ite, evA_ite, evL_chain, evA_chain, evL_call, evA_call, evL_lc, evA_lc, evL_mut, evA_mut, evA_nil, evA_io, imm, immL, immKids, topK, scalarP, truth, prim, okA, okN, okP, okT, okB, isType, seqOf, walkR, List.getElem?_cons_zero, List.getElem?_cons_succ, Option.getD_some, Option.bind_some, Option.bind_none, Option.map_some, isNoneD, isBoolD, in_one] <;> simpa using hq
        · simp [ev_lit, ev_var, ev_mv, ev_op, ev_and, ev_or, ev_not, ev_ite, ev_chain, evL_nil, evL_pk, evL_pt, evT_nil, evT_cons, src_pt, src_sq, bind_ok, optR_some, noExc_ok, getS, setS, bound, peek, evL_lit, evA_lit, evL_var, evA_var, evL_mv, evA_mv, evL_con, evA_con, evL_op, evA_op, evL_and, evA_and, evL_or, evA_or, evL_not, evA_not, evL_ite, evA_ite, evL_chain, evA_chain, evL_call, evA_call, evL_lc, evA_lc, evL_mut, evA_mut, evA_nil, evA_io, imm, immL, immKids, topK, scalarP, truth, prim, okA, okN, okP, okT, okB, isType, seqOf, walkR, List.getElem?_cons_zero, List.getElem?_cons_succ, Option.getD_some, Option.bind_some, Option.bind_none, Option.map_some, isNoneD, isBoolD]
    · refine line_ok ?_
      rw [List.length_map]
      refine Nat.le_trans (List.length_filter_le _ _) ?_
      rw [List.length_map]
      have : x.cps.toList.length = x.length := by simp [Str.length]
      omega
  have h2 : noDs (((x.cps.toList.map ch).filter (sgn s)).map id) = true := noDs_all fun d hd => by
    rw [List.map_id] at hd
    obtain ⟨c, hc, rfl⟩ := List.mem_map.mp (List.mem_filter.mp hd).1
    rfl
  have h3 : (((x.cps.toList.map ch).filter (sgn s)).map id).isEmpty = allIn x s := by
    rw [Bool.eq_iff_iff, List.isEmpty_iff]
    exact filt x s
  generalize ((x.cps.toList.map ch).filter (sgn s)).map id = L at h1 h2 h3
  unfold runBody
  simp only [c_is_signs, startS, evSs, evS]
  simp [ev_lit, ev_var, ev_mv, ev_op, ev_and, ev_or, ev_not, ev_ite, ev_chain, evL_nil, evL_pk, evL_pt, evT_nil, evT_cons, src_pt, src_sq, bind_ok, optR_some, noExc_ok, getS, setS, bound, peek, evL_lit, evA_lit, evL_var, evA_var, evL_mv, evA_mv, evL_con, evA_con, evL_op, evA_op, evL_and, evA_and, evL_or, evA_or, evL_not, evA_not, evL_ite, evA_ite, evL_chain, evA_chain, evL_call, evA_call, evL_lc, evA_lc, evL_mut, evA_mut, evA_nil, evA_io, imm, immL, immKids, topK, scalarP, truth, prim, okA, okN, okP, okT, okB, isType, seqOf, walkR, List.getElem?_cons_zero, List.getElem?_cons_succ, Option.getD_some, Option.bind_some, Option.bind_none, Option.map_some, isNoneD, isBoolD, h1, eq_nil h2, line_ok, h3, outsOf]
theorem fn_is_signs (n : Nat) : (GG (n + 1)).fn "is_signs" = some ⟨[false, false], runBody (GG n) [false, false] 4 fuel c_is_signs⟩ := rfl
theorem fn_is_name (n : Nat) : (GG (n + 1)).fn "is_name" = some ⟨[false], runBody (GG n) [false] 1 fuel c_is_name⟩ := rfl
theorem fn_ascends (n : Nat) : (GG (n + 1)).fn "ascends" = some ⟨[false], runBody (GG n) [false] 3 fuel c_ascends⟩ := rfl
theorem fn_is_names (n : Nat) : (GG (n + 1)).fn "is_names" = some ⟨[false], runBody (GG n) [false] 3 fuel c_is_names⟩ := rfl
theorem fn_name (n : Nat) : (GG (n + 1)).fn "_law_name" = some ⟨[false], runBody (GG n) [false] 3 fuel c__law_name⟩ := rfl
theorem fn_rise (n : Nat) : (GG (n + 1)).fn "_law_rise" = some ⟨[false], runBody (GG n) [false] 3 fuel c_ascends⟩ := rfl
theorem fn_exact (n : Nat) : (GG (n + 1)).fn "_law_exact" = some ⟨[false, false], runBody (GG n) [false, false] 5 fuel c__law_exact⟩ := rfl
theorem fn_judged (n : Nat) : (GG (n + 1)).fn "_law_judged" = some ⟨[false], runBody (GG n) [false] 8 fuel c__law_judged⟩ := rfl
def mk (l : List Nat) : Str := ⟨l.toArray⟩
theorem mk_cps (l : List Nat) : (mk l).cps.toList = l := rfl
theorem mk_len (l : List Nat) : (mk l).length = l.length := by simp [mk, Str.length]
theorem str_mk (x : Str) : x = mk x.cps.toList := by cases x; simp [mk]
abbrev SM : Str := "abcdefghijklmnopqrstuvwxyz"
abbrev SF : Str := "abcdefghijklmnopqrstuvwxyz0123456789"
theorem SF_eq : (SM ++ ("0123456789" : Str) : Str) = SF := by decide +kernel
def firstIn : List Nat → Bool
  | [] => false
  | c :: _ => decide (c ∈ SM.cps.toList)
def nameL (l : List Nat) : Bool := allIn (mk l) SF && (decide (0 < l.length) && decide (l.length ≤ 8) && firstIn l)
def nameB : D → Bool
  | .str x => nameL x.cps.toList
  | _ => false
def smallStr : D → Prop
  | .str x => x.length ≤ 1000
  | _ => True
theorem is_signs_non (n : Nat) (d : D) (s : Str) (h : ∀ x, d ≠ .str x) : runBody (GG n) [false, false] 4 fuel c_is_signs [d, .str s] = .ok (.bool false, .fr, []) := by
  cases d <;> first | (exact absurd rfl (h _)) | skip
  all_goals (unfold runBody; simp only [c_is_signs, startS, evSs, evS]; simp [ev_lit, ev_var, ev_mv, ev_op, ev_and, ev_or, ev_not, ev_ite, ev_chain, evL_nil, evL_pk, evL_pt, evT_nil, evT_cons, src_pt, src_sq, bind_ok, optR_some, noExc_ok, getS, setS, bound, peek, evL_lit, evA_lit, evL_var, evA_var, evL_mv, evA_mv, evL_con, evA_con, evL_op, evA_op, evL_and, evA_and, evL_or, evA_or, evL_not, evA_not, evL_ite, evA_ite, evL_chain, evA_chain, evL_call, evA_call, evL_lc, evA_lc, evL_mut, evA_mut, evA_nil, evA_io, imm, immL, immKids, topK, scalarP, truth, prim, okA, okN, okP, okT, okB, isType, seqOf, walkR, List.getElem?_cons_zero, List.getElem?_cons_succ, Option.getD_some, Option.bind_some, Option.bind_none, Option.map_some, isNoneD, isBoolD, outsOf])
theorem is_name_ok (n : Nat) (d : D) (h : smallStr d) : runBody (GG (n + 1)) [false] 1 fuel c_is_name [d] = .ok (.bool (nameB d), .fr, []) := by
  have l1 : line 36 = true := by decide
  have l2 : line (SM.length + ("0123456789" : Str).length) = true := by decide
  by_cases hs : ∃ x, d = .str x
  · obtain ⟨x, rfl⟩ := hs
    have hx : x.length ≤ 1000 := h
    rw [str_mk x] at hx ⊢
    generalize x.cps.toList = l at hx ⊢
    have hx2 : l.length ≤ 1000 := by rw [mk_len] at hx; exact hx
    have e1 : evE (GG (n + 1)) (.call "is_signs" [(.var 0), (.op .add [(.con "SMALL"), (.con "FIGURES")])] [0, 1]) [.vl .sh (.str (mk l))] = .ok (.bool (allIn (mk l) SF), .fr, [.vl .sh (.str (mk l))]) := by
      refine ev_call (ds := [.str (mk l), .str SF]) (ρ1 := [.vl .sh (.str (mk l))]) (os := []) ?_ (fn_is_signs n) rfl (is_signs_str n (mk l) SF hx) rfl rfl
      simp [ev_lit, ev_var, ev_mv, ev_op, ev_and, ev_or, ev_not, ev_ite, ev_chain, evL_nil, evL_pk, evL_pt, evT_nil, evT_cons, src_pt, src_sq, bind_ok, optR_some, noExc_ok, getS, setS, bound, peek, evL_lit, evA_lit, evL_var, evA_var, evL_mv, evA_mv, evL_con, evA_con, evL_op, evA_op, evL_and, evA_and, evL_or, evA_or, evL_not, evA_not, evL_ite, evA_ite, evL_chain, evA_chain, evL_call, evA_call, evL_lc, evA_lc, evL_mut, evA_mut, evA_nil, evA_io, imm, immL, immKids, topK, scalarP, truth, prim, okA, okN, okP, okT, okB, isType, seqOf, walkR, List.getElem?_cons_zero, List.getElem?_cons_succ, Option.getD_some, Option.bind_some, Option.bind_none, Option.map_some, isNoneD, isBoolD, ev_con (con_SMALL (n + 1)), ev_con (con_FIG (n + 1)), addD, SF_eq, l2]
    have hl : line l.length = true := line_ok (by omega)
    unfold runBody
    simp only [c_is_name, startS, evSs, evS]
    cases ha : allIn (mk l) SF with
    | false =>
      rw [ha] at e1
      simp [ev_lit, ev_var, ev_mv, ev_op, ev_and, ev_or, ev_not, ev_ite, ev_chain, evL_nil, evL_pk, evL_pt, evT_nil, evT_cons, src_pt, src_sq, bind_ok, optR_some, noExc_ok, getS, setS, bound, peek, evL_lit, evA_lit, evL_var, evA_var, evL_mv, evA_mv, evL_con, evA_con, evL_op, evA_op, evL_and, evA_and, evL_or, evA_or, evL_not, evA_not, evL_ite, evA_ite, evL_chain, evA_chain, evL_call, evA_call, evL_lc, evA_lc, evL_mut, evA_mut, evA_nil, evA_io, imm, immL, immKids, topK, scalarP, truth, prim, okA, okN, okP, okT, okB, isType, seqOf, walkR, List.getElem?_cons_zero, List.getElem?_cons_succ, Option.getD_some, Option.bind_some, Option.bind_none, Option.map_some, isNoneD, isBoolD, e1, outsOf, nameB, nameL, ha, mk_cps]
    | true =>
      rw [ha] at e1
      cases l with
      | nil => simp [ev_lit, ev_var, ev_mv, ev_op, ev_and, ev_or, ev_not, ev_ite, ev_chain, evL_nil, evL_pk, evL_pt, evT_nil, evT_cons, src_pt, src_sq, bind_ok, optR_some, noExc_ok, getS, setS, bound, peek, evL_lit, evA_lit, evL_var, evA_var, evL_mv, evA_mv, evL_con, evA_con, evL_op, evA_op, evL_and, evA_and, evL_or, evA_or, evL_not, evA_not, evL_ite, evA_ite, evL_chain, evA_chain, evL_call, evA_call, evL_lc, evA_lc, evL_mut, evA_mut, evA_nil, evA_io, imm, immL, immKids, topK, scalarP, truth, prim, okA, okN, okP, okT, okB, isType, seqOf, walkR, List.getElem?_cons_zero, List.getElem?_cons_succ, Option.getD_some, Option.bind_some, Option.bind_none, Option.map_some, isNoneD, isBoolD, e1, outsOf, nameB, nameL, ha, mk_cps, lenD, mk_len, hl, line_ok, ev_con (con_MOST (n + 1)), ltD_int, gtD_int]
      | cons c r =>
        have q1 : (0 : Int) < (r.length : Int) + 1 := by omega
        by_cases h8 : (8 : Int) < (r.length : Int) + 1
        · have h9 : ¬ (r.length + 1 ≤ 8) := by omega
          have hl2 : line (r.length + 1) = true := by simpa using hl
          simp [ev_lit, ev_var, ev_mv, ev_op, ev_and, ev_or, ev_not, ev_ite, ev_chain, evL_nil, evL_pk, evL_pt, evT_nil, evT_cons, src_pt, src_sq, bind_ok, optR_some, noExc_ok, getS, setS, bound, peek, evL_lit, evA_lit, evL_var, evA_var, evL_mv, evA_mv, evL_con, evA_con, evL_op, evA_op, evL_and, evA_and, evL_or, evA_or, evL_not, evA_not, evL_ite, evA_ite, evL_chain, evA_chain, evL_call, evA_call, evL_lc, evA_lc, evL_mut, evA_mut, evA_nil, evA_io, imm, immL, immKids, topK, scalarP, truth, prim, okA, okN, okP, okT, okB, isType, seqOf, walkR, List.getElem?_cons_zero, List.getElem?_cons_succ, Option.getD_some, Option.bind_some, Option.bind_none, Option.map_some, isNoneD, isBoolD, e1, outsOf, nameB, nameL, ha, mk_cps, lenD, mk_len, hl2, ev_con (con_MOST (n + 1)), ltD_int, gtD_int, q1, h8, h9]
        · have h9 : (r.length + 1 ≤ 8) := by omega
          have hl2 : line (r.length + 1) = true := by simpa using hl
          have q2 : (0 : Int) ≤ r.length := by omega
          simp [ev_lit, ev_var, ev_mv, ev_op, ev_and, ev_or, ev_not, ev_ite, ev_chain, evL_nil, evL_pk, evL_pt, evT_nil, evT_cons, src_pt, src_sq, bind_ok, optR_some, noExc_ok, getS, setS, bound, peek, evL_lit, evA_lit, evL_var, evA_var, evL_mv, evA_mv, evL_con, evA_con, evL_op, evA_op, evL_and, evA_and, evL_or, evA_or, evL_not, evA_not, evL_ite, evA_ite, evL_chain, evA_chain, evL_call, evA_call, evL_lc, evA_lc, evL_mut, evA_mut, evA_nil, evA_io, imm, immL, immKids, topK, scalarP, truth, prim, okA, okN, okP, okT, okB, isType, seqOf, walkR, List.getElem?_cons_zero, List.getElem?_cons_succ, Option.getD_some, Option.bind_some, Option.bind_none, Option.map_some, isNoneD, isBoolD, e1, outsOf, nameB, nameL, ha, mk_cps, lenD, mk_len, hl2, ev_con (con_MOST (n + 1)), ev_con (con_SMALL (n + 1)), ltD_int, gtD_int, q1, h8, h9, idxD, ixAt, q2, firstIn, show (mk (c :: r)).cps[0]? = some c from rfl, show inD (.str ⟨#[c]⟩) (.str (Str.ofString "abcdefghijklmnopqrstuvwxyz")) = some (decide (c ∈ SM.cps.toList)) from in_one c SM]
  · have hn : ∀ x, d ≠ .str x := fun x e => hs ⟨x, e⟩
    have e1 : evE (GG (n + 1)) (.call "is_signs" [(.var 0), (.op .add [(.con "SMALL"), (.con "FIGURES")])] [0, 1]) [.vl .sh d] = .ok (.bool false, .fr, [.vl .sh d]) := by
      refine ev_call (ds := [d, .str SF]) (ρ1 := [.vl .sh d]) (os := []) ?_ (fn_is_signs n) rfl (is_signs_non n d SF hn) rfl rfl
      simp [ev_lit, ev_var, ev_mv, ev_op, ev_and, ev_or, ev_not, ev_ite, ev_chain, evL_nil, evL_pk, evL_pt, evT_nil, evT_cons, src_pt, src_sq, bind_ok, optR_some, noExc_ok, getS, setS, bound, peek, evL_lit, evA_lit, evL_var, evA_var, evL_mv, evA_mv, evL_con, evA_con, evL_op, evA_op, evL_and, evA_and, evL_or, evA_or, evL_not, evA_not, evL_ite, evA_ite, evL_chain, evA_chain, evL_call, evA_call, evL_lc, evA_lc, evL_mut, evA_mut, evA_nil, evA_io, imm, immL, immKids, topK, scalarP, truth, prim, okA, okN, okP, okT, okB, isType, seqOf, walkR, List.getElem?_cons_zero, List.getElem?_cons_succ, Option.getD_some, Option.bind_some, Option.bind_none, Option.map_some, isNoneD, isBoolD, ev_con (con_SMALL (n + 1)), ev_con (con_FIG (n + 1)), addD, SF_eq, l2]
    have e2 : nameB d = false := by cases d <;> first | rfl | exact absurd rfl (hn _)
    unfold runBody
    simp only [c_is_name, startS, evSs, evS]
    simp [ev_lit, ev_var, ev_mv, ev_op, ev_and, ev_or, ev_not, ev_ite, ev_chain, evL_nil, evL_pk, evL_pt, evT_nil, evT_cons, src_pt, src_sq, bind_ok, optR_some, noExc_ok, getS, setS, bound, peek, evL_lit, evA_lit, evL_var, evA_var, evL_mv, evA_mv, evL_con, evA_con, evL_op, evA_op, evL_and, evA_and, evL_or, evA_or, evL_not, evA_not, evL_ite, evA_ite, evL_chain, evA_chain, evL_call, evA_call, evL_lc, evA_lc, evL_mut, evA_mut, evA_nil, evA_io, imm, immL, immKids, topK, scalarP, truth, prim, okA, okN, okP, okT, okB, isType, seqOf, walkR, List.getElem?_cons_zero, List.getElem?_cons_succ, Option.getD_some, Option.bind_some, Option.bind_none, Option.map_some, isNoneD, isBoolD, e1, outsOf, e2]
theorem line_iff {n : Nat} (h : line n = true) : n ≤ 16777216 := by
  have := of_decide_eq_true (show decide (n ≤ sizeLine) = true from h)
  rw [sizeLine_eq] at this; exact this
/-- the law's own reading -/
theorem any_ch (l : List Nat) (c : Nat) : ((l.map ch).any fun x => eqD x (.str (mk [c]))) = decide (c ∈ l) := by
  induction l with
  | nil => rfl
  | cons a l ih =>
    rw [List.map_cons, List.any_cons, ih]
    have : eqD (ch a) (.str (mk [c])) = decide (c = a) := by
      show ((⟨#[a]⟩ : Str) == (⟨#[c]⟩ : Str)) = _
      by_cases h : c = a
      · subst h; rw [decide_eq_true rfl]; exact beq_self_eq_true _
      · have hne : (⟨#[a]⟩ : Str) ≠ ⟨#[c]⟩ := fun e => h (by
          have e2 : (#[a] : Array Nat) = #[c] := congrArg Str.cps e
          have e3 : [a] = [c] := congrArg Array.toList e2
          exact (List.cons.inj e3).1.symm)
        rw [decide_eq_false h]
        exact beq_false_of_ne hne
    rw [this]
    simp [Bool.decide_or]
theorem any_ch0 (l : List Nat) : ((l.map ch).any fun x => eqD x (.str (mk []))) = false := by
  rw [List.any_eq_false]
  intro d hd
  obtain ⟨a, _, rfl⟩ := List.mem_map.mp hd
  show ¬ ((⟨#[a]⟩ : Str) == (⟨#[]⟩ : Str)) = true
  have hne : (⟨#[a]⟩ : Str) ≠ ⟨#[]⟩ := fun e => by
    have e3 : [a] = [] := congrArg Array.toList (congrArg Str.cps e)
    cases e3
  rw [beq_false_of_ne hne]
  exact Bool.false_ne_true
theorem chars_ok : noDs (SM.cps.toList.map ch) = true := noDs_all fun d hd => by
  obtain ⟨a, _, rfl⟩ := List.mem_map.mp hd; rfl
theorem name_lc (n : Nat) (l : List Nat) (hx : l.length ≤ 1000) : evE (GG n) (.lc (.pt 0) (.nm 2) [1, 2] [(.op .notin [(.pk 2), (.lit (.str "abcdefghijklmnopqrstuvwxyz0123456789"))])] (.var 2)) [.vl .sh (.str (mk l)), .un, .un] = .ok (.list (((l.map ch).filter (sgn SF)).map id), .fr, [.vl .sh (.str (mk l)), .un, .un]) := by
  rw [ev_lc (xs := l.map ch) (l := ((l.map ch).filter (sgn SF)).map id) (b := true) (ρ1 := [.vl .sh (.str (mk l)), .un, .un]) (ρ2 := [.un, .un, .un])]
  · rfl
  · simp [ev_lit, ev_var, ev_mv, ev_op, ev_and, ev_or, ev_not, ev_ite, ev_chain, evL_nil, evL_pk, evL_pt, evT_nil, evT_cons, src_pt, src_sq, bind_ok, optR_some, noExc_ok, getS, setS, bound, peek, evL_lit, evA_lit, evL_var, evA_var, evL_mv, evA_mv, evL_con, evA_con, evL_op, evA_op, evL_and, evA_and, evL_or, evA_or, evL_not, evA_not, evL_ite, evA_ite, evL_chain, evA_chain, evL_call, evA_call, evL_lc, evA_lc, evL_mut, evA_mut, evA_nil, evA_io, imm, immL, immKids, topK, scalarP, truth, prim, okA, okN, okP, okT, okB, isType, seqOf, walkR, List.getElem?_cons_zero, List.getElem?_cons_succ, Option.getD_some, Option.bind_some, Option.bind_none, Option.map_some, isNoneD, isBoolD, ch, mk_cps]
  · rfl
  · have := lc_loop (ρ := [.un, .un, .un]) (bd := fun x ρ => bindT (.nm 2) x .sh ρ) (test := fun ρ => evT (GG n) [(.op .notin [(.pk 2), (.lit (.str "abcdefghijklmnopqrstuvwxyz0123456789"))])] ρ) (elt := fun ρ => evE (GG n) (.var 2) ρ) (hs := [0, 1, 2]) (p := sgn SF) (q := id) (kk := fun _ => .sh) (l.map ch) [] true ?_
    · refine this.trans ?_
      have hb : (true && (((l.map ch).filter (sgn SF)).all fun x => (Own.sh == Own.fr) || imm (id x))) = true := by
        rw [Bool.true_and, List.all_eq_true]
        intro d hd
        obtain ⟨c, hc, rfl⟩ := List.mem_map.mp (List.mem_filter.mp hd).1
        rfl
      rw [hb, List.nil_append]
    · intro d hd
      obtain ⟨c, hc, rfl⟩ := List.mem_map.mp hd
      refine ⟨[.un, .un, .vl .sh (ch c)], [.un, .un, .vl .sh (ch c)], rfl, ?_, fun _ => rfl, fun _ => ⟨[.un, .un, .vl .sh (ch c)], ?_, rfl⟩⟩
      · rw [sgn_ch]
        cases hq : decide (c ∈ SF.cps.toList) <;> simp [ev_lit, ev_var, ev_mv, ev_op, ev_and, ev_or, ev_not, ev_ite, ev_chain, evL_nil, evL_pk, evL_pt, evT_nil, evT_cons, src_pt, src_sq, bind_ok, optR_some, noExc_ok, getS, setS, bound, peek, evL_lit, evA_lit, evL_var, evA_var, evL_mv, evA_mv, evL_con, evA_con, evL_op, evA_op, evL_and, evA_and, evL_or, evA_or, evL_not, evA_not, evL_ite, evA_ite, evL_chain, evA_chain, evL_call, evA_call, evL_lc, evA_lc, evL_mut, evA_mut, evA_nil, evA_io, imm, immL, immKids, topK, scalarP, truth, prim, okA, okN, okP, okT, okB, isType, seqOf, walkR, List.getElem?_cons_zero, List.getElem?_cons_succ, Option.getD_some, Option.bind_some, Option.bind_none, Option.map_some, isNoneD, isBoolD, in_one] <;> simpa using hq
      · simp [ev_lit, ev_var, ev_mv, ev_op, ev_and, ev_or, ev_not, ev_ite, ev_chain, evL_nil, evL_pk, evL_pt, evT_nil, evT_cons, src_pt, src_sq, bind_ok, optR_some, noExc_ok, getS, setS, bound, peek, evL_lit, evA_lit, evL_var, evA_var, evL_mv, evA_mv, evL_con, evA_con, evL_op, evA_op, evL_and, evA_and, evL_or, evA_or, evL_not, evA_not, evL_ite, evA_ite, evL_chain, evA_chain, evL_call, evA_call, evL_lc, evA_lc, evL_mut, evA_mut, evA_nil, evA_io, imm, immL, immKids, topK, scalarP, truth, prim, okA, okN, okP, okT, okB, isType, seqOf, walkR, List.getElem?_cons_zero, List.getElem?_cons_succ, Option.getD_some, Option.bind_some, Option.bind_none, Option.map_some, isNoneD, isBoolD]
  · refine line_ok ?_
    rw [List.length_map]
    refine Nat.le_trans (List.length_filter_le _ _) ?_
    rw [List.length_map]
    omega
theorem name_ok (n : Nat) (d : D) (h : smallStr d) : runBody (GG n) [false] 3 fuel c__law_name [d] = .ok (.bool (nameB d), .fr, []) := by
  by_cases hs : ∃ x, d = .str x
  · obtain ⟨x, rfl⟩ := hs
    have hx : x.length ≤ 1000 := h
    have hx0 := hx
    have e0 : nameB (.str x) = nameL x.cps.toList := rfl
    rw [e0]
    rw [str_mk x] at hx ⊢
    rw [mk_cps]
    generalize x.cps.toList = l at hx ⊢
    have hx2 : l.length ≤ 1000 := by rw [mk_len] at hx; exact hx
    have hl : line l.length = true := line_ok (by omega)
    have h1 := name_lc n l hx2
    have h2 : noDs (((l.map ch).filter (sgn SF)).map id) = true := noDs_all fun d hd => by
      rw [List.map_id] at hd
      obtain ⟨c, hc, rfl⟩ := List.mem_map.mp (List.mem_filter.mp hd).1
      rfl
    have h3 : (((l.map ch).filter (sgn SF)).map id).isEmpty = allIn (mk l) SF := by
      rw [Bool.eq_iff_iff, List.isEmpty_iff]
      exact filt (mk l) SF
    generalize ((l.map ch).filter (sgn SF)).map id = L at h1 h2 h3
    have hc : seqOf (.str SM) = some (SM.cps.toList.map ch) := rfl
    have l26 : line (SM.cps.toList.map ch).length = true := by decide
    have hli : listD (.str (Str.ofString "abcdefghijklmnopqrstuvwxyz")) = some (.list (SM.cps.toList.map ch), mkK false (.list (SM.cps.toList.map ch))) := by
      show (seqOf (.str SM)).bind _ = _
      rw [hc]
      show (if line (SM.cps.toList.map ch).length then okN (.list (SM.cps.toList.map ch)) else none) = _
      rw [l26]; rfl
    have hcut : cutD (.str (mk l)) none (some 1) = some (.str (mk (l.take 1)), .fr) := by
      have h0 : cut l none (some 1) = l.take 1 := by
        unfold cut
        rw [HT.sIx_none, show HT.sIx l.length l.length (some 1) = min 1 l.length from HT.sIx_nat l.length l.length 1]
        cases l <;> simp
      show (if line (mk l).length then okA (.str ⟨(cut (mk l).cps.toList none (some 1)).toArray⟩) else none) = _
      rw [mk_len, hl, mk_cps, h0]; rfl
    have hin : inD (.str (mk (l.take 1))) (.list (SM.cps.toList.map ch)) = some (firstIn l) := by
      rw [inD_list (shal_str _) rfl chars_ok]
      cases l with
      | nil => rw [show List.take 1 ([] : List Nat) = [] from rfl, any_ch0]; rfl
      | cons c r => rw [show List.take 1 (c :: r) = [c] from rfl, any_ch]; rfl
    generalize SM.cps.toList.map ch = M at hli hin
    unfold runBody
    simp only [c__law_name, startS, evSs, evS]
    have hnl : nameL l = (allIn (mk l) SF && (decide (0 < l.length) && decide (l.length ≤ 8) && firstIn l)) := rfl
    by_cases h8 : 8 < l.length
    · have h9 : ¬ l.length ≤ 8 := by omega
      have h8' : (8 : Int) < (l.length : Int) := by omega
      simp [ev_lit, ev_var, ev_mv, ev_op, ev_and, ev_or, ev_not, ev_ite, ev_chain, evL_nil, evL_pk, evL_pt, evT_nil, evT_cons, src_pt, src_sq, bind_ok, optR_some, noExc_ok, getS, setS, bound, peek, evL_lit, evA_lit, evL_var, evA_var, evL_mv, evA_mv, evL_con, evA_con, evL_op, evA_op, evL_and, evA_and, evL_or, evA_or, evL_not, evA_not, evL_ite, evA_ite, evL_chain, evA_chain, evL_call, evA_call, evL_lc, evA_lc, evL_mut, evA_mut, evA_nil, evA_io, imm, immL, immKids, topK, scalarP, truth, prim, okA, okN, okP, okT, okB, isType, seqOf, walkR, List.getElem?_cons_zero, List.getElem?_cons_succ, Option.getD_some, Option.bind_some, Option.bind_none, Option.map_some, isNoneD, isBoolD, outsOf, lenD, mk_len, hl, gtD_int, h8', hnl, h9]
    · have h9 : l.length ≤ 8 := by omega
      have h8' : ¬ (8 : Int) < (l.length : Int) := by omega
      cases hf : firstIn l with
      | false =>
        rw [hf] at hin
        simp [ev_lit, ev_var, ev_mv, ev_op, ev_and, ev_or, ev_not, ev_ite, ev_chain, evL_nil, evL_pk, evL_pt, evT_nil, evT_cons, src_pt, src_sq, bind_ok, optR_some, noExc_ok, getS, setS, bound, peek, evL_lit, evA_lit, evL_var, evA_var, evL_mv, evA_mv, evL_con, evA_con, evL_op, evA_op, evL_and, evA_and, evL_or, evA_or, evL_not, evA_not, evL_ite, evA_ite, evL_chain, evA_chain, evL_call, evA_call, evL_lc, evA_lc, evL_mut, evA_mut, evA_nil, evA_io, imm, immL, immKids, topK, scalarP, truth, prim, okA, okN, okP, okT, okB, isType, seqOf, walkR, List.getElem?_cons_zero, List.getElem?_cons_succ, Option.getD_some, Option.bind_some, Option.bind_none, Option.map_some, isNoneD, isBoolD, outsOf, lenD, mk_len, hl, gtD_int, h8', hnl, h9, hli, hcut, hin, hf]
      | true =>
        rw [hf] at hin
        have h0 : 0 < l.length := by cases l <;> simp [firstIn] at hf ⊢
        simp [ev_lit, ev_var, ev_mv, ev_op, ev_and, ev_or, ev_not, ev_ite, ev_chain, evL_nil, evL_pk, evL_pt, evT_nil, evT_cons, src_pt, src_sq, bind_ok, optR_some, noExc_ok, getS, setS, bound, peek, evL_lit, evA_lit, evL_var, evA_var, evL_mv, evA_mv, evL_con, evA_con, evL_op, evA_op, evL_and, evA_and, evL_or, evA_or, evL_not, evA_not, evL_ite, evA_ite, evL_chain, evA_chain, evL_call, evA_call, evL_lc, evA_lc, evL_mut, evA_mut, evA_nil, evA_io, imm, immL, immKids, topK, scalarP, truth, prim, okA, okN, okP, okT, okB, isType, seqOf, walkR, List.getElem?_cons_zero, List.getElem?_cons_succ, Option.getD_some, Option.bind_some, Option.bind_none, Option.map_some, isNoneD, isBoolD, outsOf, lenD, mk_len, hl, gtD_int, h8', hnl, h9, hli, hcut, hin, hf, h1, eq_nil h2, h3, line_ok, h0]
  · have hn : ∀ x, d ≠ .str x := fun x e => hs ⟨x, e⟩
    cases d <;> first | (exact absurd rfl (hn _)) | skip
    all_goals (unfold runBody; simp only [c__law_name, startS, evSs, evS]; simp [ev_lit, ev_var, ev_mv, ev_op, ev_and, ev_or, ev_not, ev_ite, ev_chain, evL_nil, evL_pk, evL_pt, evT_nil, evT_cons, src_pt, src_sq, bind_ok, optR_some, noExc_ok, getS, setS, bound, peek, evL_lit, evA_lit, evL_var, evA_var, evL_mv, evA_mv, evL_con, evA_con, evL_op, evA_op, evL_and, evA_and, evL_or, evA_or, evL_not, evA_not, evL_ite, evA_ite, evL_chain, evA_chain, evL_call, evA_call, evL_lc, evA_lc, evL_mut, evA_mut, evA_nil, evA_io, imm, immL, immKids, topK, scalarP, truth, prim, okA, okN, okP, okT, okB, isType, seqOf, walkR, List.getElem?_cons_zero, List.getElem?_cons_succ, Option.getD_some, Option.bind_some, Option.bind_none, Option.map_some, isNoneD, isBoolD, outsOf, nameB])
/-! ascending -/
def isStrD : D → Bool
  | .str _ => true
  | _ => false
def ge2 (xs : List D) : D → Bool
  | .int i => (match xs[(i - 1).toNat]?, xs[i.toNat]? with | some (.str a), some (.str b) => !decide (a.cps.toList < b.cps.toList) | _, _ => false)
  | _ => false
def rng (xs : List D) : List D := rangeL 1 xs.length
def riseB (xs : List D) : Bool := ((rng xs).filter (ge2 xs)).isEmpty
theorem str_of {d : D} (h : isStrD d = true) : ∃ x, d = .str x := by cases d <;> first | exact ⟨_, rfl⟩ | cases h
theorem rise_ok (n : Nat) (xs : List D) (hl : xs.length ≤ 1000) (hs : ∀ d ∈ xs, isStrD d = true) : runBody (GG n) [false] 3 fuel c_ascends [.list xs] = .ok (.bool (riseB xs), .fr, []) := by
  have h1 : evE (GG n) (.lc (.sq .range2 [(.lit (.int 1)), (.op .len [(.pk 0)])]) (.nm 2) [1, 2] [(.op .ge [(.op .idx [(.pt 0), (.op .sub [(.pk 2), (.lit (.int 1))])]), (.op .idx [(.pt 0), (.pt 2)])])] (.var 2)) [.vl .sh (.list xs), .un, .un] = .ok (.list (((rng xs).filter (ge2 xs)).map id), .fr, [.vl .sh (.list xs), .un, .un]) := by
    rw [ev_lc (xs := rng xs) (l := ((rng xs).filter (ge2 xs)).map id) (b := true) (ρ1 := [.vl .sh (.list xs), .un, .un]) (ρ2 := [.vl .sh (.list xs), .un, .un])]
    · rfl
    · exact srcR2 (k1 := .fr) (k2 := .fr) (by simp [ev_lit, ev_var, ev_mv, ev_op, ev_and, ev_or, ev_not, ev_ite, ev_chain, evL_nil, evL_pk, evL_pt, evT_nil, evT_cons, src_pt, src_sq, bind_ok, optR_some, noExc_ok, getS, setS, bound, peek, evL_lit, evA_lit, evL_var, evA_var, evL_mv, evA_mv, evL_con, evA_con, evL_op, evA_op, evL_and, evA_and, evL_or, evA_or, evL_not, evA_not, evL_ite, evA_ite, evL_chain, evA_chain, evL_call, evA_call, evL_lc, evA_lc, evL_mut, evA_mut, evA_nil, evA_io, imm, immL, immKids, topK, scalarP, truth, prim, okA, okN, okP, okT, okB, isType, seqOf, walkR, List.getElem?_cons_zero, List.getElem?_cons_succ, Option.getD_some, Option.bind_some, Option.bind_none, Option.map_some, isNoneD, isBoolD, lenD]) rfl rfl (by omega) (by omega) (by omega) (by omega)
    · rfl
    · have := lc_loop (ρ := [.vl .sh (.list xs), .un, .un]) (bd := fun x ρ => bindT (.nm 2) x .sh ρ) (test := fun ρ => evT (GG n) [(.op .ge [(.op .idx [(.pt 0), (.op .sub [(.pk 2), (.lit (.int 1))])]), (.op .idx [(.pt 0), (.pt 2)])])] ρ) (elt := fun ρ => evE (GG n) (.var 2) ρ) (hs := [1, 2]) (p := ge2 xs) (q := id) (kk := fun _ => .sh) (rng xs) [] true ?_
      · refine this.trans ?_
        have hb : (true && (((rng xs).filter (ge2 xs)).all fun x => (Own.sh == Own.fr) || imm (id x))) = true := by
          rw [Bool.true_and, List.all_eq_true]
          intro d hd
          obtain ⟨c, hc, rfl⟩ := List.mem_map.mp (List.mem_filter.mp hd).1
          rfl
        rw [hb, List.nil_append]
      · intro d hd
        obtain ⟨k, hk, rfl⟩ := List.mem_map.mp hd
        have hk : k < ((xs.length : Int) - 1).toNat := List.mem_range.mp hk
        have k1 : k < xs.length := by omega
        have k2 : k + 1 < xs.length := by omega
        obtain ⟨a, ea⟩ := str_of (hs _ (List.getElem_mem k1))
        obtain ⟨b, eb⟩ := str_of (hs _ (List.getElem_mem k2))
        have g1 : xs[k]? = some (.str a) := by rw [List.getElem?_eq_getElem k1, ea]
        have g2 : xs[k + 1]? = some (.str b) := by rw [List.getElem?_eq_getElem k2, eb]
        have i1 : idxD (.list xs) (.int (k : Int)) = some (.str a, .sh) := idxD_list rfl g1
        have i2 : idxD (.list xs) (.int (1 + (k : Int))) = some (.str b, .sh) := idxD_list (by omega) g2
        have hg : ge2 xs (.int (1 + (k : Int))) = !decide (a.cps.toList < b.cps.toList) := by
          unfold ge2
          have t1 : (1 + (k : Int) - 1).toNat = k := by omega
          have t2 : (1 + (k : Int)).toNat = k + 1 := by omega
          simp only [t1, t2, g1, g2]
        have s1 : (1 + (k : Int)) - 1 = k := by omega
        refine ⟨[.vl .sh (.list xs), .un, .vl .sh (.int (1 + (k : Int)))], [.vl .sh (.list xs), .un, .vl .sh (.int (1 + (k : Int)))], rfl, ?_, fun _ => rfl, fun _ => ⟨[.vl .sh (.list xs), .un, .vl .sh (.int (1 + (k : Int)))], ?_, rfl⟩⟩
        · rw [hg]
          have hlt := ltD_str a b
          generalize decide (a.cps.toList < b.cps.toList) = q at hlt
          cases q <;> simp [ev_lit, ev_var, ev_mv, ev_op, ev_and, ev_or, ev_not, ev_ite, ev_chain, evL_nil, evL_pk, evL_pt, evT_nil, evT_cons, src_pt, src_sq, bind_ok, optR_some, noExc_ok, getS, setS, bound, peek, evL_lit, evA_lit, evL_var, evA_var, evL_mv, evA_mv, evL_con, evA_con, evL_op, evA_op, evL_and, evA_and, evL_or, evA_or, evL_not, evA_not, evL_ite, evA_ite, evL_chain, evA_chain, evL_call, evA_call, evL_lc, evA_lc, evL_mut, evA_mut, evA_nil, evA_io, imm, immL, immKids, topK, scalarP, truth, prim, okA, okN, okP, okT, okB, isType, seqOf, walkR, List.getElem?_cons_zero, List.getElem?_cons_succ, Option.getD_some, Option.bind_some, Option.bind_none, Option.map_some, isNoneD, isBoolD, subD, s1, i1, i2, hlt]
        · simp [ev_lit, ev_var, ev_mv, ev_op, ev_and, ev_or, ev_not, ev_ite, ev_chain, evL_nil, evL_pk, evL_pt, evT_nil, evT_cons, src_pt, src_sq, bind_ok, optR_some, noExc_ok, getS, setS, bound, peek, evL_lit, evA_lit, evL_var, evA_var, evL_mv, evA_mv, evL_con, evA_con, evL_op, evA_op, evL_and, evA_and, evL_or, evA_or, evL_not, evA_not, evL_ite, evA_ite, evL_chain, evA_chain, evL_call, evA_call, evL_lc, evA_lc, evL_mut, evA_mut, evA_nil, evA_io, imm, immL, immKids, topK, scalarP, truth, prim, okA, okN, okP, okT, okB, isType, seqOf, walkR, List.getElem?_cons_zero, List.getElem?_cons_succ, Option.getD_some, Option.bind_some, Option.bind_none, Option.map_some, isNoneD, isBoolD]
    · refine line_ok ?_
      rw [List.length_map]
      refine Nat.le_trans (List.length_filter_le _ _) ?_
      rw [rng, rangeL, List.length_map, List.length_range]
      omega
  have h2 : noDs (((rng xs).filter (ge2 xs)).map id) = true := noDs_all fun d hd => by
    rw [List.map_id] at hd
    obtain ⟨c, hc, rfl⟩ := List.mem_map.mp (List.mem_filter.mp hd).1
    rfl
  have h3 : (((rng xs).filter (ge2 xs)).map id).isEmpty = riseB xs := by rw [List.map_id]; rfl
  generalize ((rng xs).filter (ge2 xs)).map id = L at h1 h2 h3
  unfold runBody
  simp only [c_ascends, startS, evSs, evS]
  simp [ev_lit, ev_var, ev_mv, ev_op, ev_and, ev_or, ev_not, ev_ite, ev_chain, evL_nil, evL_pk, evL_pt, evT_nil, evT_cons, src_pt, src_sq, bind_ok, optR_some, noExc_ok, getS, setS, bound, peek, evL_lit, evA_lit, evL_var, evA_var, evL_mv, evA_mv, evL_con, evA_con, evL_op, evA_op, evL_and, evA_and, evL_or, evA_or, evL_not, evA_not, evL_ite, evA_ite, evL_chain, evA_chain, evL_call, evA_call, evL_lc, evA_lc, evL_mut, evA_mut, evA_nil, evA_io, imm, immL, immKids, topK, scalarP, truth, prim, okA, okN, okP, okT, okB, isType, seqOf, walkR, List.getElem?_cons_zero, List.getElem?_cons_succ, Option.getD_some, Option.bind_some, Option.bind_none, Option.map_some, isNoneD, isBoolD, h1, eq_nil h2, line_ok, h3, outsOf]
def namesB (xs : List D) : Bool := (xs.filter fun d => !nameB d).isEmpty && riseB xs
/-- a list of anything but dicts -/
structure Items (xs : List D) : Prop where
  len : xs.length ≤ 1000
  nod : noDs xs = true
  sm : ∀ d ∈ xs, smallStr d
theorem noDs_sub {xs ys : List D} (h : noDs xs = true) (hs : ∀ d ∈ ys, d ∈ xs) : noDs ys = true := by
  have : ∀ (l : List D), noDs l = true → ∀ d ∈ l, noD d = true := by
    intro l
    induction l with
    | nil => intro _ d hd; simp at hd
    | cons x l ih =>
      intro hl d hd
      simp [noDs] at hl
      rcases List.mem_cons.mp hd with rfl | hd
      · exact hl.1
      · exact ih hl.2 d hd
  exact noDs_all fun d hd => this xs h d (hs d hd)
theorem all_names {xs : List D} (h : (xs.filter fun d => !nameB d).isEmpty = true) : ∀ d ∈ xs, isStrD d = true := by
  intro d hd
  rw [List.isEmpty_iff, List.filter_eq_nil_iff] at h
  have := h d hd
  cases d <;> first | rfl | (simp [nameB] at this)
theorem is_names_list (n : Nat) (xs : List D) (hi : Items xs) : runBody (GG (n + 2)) [false] 3 fuel c_is_names [.list xs] = .ok (.bool (namesB xs), .fr, []) := by
  have h1 : evE (GG (n + 2)) (.lc (.pt 0) (.nm 2) [1, 2] [(.not_ (.call "is_name" [(.var 2)] [0]))] (.var 2)) [.vl .sh (.list xs), .un, .un] = .ok (.list ((xs.filter fun d => !nameB d).map id), mkK ((xs.filter fun d => !nameB d).all fun x => (Own.sh == Own.fr) || imm (id x)) (.list ((xs.filter fun d => !nameB d).map id)), [.vl .sh (.list xs), .un, .un]) := by
    rw [ev_lc (xs := xs) (l := (xs.filter fun d => !nameB d).map id) (b := (xs.filter fun d => !nameB d).all fun x => (Own.sh == Own.fr) || imm (id x)) (ρ1 := [.vl .sh (.list xs), .un, .un]) (ρ2 := [.un, .un, .un])]
    · rfl
    · simp [ev_lit, ev_var, ev_mv, ev_op, ev_and, ev_or, ev_not, ev_ite, ev_chain, evL_nil, evL_pk, evL_pt, evT_nil, evT_cons, src_pt, src_sq, bind_ok, optR_some, noExc_ok, getS, setS, bound, peek, evL_lit, evA_lit, evL_var, evA_var, evL_mv, evA_mv, evL_con, evA_con, evL_op, evA_op, evL_and, evA_and, evL_or, evA_or, evL_not, evA_not, evL_ite, evA_ite, evL_chain, evA_chain, evL_call, evA_call, evL_lc, evA_lc, evL_mut, evA_mut, evA_nil, evA_io, imm, immL, immKids, topK, scalarP, truth, prim, okA, okN, okP, okT, okB, isType, seqOf, walkR, List.getElem?_cons_zero, List.getElem?_cons_succ, Option.getD_some, Option.bind_some, Option.bind_none, Option.map_some, isNoneD, isBoolD]
    · rfl
    · have := lc_loop (ρ := [.un, .un, .un]) (bd := fun x ρ => bindT (.nm 2) x .sh ρ) (test := fun ρ => evT (GG (n + 2)) [(.not_ (.call "is_name" [(.var 2)] [0]))] ρ) (elt := fun ρ => evE (GG (n + 2)) (.var 2) ρ) (hs := [0, 1, 2]) (p := fun d => !nameB d) (q := id) (kk := fun _ => .sh) xs [] true ?_
      · refine this.trans ?_
        rw [Bool.true_and, List.nil_append]
      · intro d hd
        have e1 : evE (GG (n + 2)) (.call "is_name" [(.var 2)] [0]) [.un, .un, .vl .sh d] = .ok (.bool (nameB d), .fr, [.un, .un, .vl .sh d]) := by
          refine ev_call (ds := [d]) (ρ1 := [.un, .un, .vl .sh d]) (os := []) ?_ (fn_is_name (n + 1)) rfl (is_name_ok n d (hi.sm d hd)) rfl rfl
          simp [ev_lit, ev_var, ev_mv, ev_op, ev_and, ev_or, ev_not, ev_ite, ev_chain, evL_nil, evL_pk, evL_pt, evT_nil, evT_cons, src_pt, src_sq, bind_ok, optR_some, noExc_ok, getS, setS, bound, peek, evL_lit, evA_lit, evL_var, evA_var, evL_mv, evA_mv, evL_con, evA_con, evL_op, evA_op, evL_and, evA_and, evL_or, evA_or, evL_not, evA_not, evL_ite, evA_ite, evL_chain, evA_chain, evL_call, evA_call, evL_lc, evA_lc, evL_mut, evA_mut, evA_nil, evA_io, imm, immL, immKids, topK, scalarP, truth, prim, okA, okN, okP, okT, okB, isType, seqOf, walkR, List.getElem?_cons_zero, List.getElem?_cons_succ, Option.getD_some, Option.bind_some, Option.bind_none, Option.map_some, isNoneD, isBoolD]
        refine ⟨[.un, .un, .vl .sh d], [.un, .un, .vl .sh d], rfl, ?_, fun _ => rfl, fun _ => ⟨[.un, .un, .vl .sh d], ?_, rfl⟩⟩
        · cases hq : nameB d <;> (rw [hq] at e1; simp [ev_lit, ev_var, ev_mv, ev_op, ev_and, ev_or, ev_not, ev_ite, ev_chain, evL_nil, evL_pk, evL_pt, evT_nil, evT_cons, src_pt, src_sq, bind_ok, optR_some, noExc_ok, getS, setS, bound, peek, evL_lit, evA_lit, evL_var, evA_var, evL_mv, evA_mv, evL_con, evA_con, evL_op, evA_op, evL_and, evA_and, evL_or, evA_or, evL_not, evA_not, evL_ite, evA_ite, evL_chain, evA_chain, evL_call, evA_call, evL_lc, evA_lc, evL_mut, evA_mut, evA_nil, evA_io, imm, immL, immKids, topK, scalarP, truth, prim, okA, okN, okP, okT, okB, isType, seqOf, walkR, List.getElem?_cons_zero, List.getElem?_cons_succ, Option.getD_some, Option.bind_some, Option.bind_none, Option.map_some, isNoneD, isBoolD, e1])
        · simp [ev_lit, ev_var, ev_mv, ev_op, ev_and, ev_or, ev_not, ev_ite, ev_chain, evL_nil, evL_pk, evL_pt, evT_nil, evT_cons, src_pt, src_sq, bind_ok, optR_some, noExc_ok, getS, setS, bound, peek, evL_lit, evA_lit, evL_var, evA_var, evL_mv, evA_mv, evL_con, evA_con, evL_op, evA_op, evL_and, evA_and, evL_or, evA_or, evL_not, evA_not, evL_ite, evA_ite, evL_chain, evA_chain, evL_call, evA_call, evL_lc, evA_lc, evL_mut, evA_mut, evA_nil, evA_io, imm, immL, immKids, topK, scalarP, truth, prim, okA, okN, okP, okT, okB, isType, seqOf, walkR, List.getElem?_cons_zero, List.getElem?_cons_succ, Option.getD_some, Option.bind_some, Option.bind_none, Option.map_some, isNoneD, isBoolD]
    · refine line_ok ?_
      rw [List.length_map]
      have := hi.len
      exact Nat.le_trans (List.length_filter_le _ _) (by omega)
  have h2 : noDs ((xs.filter fun d => !nameB d).map id) = true := noDs_sub hi.nod fun d hd => by
    rw [List.map_id] at hd
    exact (List.mem_filter.mp hd).1
  have h3 : ((xs.filter fun d => !nameB d).map id).isEmpty = (xs.filter fun d => !nameB d).isEmpty := by rw [List.map_id]
  generalize mkK ((xs.filter fun d => !nameB d).all fun x => (Own.sh == Own.fr) || imm (id x)) (.list ((xs.filter fun d => !nameB d).map id)) = kk at h1
  generalize ((xs.filter fun d => !nameB d).map id) = L at h1 h2 h3
  have hn : namesB xs = ((xs.filter fun d => !nameB d).isEmpty && riseB xs) := rfl
  unfold runBody
  simp only [c_is_names, startS, evSs, evS]
  cases hq : (xs.filter fun d => !nameB d).isEmpty with
  | false =>
    rw [hq] at h3 hn
    simp [ev_lit, ev_var, ev_mv, ev_op, ev_and, ev_or, ev_not, ev_ite, ev_chain, evL_nil, evL_pk, evL_pt, evT_nil, evT_cons, src_pt, src_sq, bind_ok, optR_some, noExc_ok, getS, setS, bound, peek, evL_lit, evA_lit, evL_var, evA_var, evL_mv, evA_mv, evL_con, evA_con, evL_op, evA_op, evL_and, evA_and, evL_or, evA_or, evL_not, evA_not, evL_ite, evA_ite, evL_chain, evA_chain, evL_call, evA_call, evL_lc, evA_lc, evL_mut, evA_mut, evA_nil, evA_io, imm, immL, immKids, topK, scalarP, truth, prim, okA, okN, okP, okT, okB, isType, seqOf, walkR, List.getElem?_cons_zero, List.getElem?_cons_succ, Option.getD_some, Option.bind_some, Option.bind_none, Option.map_some, isNoneD, isBoolD, h1, eq_nil h2, line_ok, h3, outsOf, hn]
  | true =>
    have e2 : evE (GG (n + 2)) (.call "ascends" [(.var 0)] [0]) [.vl .sh (.list xs), .un, .un] = .ok (.bool (riseB xs), .fr, [.vl .sh (.list xs), .un, .un]) := by
      refine ev_call (ds := [.list xs]) (ρ1 := [.vl .sh (.list xs), .un, .un]) (os := []) ?_ (fn_ascends (n + 1)) rfl (rise_ok (n + 1) xs hi.len (all_names hq)) rfl rfl
      simp [ev_lit, ev_var, ev_mv, ev_op, ev_and, ev_or, ev_not, ev_ite, ev_chain, evL_nil, evL_pk, evL_pt, evT_nil, evT_cons, src_pt, src_sq, bind_ok, optR_some, noExc_ok, getS, setS, bound, peek, evL_lit, evA_lit, evL_var, evA_var, evL_mv, evA_mv, evL_con, evA_con, evL_op, evA_op, evL_and, evA_and, evL_or, evA_or, evL_not, evA_not, evL_ite, evA_ite, evL_chain, evA_chain, evL_call, evA_call, evL_lc, evA_lc, evL_mut, evA_mut, evA_nil, evA_io, imm, immL, immKids, topK, scalarP, truth, prim, okA, okN, okP, okT, okB, isType, seqOf, walkR, List.getElem?_cons_zero, List.getElem?_cons_succ, Option.getD_some, Option.bind_some, Option.bind_none, Option.map_some, isNoneD, isBoolD]
    rw [hq] at h3 hn
    simp [ev_lit, ev_var, ev_mv, ev_op, ev_and, ev_or, ev_not, ev_ite, ev_chain, evL_nil, evL_pk, evL_pt, evT_nil, evT_cons, src_pt, src_sq, bind_ok, optR_some, noExc_ok, getS, setS, bound, peek, evL_lit, evA_lit, evL_var, evA_var, evL_mv, evA_mv, evL_con, evA_con, evL_op, evA_op, evL_and, evA_and, evL_or, evA_or, evL_not, evA_not, evL_ite, evA_ite, evL_chain, evA_chain, evL_call, evA_call, evL_lc, evA_lc, evL_mut, evA_mut, evA_nil, evA_io, imm, immL, immKids, topK, scalarP, truth, prim, okA, okN, okP, okT, okB, isType, seqOf, walkR, List.getElem?_cons_zero, List.getElem?_cons_succ, Option.getD_some, Option.bind_some, Option.bind_none, Option.map_some, isNoneD, isBoolD, h1, eq_nil h2, line_ok, h3, outsOf, hn, e2]
theorem is_names_non (n : Nat) (d : D) (h : ∀ xs, d ≠ .list xs) : runBody (GG n) [false] 3 fuel c_is_names [d] = .ok (.bool false, .fr, []) := by
  cases d <;> first | (exact absurd rfl (h _)) | skip
  all_goals (unfold runBody; simp only [c_is_names, startS, evSs, evS]; simp [ev_lit, ev_var, ev_mv, ev_op, ev_and, ev_or, ev_not, ev_ite, ev_chain, evL_nil, evL_pk, evL_pt, evT_nil, evT_cons, src_pt, src_sq, bind_ok, optR_some, noExc_ok, getS, setS, bound, peek, evL_lit, evA_lit, evL_var, evA_var, evL_mv, evA_mv, evL_con, evA_con, evL_op, evA_op, evL_and, evA_and, evL_or, evA_or, evL_not, evA_not, evL_ite, evA_ite, evL_chain, evA_chain, evL_call, evA_call, evL_lc, evA_lc, evL_mut, evA_mut, evA_nil, evA_io, imm, immL, immKids, topK, scalarP, truth, prim, okA, okN, okP, okT, okB, isType, seqOf, walkR, List.getElem?_cons_zero, List.getElem?_cons_succ, Option.getD_some, Option.bind_some, Option.bind_none, Option.map_some, isNoneD, isBoolD, outsOf])
end TH.Lk01
end
section
set_option Elab.async false
set_option linter.all false
set_option maxRecDepth 100000
namespace TH.Lk01
open PySem PySem.Spec PyProof.Rows L2
/-! exactly like -/
theorem exact_bool (n : Nat) (a : Bool) : runBody (GG n) [false, false] 5 fuel c__law_exact [.bool a, .bool a] = .ok (.bool true, .fr, []) := by
  unfold runBody
  cases a <;> (simp only [c__law_exact, startS, evSs, evS]; simp [ev_lit, ev_var, ev_mv, ev_op, ev_and, ev_or, ev_not, ev_ite, ev_chain, evL_nil, evL_pk, evL_pt, evT_nil, evT_cons, src_pt, src_sq, bind_ok, optR_some, noExc_ok, getS, setS, bound, peek, evL_lit, evA_lit, evL_var, evA_var, evL_mv, evA_mv, evL_con, evA_con, evL_op, evA_op, evL_and, evA_and, evL_or, evA_or, evL_not, evA_not, evL_ite, evA_ite, evL_chain, evA_chain, evL_call, evA_call, evL_lc, evA_lc, evL_mut, evA_mut, evA_nil, evA_io, imm, immL, immKids, topK, scalarP, truth, prim, okA, okN, okP, okT, okB, isType, seqOf, walkR, List.getElem?_cons_zero, List.getElem?_cons_succ, Option.getD_some, Option.bind_some, Option.bind_none, Option.map_some, isNoneD, isBoolD, outsOf])
theorem exact_two (n : Nat) (a b : Bool) : runBody (GG (n + 1)) [false, false] 5 fuel c__law_exact [.list [.bool a, .bool b], .list [.bool a, .bool b]] = .ok (.bool true, .fr, []) := by
  have h1 : evE (GG (n + 1)) (.lc (.sq .zip [(.var 0), (.var 1)]) (.tp [(.nm 3), (.nm 4)]) [2, 3, 4] [] (.call "_law_exact" [(.var 3), (.var 4)] [0, 1])) [.vl .sh (.list [.bool a, .bool b]), .vl .sh (.list [.bool a, .bool b]), .un, .un, .un] = .ok (.list [.bool true, .bool true], .fr, [.vl .sh (.list [.bool a, .bool b]), .vl .sh (.list [.bool a, .bool b]), .un, .un, .un]) := by
    rw [ev_lc (xs := [.tuple [.bool a, .bool a], .tuple [.bool b, .bool b]]) (l := [.bool true, .bool true]) (b := true) (ρ1 := [.vl .sh (.list [.bool a, .bool b]), .vl .sh (.list [.bool a, .bool b]), .un, .un, .un]) (ρ2 := [.vl .sh (.list [.bool a, .bool b]), .vl .sh (.list [.bool a, .bool b]), .un, .un, .un])]
    · rfl
    · simp [ev_lit, ev_var, ev_mv, ev_op, ev_and, ev_or, ev_not, ev_ite, ev_chain, evL_nil, evL_pk, evL_pt, evT_nil, evT_cons, src_pt, src_sq, bind_ok, optR_some, noExc_ok, getS, setS, bound, peek, evL_lit, evA_lit, evL_var, evA_var, evL_mv, evA_mv, evL_con, evA_con, evL_op, evA_op, evL_and, evA_and, evL_or, evA_or, evL_not, evA_not, evL_ite, evA_ite, evL_chain, evA_chain, evL_call, evA_call, evL_lc, evA_lc, evL_mut, evA_mut, evA_nil, evA_io, imm, immL, immKids, topK, scalarP, truth, prim, okA, okN, okP, okT, okB, isType, seqOf, walkR, List.getElem?_cons_zero, List.getElem?_cons_succ, Option.getD_some, Option.bind_some, Option.bind_none, Option.map_some, isNoneD, isBoolD, zipD]
    · rfl
    · have := lc_loop (ρ := [.vl .sh (.list [.bool a, .bool b]), .vl .sh (.list [.bool a, .bool b]), .un, .un, .un]) (bd := fun x ρ => bindT (.tp [(.nm 3), (.nm 4)]) x .sh ρ) (test := fun ρ => evT (GG (n + 1)) [] ρ) (elt := fun ρ => evE (GG (n + 1)) (.call "_law_exact" [(.var 3), (.var 4)] [0, 1]) ρ) (hs := [2, 3, 4]) (p := fun _ => true) (q := fun _ => .bool true) (kk := fun _ => .fr) [.tuple [.bool a, .bool a], .tuple [.bool b, .bool b]] [] true ?_
      · exact this.trans (by simp)
      · intro d hd
        have hd : ∃ c : Bool, d = .tuple [.bool c, .bool c] := by
          simp at hd
          rcases hd with rfl | rfl
          · exact ⟨a, rfl⟩
          · exact ⟨b, rfl⟩
        obtain ⟨c, rfl⟩ := hd
        refine ⟨[.vl .sh (.list [.bool a, .bool b]), .vl .sh (.list [.bool a, .bool b]), .un, .vl .sh (.bool c), .vl .sh (.bool c)], [.vl .sh (.list [.bool a, .bool b]), .vl .sh (.list [.bool a, .bool b]), .un, .vl .sh (.bool c), .vl .sh (.bool c)], rfl, by simp [ev_lit, ev_var, ev_mv, ev_op, ev_and, ev_or, ev_not, ev_ite, ev_chain, evL_nil, evL_pk, evL_pt, evT_nil, evT_cons, src_pt, src_sq, bind_ok, optR_some, noExc_ok, getS, setS, bound, peek, evL_lit, evA_lit, evL_var, evA_var, evL_mv, evA_mv, evL_con, evA_con, evL_op, evA_op, evL_and, evA_and, evL_or, evA_or, evL_not, evA_not, evL_ite, evA_ite, evL_chain, evA_chain, evL_call, evA_call, evL_lc, evA_lc, evL_mut, evA_mut, evA_nil, evA_io, imm, immL, immKids, topK, scalarP, truth, prim, okA, okN, okP, okT, okB, isType, seqOf, walkR, List.getElem?_cons_zero, List.getElem?_cons_succ, Option.getD_some, Option.bind_some, Option.bind_none, Option.map_some, isNoneD, isBoolD], (fun z => by cases z), fun _ => ⟨[.vl .sh (.list [.bool a, .bool b]), .vl .sh (.list [.bool a, .bool b]), .un, .vl .sh (.bool c), .vl .sh (.bool c)], ?_, rfl⟩⟩
        refine ev_call (ds := [.bool c, .bool c]) (ρ1 := [.vl .sh (.list [.bool a, .bool b]), .vl .sh (.list [.bool a, .bool b]), .un, .vl .sh (.bool c), .vl .sh (.bool c)]) (os := []) ?_ (fn_exact n) rfl (exact_bool n c) rfl rfl
        simp [ev_lit, ev_var, ev_mv, ev_op, ev_and, ev_or, ev_not, ev_ite, ev_chain, evL_nil, evL_pk, evL_pt, evT_nil, evT_cons, src_pt, src_sq, bind_ok, optR_some, noExc_ok, getS, setS, bound, peek, evL_lit, evA_lit, evL_var, evA_var, evL_mv, evA_mv, evL_con, evA_con, evL_op, evA_op, evL_and, evA_and, evL_or, evA_or, evL_not, evA_not, evL_ite, evA_ite, evL_chain, evA_chain, evL_call, evA_call, evL_lc, evA_lc, evL_mut, evA_mut, evA_nil, evA_io, imm, immL, immKids, topK, scalarP, truth, prim, okA, okN, okP, okT, okB, isType, seqOf, walkR, List.getElem?_cons_zero, List.getElem?_cons_succ, Option.getD_some, Option.bind_some, Option.bind_none, Option.map_some, isNoneD, isBoolD]
    · exact line_ok (by decide)
  have h2 : inD (.bool false) (.list [.bool true, .bool true]) = some false := by
    rw [inD_list (shal_bool _) rfl rfl]
    rfl
  unfold runBody
  simp only [c__law_exact, startS, evSs, evS]
  simp [ev_lit, ev_var, ev_mv, ev_op, ev_and, ev_or, ev_not, ev_ite, ev_chain, evL_nil, evL_pk, evL_pt, evT_nil, evT_cons, src_pt, src_sq, bind_ok, optR_some, noExc_ok, getS, setS, bound, peek, evL_lit, evA_lit, evL_var, evA_var, evL_mv, evA_mv, evL_con, evA_con, evL_op, evA_op, evL_and, evA_and, evL_or, evA_or, evL_not, evA_not, evL_ite, evA_ite, evL_chain, evA_chain, evL_call, evA_call, evL_lc, evA_lc, evL_mut, evA_mut, evA_nil, evA_io, imm, immL, immKids, topK, scalarP, truth, prim, okA, okN, okP, okT, okB, isType, seqOf, walkR, List.getElem?_cons_zero, List.getElem?_cons_succ, Option.getD_some, Option.bind_some, Option.bind_none, Option.map_some, isNoneD, isBoolD, outsOf, lenD, eqOk_int, h1, h2]
/-! judged -/
structure GoodV (d : D) : Prop where
  sh : d.showable = true
  ln : line d.shown.length = true
  dp : shal d = true
  sm : smallStr d
  it : ∀ xs, d = .list xs → Items xs
def isL : D → Bool
  | .list _ => true
  | _ => false
def nmsB : D → Bool
  | .list xs => namesB xs
  | _ => false
def badB : D → Bool
  | .list xs => (xs.filter fun d => !nameB d).isEmpty
  | _ => false
def lotsB (d : D) : Bool := isL d && badB d
theorem is_names_ok (n : Nat) (d : D) (h : GoodV d) : runBody (GG (n + 2)) [false] 3 fuel c_is_names [d] = .ok (.bool (nmsB d), .fr, []) := by
  by_cases hs : ∃ xs, d = .list xs
  · obtain ⟨xs, rfl⟩ := hs
    exact is_names_list n xs (h.it xs rfl)
  · have hn : ∀ xs, d ≠ .list xs := fun x e => hs ⟨x, e⟩
    rw [is_names_non (n + 2) d hn]
    cases d <;> first | rfl | exact absurd rfl (hn _)
theorem repr_ok {d : D} (h : GoodV d) : reprD d = some (.str d.shown, .fr) := by
  unfold reprD
  rw [h.sh, h.ln, h.dp]; rfl
theorem judged_ok (n : Nat) (d : D) (h : GoodV d) : runBody (GG (n + 4)) [false] 8 fuel c__law_judged [d] = .ok (.bool true, .fr, []) := by
  -- lots
  have h1 : ∀ xs, d = .list xs → evE (GG (n + 4)) (.lc (.pt 0) (.nm 7) [6, 7] [(.not_ (.call "_law_name" [(.var 7)] [0]))] (.var 7)) [.vl .sh d, .vl .fr (.str d.shown), .un, .un, .un, .un, .un, .un] = .ok (.list ((xs.filter fun d => !nameB d).map id), mkK ((xs.filter fun d => !nameB d).all fun x => (Own.sh == Own.fr) || imm (id x)) (.list ((xs.filter fun d => !nameB d).map id)), [.vl .sh d, .vl .fr (.str d.shown), .un, .un, .un, .un, .un, .un]) := by
    intro xs hxs
    subst hxs
    have hi := h.it xs rfl
    rw [ev_lc (xs := xs) (l := (xs.filter fun d => !nameB d).map id) (b := (xs.filter fun d => !nameB d).all fun x => (Own.sh == Own.fr) || imm (id x)) (ρ1 := [.vl .sh (.list xs), .vl .fr (.str (PyData.list xs).shown), .un, .un, .un, .un, .un, .un]) (ρ2 := [.un, .vl .fr (.str (PyData.list xs).shown), .un, .un, .un, .un, .un, .un])]
    · rfl
    · simp [ev_lit, ev_var, ev_mv, ev_op, ev_and, ev_or, ev_not, ev_ite, ev_chain, evL_nil, evL_pk, evL_pt, evT_nil, evT_cons, src_pt, src_sq, bind_ok, optR_some, noExc_ok, getS, setS, bound, peek, evL_lit, evA_lit, evL_var, evA_var, evL_mv, evA_mv, evL_con, evA_con, evL_op, evA_op, evL_and, evA_and, evL_or, evA_or, evL_not, evA_not, evL_ite, evA_ite, evL_chain, evA_chain, evL_call, evA_call, evL_lc, evA_lc, evL_mut, evA_mut, evA_nil, evA_io, imm, immL, immKids, topK, scalarP, truth, prim, okA, okN, okP, okT, okB, isType, seqOf, walkR, List.getElem?_cons_zero, List.getElem?_cons_succ, Option.getD_some, Option.bind_some, Option.bind_none, Option.map_some, isNoneD, isBoolD]
    · rfl
    · have := lc_loop (ρ := [.un, .vl .fr (.str (PyData.list xs).shown), .un, .un, .un, .un, .un, .un]) (bd := fun x ρ => bindT (.nm 7) x .sh ρ) (test := fun ρ => evT (GG (n + 4)) [(.not_ (.call "_law_name" [(.var 7)] [0]))] ρ) (elt := fun ρ => evE (GG (n + 4)) (.var 7) ρ) (hs := [0, 6, 7]) (p := fun d => !nameB d) (q := id) (kk := fun _ => .sh) xs [] true ?_
      · refine this.trans ?_
        rw [Bool.true_and, List.nil_append]
      · intro d hd
        have e1 : evE (GG (n + 4)) (.call "_law_name" [(.var 7)] [0]) [.un, .vl .fr (.str (PyData.list xs).shown), .un, .un, .un, .un, .un, .vl .sh d] = .ok (.bool (nameB d), .fr, [.un, .vl .fr (.str (PyData.list xs).shown), .un, .un, .un, .un, .un, .vl .sh d]) := by
          refine ev_call (ds := [d]) (ρ1 := [.un, .vl .fr (.str (PyData.list xs).shown), .un, .un, .un, .un, .un, .vl .sh d]) (os := []) ?_ (fn_name (n + 3)) rfl (name_ok (n + 3) d (hi.sm d hd)) rfl rfl
          simp [ev_lit, ev_var, ev_mv, ev_op, ev_and, ev_or, ev_not, ev_ite, ev_chain, evL_nil, evL_pk, evL_pt, evT_nil, evT_cons, src_pt, src_sq, bind_ok, optR_some, noExc_ok, getS, setS, bound, peek, evL_lit, evA_lit, evL_var, evA_var, evL_mv, evA_mv, evL_con, evA_con, evL_op, evA_op, evL_and, evA_and, evL_or, evA_or, evL_not, evA_not, evL_ite, evA_ite, evL_chain, evA_chain, evL_call, evA_call, evL_lc, evA_lc, evL_mut, evA_mut, evA_nil, evA_io, imm, immL, immKids, topK, scalarP, truth, prim, okA, okN, okP, okT, okB, isType, seqOf, walkR, List.getElem?_cons_zero, List.getElem?_cons_succ, Option.getD_some, Option.bind_some, Option.bind_none, Option.map_some, isNoneD, isBoolD]
        refine ⟨[.un, .vl .fr (.str (PyData.list xs).shown), .un, .un, .un, .un, .un, .vl .sh d], [.un, .vl .fr (.str (PyData.list xs).shown), .un, .un, .un, .un, .un, .vl .sh d], rfl, ?_, fun _ => rfl, fun _ => ⟨[.un, .vl .fr (.str (PyData.list xs).shown), .un, .un, .un, .un, .un, .vl .sh d], ?_, rfl⟩⟩
        · cases hq : nameB d <;> (rw [hq] at e1; simp [ev_lit, ev_var, ev_mv, ev_op, ev_and, ev_or, ev_not, ev_ite, ev_chain, evL_nil, evL_pk, evL_pt, evT_nil, evT_cons, src_pt, src_sq, bind_ok, optR_some, noExc_ok, getS, setS, bound, peek, evL_lit, evA_lit, evL_var, evA_var, evL_mv, evA_mv, evL_con, evA_con, evL_op, evA_op, evL_and, evA_and, evL_or, evA_or, evL_not, evA_not, evL_ite, evA_ite, evL_chain, evA_chain, evL_call, evA_call, evL_lc, evA_lc, evL_mut, evA_mut, evA_nil, evA_io, imm, immL, immKids, topK, scalarP, truth, prim, okA, okN, okP, okT, okB, isType, seqOf, walkR, List.getElem?_cons_zero, List.getElem?_cons_succ, Option.getD_some, Option.bind_some, Option.bind_none, Option.map_some, isNoneD, isBoolD, e1])
        · simp [ev_lit, ev_var, ev_mv, ev_op, ev_and, ev_or, ev_not, ev_ite, ev_chain, evL_nil, evL_pk, evL_pt, evT_nil, evT_cons, src_pt, src_sq, bind_ok, optR_some, noExc_ok, getS, setS, bound, peek, evL_lit, evA_lit, evL_var, evA_var, evL_mv, evA_mv, evL_con, evA_con, evL_op, evA_op, evL_and, evA_and, evL_or, evA_or, evL_not, evA_not, evL_ite, evA_ite, evL_chain, evA_chain, evL_call, evA_call, evL_lc, evA_lc, evL_mut, evA_mut, evA_nil, evA_io, imm, immL, immKids, topK, scalarP, truth, prim, okA, okN, okP, okT, okB, isType, seqOf, walkR, List.getElem?_cons_zero, List.getElem?_cons_succ, Option.getD_some, Option.bind_some, Option.bind_none, Option.map_some, isNoneD, isBoolD]
    · refine line_ok ?_
      rw [List.length_map]
      have := hi.len
      exact Nat.le_trans (List.length_filter_le _ _) (by omega)
  have hlots : evE (GG (n + 4)) (.and_ (.op (.isi "list") [(.pk 0)]) (.op .eq [(.lc (.pt 0) (.nm 7) [6, 7] [(.not_ (.call "_law_name" [(.var 7)] [0]))] (.var 7)), (.op .lst [])])) [.vl .sh d, .vl .fr (.str d.shown), .un, .un, .un, .un, .un, .un] = .ok (.bool (lotsB d), .fr, [.vl .sh d, .vl .fr (.str d.shown), .un, .un, .un, .un, .un, .un]) := by
    by_cases hs : ∃ xs, d = .list xs
    · obtain ⟨xs, rfl⟩ := hs
      have hi := h.it xs rfl
      have g1 := h1 xs rfl
      have h2 : noDs ((xs.filter fun d => !nameB d).map id) = true := noDs_sub hi.nod fun d hd => by
        rw [List.map_id] at hd
        exact (List.mem_filter.mp hd).1
      have h3 : ((xs.filter fun d => !nameB d).map id).isEmpty = lotsB (.list xs) := by rw [List.map_id]; rfl
      generalize mkK ((xs.filter fun d => !nameB d).all fun x => (Own.sh == Own.fr) || imm (id x)) (.list ((xs.filter fun d => !nameB d).map id)) = kk at g1
      generalize ((xs.filter fun d => !nameB d).map id) = L at g1 h2 h3
      simp [ev_lit, ev_var, ev_mv, ev_op, ev_and, ev_or, ev_not, ev_ite, ev_chain, evL_nil, evL_pk, evL_pt, evT_nil, evT_cons, src_pt, src_sq, bind_ok, optR_some, noExc_ok, getS, setS, bound, peek, evL_lit, evA_lit, evL_var, evA_var, evL_mv, evA_mv, evL_con, evA_con, evL_op, evA_op, evL_and, evA_and, evL_or, evA_or, evL_not, evA_not, evL_ite, evA_ite, evL_chain, evA_chain, evL_call, evA_call, evL_lc, evA_lc, evL_mut, evA_mut, evA_nil, evA_io, imm, immL, immKids, topK, scalarP, truth, prim, okA, okN, okP, okT, okB, isType, seqOf, walkR, List.getElem?_cons_zero, List.getElem?_cons_succ, Option.getD_some, Option.bind_some, Option.bind_none, Option.map_some, isNoneD, isBoolD, g1, eq_nil h2, line_ok, h3]
    · have hn : ∀ xs, d ≠ .list xs := fun x e => hs ⟨x, e⟩
      cases d <;> first | (exact absurd rfl (hn _)) | skip
      all_goals simp [ev_lit, ev_var, ev_mv, ev_op, ev_and, ev_or, ev_not, ev_ite, ev_chain, evL_nil, evL_pk, evL_pt, evT_nil, evT_cons, src_pt, src_sq, bind_ok, optR_some, noExc_ok, getS, setS, bound, peek, evL_lit, evA_lit, evL_var, evA_var, evL_mv, evA_mv, evL_con, evA_con, evL_op, evA_op, evL_and, evA_and, evL_or, evA_or, evL_not, evA_not, evL_ite, evA_ite, evL_chain, evA_chain, evL_call, evA_call, evL_lc, evA_lc, evL_mut, evA_mut, evA_nil, evA_io, imm, immL, immKids, topK, scalarP, truth, prim, okA, okN, okP, okT, okB, isType, seqOf, walkR, List.getElem?_cons_zero, List.getElem?_cons_succ, Option.getD_some, Option.bind_some, Option.bind_none, Option.map_some, isNoneD, isBoolD, lotsB, isL]
  -- the calls
  have cn : ∀ (b : Bool) (s3 s4 s5 : Slot), evE (GG (n + 4)) (.call "_law_name" [(.var 0)] [0]) [.vl .sh d, .vl .fr (.str d.shown), .vl .fr (.bool b), s3, s4, s5, .un, .un] = .ok (.bool (nameB d), .fr, [.vl .sh d, .vl .fr (.str d.shown), .vl .fr (.bool b), s3, s4, s5, .un, .un]) := fun b s3 s4 s5 => by
    refine ev_call (ds := [d]) (ρ1 := [.vl .sh d, .vl .fr (.str d.shown), .vl .fr (.bool b), s3, s4, s5, .un, .un]) (os := []) ?_ (fn_name (n + 3)) rfl (name_ok (n + 3) d h.sm) rfl rfl
    simp [ev_lit, ev_var, ev_mv, ev_op, ev_and, ev_or, ev_not, ev_ite, ev_chain, evL_nil, evL_pk, evL_pt, evT_nil, evT_cons, src_pt, src_sq, bind_ok, optR_some, noExc_ok, getS, setS, bound, peek, evL_lit, evA_lit, evL_var, evA_var, evL_mv, evA_mv, evL_con, evA_con, evL_op, evA_op, evL_and, evA_and, evL_or, evA_or, evL_not, evA_not, evL_ite, evA_ite, evL_chain, evA_chain, evL_call, evA_call, evL_lc, evA_lc, evL_mut, evA_mut, evA_nil, evA_io, imm, immL, immKids, topK, scalarP, truth, prim, okA, okN, okP, okT, okB, isType, seqOf, walkR, List.getElem?_cons_zero, List.getElem?_cons_succ, Option.getD_some, Option.bind_some, Option.bind_none, Option.map_some, isNoneD, isBoolD]
  have cm : ∀ (b : Bool) (s3 s4 s5 : Slot), evE (GG (n + 4)) (.call "is_name" [(.var 0)] [0]) [.vl .sh d, .vl .fr (.str d.shown), .vl .fr (.bool b), s3, s4, s5, .un, .un] = .ok (.bool (nameB d), .fr, [.vl .sh d, .vl .fr (.str d.shown), .vl .fr (.bool b), s3, s4, s5, .un, .un]) := fun b s3 s4 s5 => by
    refine ev_call (ds := [d]) (ρ1 := [.vl .sh d, .vl .fr (.str d.shown), .vl .fr (.bool b), s3, s4, s5, .un, .un]) (os := []) ?_ (fn_is_name (n + 3)) rfl (is_name_ok (n + 2) d h.sm) rfl rfl
    simp [ev_lit, ev_var, ev_mv, ev_op, ev_and, ev_or, ev_not, ev_ite, ev_chain, evL_nil, evL_pk, evL_pt, evT_nil, evT_cons, src_pt, src_sq, bind_ok, optR_some, noExc_ok, getS, setS, bound, peek, evL_lit, evA_lit, evL_var, evA_var, evL_mv, evA_mv, evL_con, evA_con, evL_op, evA_op, evL_and, evA_and, evL_or, evA_or, evL_not, evA_not, evL_ite, evA_ite, evL_chain, evA_chain, evL_call, evA_call, evL_lc, evA_lc, evL_mut, evA_mut, evA_nil, evA_io, imm, immL, immKids, topK, scalarP, truth, prim, okA, okN, okP, okT, okB, isType, seqOf, walkR, List.getElem?_cons_zero, List.getElem?_cons_succ, Option.getD_some, Option.bind_some, Option.bind_none, Option.map_some, isNoneD, isBoolD]
  have cms : ∀ (b : Bool) (s3 s4 s5 : Slot), evE (GG (n + 4)) (.call "is_names" [(.var 0)] [0]) [.vl .sh d, .vl .fr (.str d.shown), .vl .fr (.bool b), s3, s4, s5, .un, .un] = .ok (.bool (nmsB d), .fr, [.vl .sh d, .vl .fr (.str d.shown), .vl .fr (.bool b), s3, s4, s5, .un, .un]) := fun b s3 s4 s5 => by
    refine ev_call (ds := [d]) (ρ1 := [.vl .sh d, .vl .fr (.str d.shown), .vl .fr (.bool b), s3, s4, s5, .un, .un]) (os := []) ?_ (fn_is_names (n + 3)) rfl (is_names_ok (n + 1) d h) rfl rfl
    simp [ev_lit, ev_var, ev_mv, ev_op, ev_and, ev_or, ev_not, ev_ite, ev_chain, evL_nil, evL_pk, evL_pt, evT_nil, evT_cons, src_pt, src_sq, bind_ok, optR_some, noExc_ok, getS, setS, bound, peek, evL_lit, evA_lit, evL_var, evA_var, evL_mv, evA_mv, evL_con, evA_con, evL_op, evA_op, evL_and, evA_and, evL_or, evA_or, evL_not, evA_not, evL_ite, evA_ite, evL_chain, evA_chain, evL_call, evA_call, evL_lc, evA_lc, evL_mut, evA_mut, evA_nil, evA_io, imm, immL, immKids, topK, scalarP, truth, prim, okA, okN, okP, okT, okB, isType, seqOf, walkR, List.getElem?_cons_zero, List.getElem?_cons_succ, Option.getD_some, Option.bind_some, Option.bind_none, Option.map_some, isNoneD, isBoolD]
  have cr : lotsB d = true → ∀ (b : Bool) (s3 s4 s5 : Slot), evE (GG (n + 4)) (.call "_law_rise" [(.var 0)] [0]) [.vl .sh d, .vl .fr (.str d.shown), .vl .fr (.bool b), s3, s4, s5, .un, .un] = .ok (.bool (nmsB d), .fr, [.vl .sh d, .vl .fr (.str d.shown), .vl .fr (.bool b), s3, s4, s5, .un, .un]) := fun hb b s3 s4 s5 => by
    obtain ⟨xs, rfl⟩ : ∃ xs, d = .list xs := by cases d <;> first | exact ⟨_, rfl⟩ | (simp [lotsB, isL] at hb)
    have hb : (xs.filter fun d => !nameB d).isEmpty = true := hb
    have e0 : nmsB (.list xs) = riseB xs := by
      show ((xs.filter fun d => !nameB d).isEmpty && riseB xs) = _
      rw [hb, Bool.true_and]
    rw [e0]
    refine ev_call (ds := [.list xs]) (os := []) ?_ (fn_rise (n + 3)) rfl (rise_ok (n + 3) xs (h.it xs rfl).len (all_names hb)) rfl rfl
    simp [ev_lit, ev_var, ev_mv, ev_op, ev_and, ev_or, ev_not, ev_ite, ev_chain, evL_nil, evL_pk, evL_pt, evT_nil, evT_cons, src_pt, src_sq, bind_ok, optR_some, noExc_ok, getS, setS, bound, peek, evL_lit, evA_lit, evL_var, evA_var, evL_mv, evA_mv, evL_con, evA_con, evL_op, evA_op, evL_and, evA_and, evL_or, evA_or, evL_not, evA_not, evL_ite, evA_ite, evL_chain, evA_chain, evL_call, evA_call, evL_lc, evA_lc, evL_mut, evA_mut, evA_nil, evA_io, imm, immL, immKids, topK, scalarP, truth, prim, okA, okN, okP, okT, okB, isType, seqOf, walkR, List.getElem?_cons_zero, List.getElem?_cons_succ, Option.getD_some, Option.bind_some, Option.bind_none, Option.map_some, isNoneD, isBoolD]
  have e0 : lotsB d = false → nmsB d = false := fun hb => by
    cases d <;> first | rfl | skip
    rename_i xs
    have hb : (xs.filter fun d => !nameB d).isEmpty = false := hb
    show ((xs.filter fun d => !nameB d).isEmpty && riseB xs) = false
    rw [hb, Bool.false_and]
  have hr := repr_ok h
  have ce4 : ∀ (b a : Bool) (L : D), evE (GG (n + 4)) (.call "_law_exact" [(.var 4), (.var 3)] [0, 1]) [.vl .sh d, .vl .fr (.str d.shown), .vl .fr (.bool b), .vl .fr (.list [.bool a, .bool (nmsB d)]), .vl .fr (.list [.bool a, .bool (nmsB d)]), .vl .fr L, .un, .un] = .ok (.bool true, .fr, [.vl .sh d, .vl .fr (.str d.shown), .vl .fr (.bool b), .vl .sh (.list [.bool a, .bool (nmsB d)]), .vl .sh (.list [.bool a, .bool (nmsB d)]), .vl .fr L, .un, .un]) := fun b a L => by
    refine ev_call (ds := [.list [.bool a, .bool (nmsB d)], .list [.bool a, .bool (nmsB d)]]) (os := []) ?_ (fn_exact (n + 3)) rfl (exact_two (n + 2) a (nmsB d)) rfl rfl
    simp [ev_lit, ev_var, ev_mv, ev_op, ev_and, ev_or, ev_not, ev_ite, ev_chain, evL_nil, evL_pk, evL_pt, evT_nil, evT_cons, src_pt, src_sq, bind_ok, optR_some, noExc_ok, getS, setS, bound, peek, evL_lit, evA_lit, evL_var, evA_var, evL_mv, evA_mv, evL_con, evA_con, evL_op, evA_op, evL_and, evA_and, evL_or, evA_or, evL_not, evA_not, evL_ite, evA_ite, evL_chain, evA_chain, evL_call, evA_call, evL_lc, evA_lc, evL_mut, evA_mut, evA_nil, evA_io, imm, immL, immKids, topK, scalarP, truth, prim, okA, okN, okP, okT, okB, isType, seqOf, walkR, List.getElem?_cons_zero, List.getElem?_cons_succ, Option.getD_some, Option.bind_some, Option.bind_none, Option.map_some, isNoneD, isBoolD]
  have ce5 : ∀ (b a : Bool) (L : D), evE (GG (n + 4)) (.call "_law_exact" [(.var 5), (.var 3)] [0, 1]) [.vl .sh d, .vl .fr (.str d.shown), .vl .fr (.bool b), .vl .sh (.list [.bool a, .bool (nmsB d)]), .vl .sh L, .vl .fr (.list [.bool a, .bool (nmsB d)]), .un, .un] = .ok (.bool true, .fr, [.vl .sh d, .vl .fr (.str d.shown), .vl .fr (.bool b), .vl .sh (.list [.bool a, .bool (nmsB d)]), .vl .sh L, .vl .sh (.list [.bool a, .bool (nmsB d)]), .un, .un]) := fun b a L => by
    refine ev_call (ds := [.list [.bool a, .bool (nmsB d)], .list [.bool a, .bool (nmsB d)]]) (os := []) ?_ (fn_exact (n + 3)) rfl (exact_two (n + 2) a (nmsB d)) rfl rfl
    simp [ev_lit, ev_var, ev_mv, ev_op, ev_and, ev_or, ev_not, ev_ite, ev_chain, evL_nil, evL_pk, evL_pt, evT_nil, evT_cons, src_pt, src_sq, bind_ok, optR_some, noExc_ok, getS, setS, bound, peek, evL_lit, evA_lit, evL_var, evA_var, evL_mv, evA_mv, evL_con, evA_con, evL_op, evA_op, evL_and, evA_and, evL_or, evA_or, evL_not, evA_not, evL_ite, evA_ite, evL_chain, evA_chain, evL_call, evA_call, evL_lc, evA_lc, evL_mut, evA_mut, evA_nil, evA_io, imm, immL, immKids, topK, scalarP, truth, prim, okA, okN, okP, okT, okB, isType, seqOf, walkR, List.getElem?_cons_zero, List.getElem?_cons_succ, Option.getD_some, Option.bind_some, Option.bind_none, Option.map_some, isNoneD, isBoolD]
  have l2 : line 2 = true := by decide
  unfold runBody
  simp only [c__law_judged, startS, evSs, evS]
  generalize (C.and_ (.op (.isi "list") [(.pk 0)]) (.op .eq [(.lc (.pt 0) (.nm 7) [6, 7] [(.not_ (.call "_law_name" [(.var 7)] [0]))] (.var 7)), (.op .lst [])])) = LA at hlots ⊢
  cases hb : lotsB d with
  | false =>
    rw [hb] at hlots
    have e1 := e0 hb
    rw [e1] at cms ce4 ce5
    simp [ev_lit, ev_var, ev_mv, ev_op, ev_and, ev_or, ev_not, ev_ite, ev_chain, evL_nil, evL_pk, evL_pt, evT_nil, evT_cons, src_pt, src_sq, bind_ok, optR_some, noExc_ok, getS, setS, bound, peek, evL_lit, evA_lit, evL_var, evA_var, evL_mv, evA_mv, evL_con, evA_con, evL_op, evA_op, evL_and, evA_and, evL_or, evA_or, evL_not, evA_not, evL_ite, evA_ite, evL_chain, evA_chain, evL_call, evA_call, evL_lc, evA_lc, evL_mut, evA_mut, evA_nil, evA_io, imm, immL, immKids, topK, scalarP, truth, prim, okA, okN, okP, okT, okB, isType, seqOf, walkR, List.getElem?_cons_zero, List.getElem?_cons_succ, Option.getD_some, Option.bind_some, Option.bind_none, Option.map_some, isNoneD, isBoolD, outsOf, hr, hlots, cn, cm, cms, ce4, ce5, bindT, l2, mkK, eqOk_str]
  | true =>
    rw [hb] at hlots
    have cr := cr hb
    simp [ev_lit, ev_var, ev_mv, ev_op, ev_and, ev_or, ev_not, ev_ite, ev_chain, evL_nil, evL_pk, evL_pt, evT_nil, evT_cons, src_pt, src_sq, bind_ok, optR_some, noExc_ok, getS, setS, bound, peek, evL_lit, evA_lit, evL_var, evA_var, evL_mv, evA_mv, evL_con, evA_con, evL_op, evA_op, evL_and, evA_and, evL_or, evA_or, evL_not, evA_not, evL_ite, evA_ite, evL_chain, evA_chain, evL_call, evA_call, evL_lc, evA_lc, evL_mut, evA_mut, evA_nil, evA_io, imm, immL, immKids, topK, scalarP, truth, prim, okA, okN, okP, okT, okB, isType, seqOf, walkR, List.getElem?_cons_zero, List.getElem?_cons_succ, Option.getD_some, Option.bind_some, Option.bind_none, Option.map_some, isNoneD, isBoolD, outsOf, hr, hlots, cn, cm, cms, cr, ce4, ce5, bindT, l2, mkK, eqOk_str]
end TH.Lk01
end
section
set_option Elab.async false
set_option linter.all false
set_option maxRecDepth 100000
namespace TH.Lk01
open PySem PySem.Spec PyProof.Rows L2
theorem fn_hash (n : Nat) : (GG (n + 1)).fn "_law_hash" = some ⟨[false, false], runBody (GG n) [false, false] 3 fuel c__law_hash⟩ := rfl
theorem fn_cell (n : Nat) : (GG (n + 1)).fn "_law_cell" = some ⟨[false, false], runBody (GG n) [false, false] 2 fuel c__law_cell⟩ := rfl
theorem fn_generator (n : Nat) : (GG (n + 1)).fn "_law_generator" = some ⟨[false, false], runBody (GG n) [false, false] 3 fuel c__law_generator⟩ := rfl
theorem fn_random (n : Nat) : (GG (n + 1)).fn "_law_random" = some ⟨[true, false], runBody (GG n) [true, false] 4 fuel c__law_random⟩ := rfl
theorem fn_pick (n : Nat) : (GG (n + 1)).fn "_law_pick" = some ⟨[true, false], runBody (GG n) [true, false] 2 fuel c__law_pick⟩ := rfl
theorem fn_copied (n : Nat) : (GG (n + 1)).fn "_law_copied" = some ⟨[false], runBody (GG n) [false] 4 fuel c__law_copied⟩ := rfl
theorem fn_unlike (n : Nat) : (GG (n + 1)).fn "_law_unlike" = some ⟨[false], runBody (GG n) [false] 3 fuel c__law_unlike⟩ := rfl
theorem fn_any (n : Nat) : (GG (n + 1)).fn "_law_any" = some ⟨[true], runBody (GG n) [true] 2 fuel c__law_any⟩ := rfl
theorem fn_string (n : Nat) : (GG (n + 1)).fn "_law_string" = some ⟨[true], runBody (GG n) [true] 4 fuel c__law_string⟩ := rfl
theorem fn_numbers (n : Nat) : (GG (n + 1)).fn "_law_numbers" = some ⟨[true], runBody (GG n) [true] 3 fuel c__law_numbers⟩ := rfl
theorem hash_ok (n : Nat) (s i : Int) (hs : 0 ≤ s) (hs2 : s < 2147483648) (hi : 0 ≤ i) (hi2 : i < 1000000000000) : ∃ h : Int, runBody (GG n) [false, false] 3 fuel c__law_hash [.int s, .int i] = .ok (.int h, .fr, []) ∧ 0 ≤ h ∧ h < 2147483647 := by
  have q1 : mulD (.int s) (.int 1140671) = some (.int (s * 1140671), .fr) := mulD_small (by omega) (by decide)
  have q2 : mulD (.int 27644437) (.int i) = some (.int (27644437 * i), .fr) := mulD_small (by decide) (by omega)
  have q3 : mulD (.int (27644437 * i)) (.int i) = some (.int (27644437 * i * i), .fr) := mulD_small (by omega) (by omega)
  have q4 : mulD (.int 131) (.int i) = some (.int (131 * i), .fr) := mulD_small (by decide) (by omega)
  have q5 : mulD (.int 62089) (.int i) = some (.int (62089 * i), .fr) := mulD_small (by decide) (by omega)
  obtain ⟨m, hm⟩ : ∃ m, m = (s * 1140671 + 27644437 * i * i + 131 * i + 19).fmod 2147483629 := ⟨_, rfl⟩
  have b1 := fmod_pos (i := s * 1140671 + 27644437 * i * i + 131 * i + 19) (b := 2147483629) (by decide)
  rw [← hm] at b1
  have r1 : modD (.int (s * 1140671 + 27644437 * i * i + 131 * i + 19)) (.int 2147483629) = some (.int m, .fr) := by rw [hm]; exact modD_ok (by decide)
  have e1 : evE (GG n) (.op .mod [(.op .int [(.op .add [(.op .add [(.op .add [(.op .mul [(.pt 0), (.lit (.int 1140671))]), (.op .mul [(.op .mul [(.lit (.int 27644437)), (.pt 1)]), (.pt 1)])]), (.op .mul [(.lit (.int 131)), (.pt 1)])]), (.lit (.int 19))])]), (.lit (.int 2147483629))]) [.vl .sh (.int s), .vl .sh (.int i), .un] = .ok (.int m, .fr, [.vl .sh (.int s), .vl .sh (.int i), .un]) := by
    simp [ev_lit, ev_var, ev_mv, ev_op, ev_and, ev_or, ev_not, ev_ite, ev_chain, evL_nil, evL_pk, evL_pt, evT_nil, evT_cons, src_pt, src_sq, bind_ok, optR_some, noExc_ok, getS, setS, bound, peek, evL_lit, evA_lit, evL_var, evA_var, evL_mv, evA_mv, evL_con, evA_con, evL_op, evA_op, evL_and, evA_and, evL_or, evA_or, evL_not, evA_not, evL_ite, evA_ite, evL_chain, evA_chain, evL_call, evA_call, evL_lc, evA_lc, evL_mut, evA_mut, evA_nil, evA_io, imm, immL, immKids, topK, scalarP, truth, prim, okA, okN, okP, okT, okB, isType, seqOf, walkR, List.getElem?_cons_zero, List.getElem?_cons_succ, Option.getD_some, Option.bind_some, Option.bind_none, Option.map_some, isNoneD, isBoolD, q1, q2, q3, q4, addD, intD, r1]
  have q6 : mulD (.int m) (.int m) = some (.int (m * m), .fr) := mulD_small (by omega) (by omega)
  obtain ⟨m2, hm2⟩ : ∃ m2, m2 = (m * m + 62089 * i + 32416187).fmod 2147483587 := ⟨_, rfl⟩
  have b2 := fmod_pos (i := m * m + 62089 * i + 32416187) (b := 2147483587) (by decide)
  rw [← hm2] at b2
  have r2 : modD (.int (m * m + 62089 * i + 32416187)) (.int 2147483587) = some (.int m2, .fr) := by rw [hm2]; exact modD_ok (by decide)
  have e2 : evE (GG n) (.op .mod [(.op .int [(.op .add [(.op .add [(.op .mul [(.pt 2), (.pt 2)]), (.op .mul [(.lit (.int 62089)), (.pt 1)])]), (.lit (.int 32416187))])]), (.lit (.int 2147483587))]) [.vl .sh (.int s), .vl .sh (.int i), .vl .fr (.int m)] = .ok (.int m2, .fr, [.vl .sh (.int s), .vl .sh (.int i), .vl .fr (.int m)]) := by
    simp [ev_lit, ev_var, ev_mv, ev_op, ev_and, ev_or, ev_not, ev_ite, ev_chain, evL_nil, evL_pk, evL_pt, evT_nil, evT_cons, src_pt, src_sq, bind_ok, optR_some, noExc_ok, getS, setS, bound, peek, evL_lit, evA_lit, evL_var, evA_var, evL_mv, evA_mv, evL_con, evA_con, evL_op, evA_op, evL_and, evA_and, evL_or, evA_or, evL_not, evA_not, evL_ite, evA_ite, evL_chain, evA_chain, evL_call, evA_call, evL_lc, evA_lc, evL_mut, evA_mut, evA_nil, evA_io, imm, immL, immKids, topK, scalarP, truth, prim, okA, okN, okP, okT, okB, isType, seqOf, walkR, List.getElem?_cons_zero, List.getElem?_cons_succ, Option.getD_some, Option.bind_some, Option.bind_none, Option.map_some, isNoneD, isBoolD, q5, q6, addD, intD, r2]
  have q7 : mulD (.int m2) (.int 48271) = some (.int (m2 * 48271), .fr) := mulD_small (by omega) (by decide)
  obtain ⟨m3, hm3⟩ : ∃ m3, m3 = (m2 * 48271).fmod 2147483647 := ⟨_, rfl⟩
  have b3 := fmod_pos (i := m2 * 48271) (b := 2147483647) (by decide)
  rw [← hm3] at b3
  have r3 : modD (.int (m2 * 48271)) (.int 2147483647) = some (.int m3, .fr) := by rw [hm3]; exact modD_ok (by decide)
  have e3 : evE (GG n) (.op .mod [(.op .int [(.op .mul [(.pt 2), (.lit (.int 48271))])]), (.lit (.int 2147483647))]) [.vl .sh (.int s), .vl .sh (.int i), .vl .fr (.int m2)] = .ok (.int m3, .fr, [.vl .sh (.int s), .vl .sh (.int i), .vl .fr (.int m2)]) := by
    simp [ev_lit, ev_var, ev_mv, ev_op, ev_and, ev_or, ev_not, ev_ite, ev_chain, evL_nil, evL_pk, evL_pt, evT_nil, evT_cons, src_pt, src_sq, bind_ok, optR_some, noExc_ok, getS, setS, bound, peek, evL_lit, evA_lit, evL_var, evA_var, evL_mv, evA_mv, evL_con, evA_con, evL_op, evA_op, evL_and, evA_and, evL_or, evA_or, evL_not, evA_not, evL_ite, evA_ite, evL_chain, evA_chain, evL_call, evA_call, evL_lc, evA_lc, evL_mut, evA_mut, evA_nil, evA_io, imm, immL, immKids, topK, scalarP, truth, prim, okA, okN, okP, okT, okB, isType, seqOf, walkR, List.getElem?_cons_zero, List.getElem?_cons_succ, Option.getD_some, Option.bind_some, Option.bind_none, Option.map_some, isNoneD, isBoolD, q7, intD, r3]
  refine ⟨m3, run_of (ρ := [.vl .sh (.int s), .vl .sh (.int i), .vl .fr (.int m2)]) rfl ?_ rfl, b3.1, b3.2⟩
  exact (ss_next (s_asg e1 rfl)).trans ((ss_next (s_asg e2 rfl)).trans (ss_ret (s_ret e3)))
def gL (a b c : Int) : D := .list [.int a, .int b, .int c]
theorem random_ok (n : Nat) (g0 g1 g2 b m : Int) (h1 : 0 ≤ g1) (h1' : g1 < 2147483647) (h2 : 0 ≤ g2) (h2' : g2 ≤ m) (hm : m ≤ 100000000000) (hb : 1 ≤ b) (hb2 : b ≤ 100000000000000) :
    ∃ r g0' g2', runBody (GG (n + 1)) [true, false] 4 fuel c__law_random [gL g0 g1 g2, .int b] = .ok (.int r, .fr, [gL g0' g1 g2']) ∧ 0 ≤ r ∧ r < b ∧ 0 ≤ g2' ∧ g2' ≤ m + 3 := by
  have i0 : ∀ a c : Int, idxD (gL a g1 c) (.int 0) = some (.int a, .sh) := fun a c => rfl
  have i1 : ∀ a c : Int, idxD (gL a g1 c) (.int 1) = some (.int g1, .sh) := fun a c => rfl
  have i2 : ∀ a c : Int, idxD (gL a g1 c) (.int 2) = some (.int c, .sh) := fun a c => rfl
  have hb0 : b ≠ 0 := by omega
  by_cases hg : 0 < g0
  · have bb := fmod_pos (i := g0) (b := b) (by omega)
    obtain ⟨r, hr⟩ : ∃ r, r = g0.fmod b := ⟨_, rfl⟩
    rw [← hr] at bb
    have r1 : modD (.int g0) (.int b) = some (.int r, .fr) := by rw [hr]; exact modD_ok hb0
    have r2 : fdivD (.int g0) (.int b) = some (.int (g0.fdiv b), .fr) := fdivD_ok hb0 (by omega)
    refine ⟨r, g0.fdiv b, g2, run_of rfl (ρ := [.vl .io (gL (g0.fdiv b) g1 g2), .vl .sh (.int b), .un, .un]) ?_ rfl, bb.1, bb.2, h2, by omega⟩
    have c1 : evE (GG (n + 1)) (.op .gt [(.op .idx [(.pt 0), (.lit (.int 0))]), (.lit (.int 0))]) [.vl .io (gL g0 g1 g2), .vl .sh (.int b), .un, .un] = .ok (.bool true, .fr, [.vl .io (gL g0 g1 g2), .vl .sh (.int b), .un, .un]) := by
      simp [ev_lit, ev_var, ev_mv, ev_op, ev_and, ev_or, ev_not, ev_ite, ev_chain, evL_nil, evL_pk, evL_pt, evT_nil, evT_cons, src_pt, src_sq, bind_ok, optR_some, noExc_ok, getS, setS, bound, peek, evL_lit, evA_lit, evL_var, evA_var, evL_mv, evA_mv, evL_con, evA_con, evL_op, evA_op, evL_and, evA_and, evL_or, evA_or, evL_not, evA_not, evL_ite, evA_ite, evL_chain, evA_chain, evL_call, evA_call, evL_lc, evA_lc, evL_mut, evA_mut, evA_nil, evA_io, imm, immL, immKids, topK, scalarP, truth, prim, okA, okN, okP, okT, okB, isType, seqOf, walkR, List.getElem?_cons_zero, List.getElem?_cons_succ, Option.getD_some, Option.bind_some, Option.bind_none, Option.map_some, isNoneD, isBoolD, i0, gtD_int, hg]
    have c2 : evE (GG (n + 1)) (.op .mod [(.op .int [(.op .idx [(.pt 0), (.lit (.int 0))])]), (.pk 1)]) [.vl .io (gL g0 g1 g2), .vl .sh (.int b), .un, .un] = .ok (.int r, .fr, [.vl .io (gL g0 g1 g2), .vl .sh (.int b), .un, .un]) := by
      simp [ev_lit, ev_var, ev_mv, ev_op, ev_and, ev_or, ev_not, ev_ite, ev_chain, evL_nil, evL_pk, evL_pt, evT_nil, evT_cons, src_pt, src_sq, bind_ok, optR_some, noExc_ok, getS, setS, bound, peek, evL_lit, evA_lit, evL_var, evA_var, evL_mv, evA_mv, evL_con, evA_con, evL_op, evA_op, evL_and, evA_and, evL_or, evA_or, evL_not, evA_not, evL_ite, evA_ite, evL_chain, evA_chain, evL_call, evA_call, evL_lc, evA_lc, evL_mut, evA_mut, evA_nil, evA_io, imm, immL, immKids, topK, scalarP, truth, prim, okA, okN, okP, okT, okB, isType, seqOf, walkR, List.getElem?_cons_zero, List.getElem?_cons_succ, Option.getD_some, Option.bind_some, Option.bind_none, Option.map_some, isNoneD, isBoolD, i0, intD, r1]
    have c3 : evE (GG (n + 1)) (.op .fdiv [(.op .idx [(.pt 0), (.lit (.int 0))]), (.pk 1)]) [.vl .io (gL g0 g1 g2), .vl .sh (.int b), .vl .fr (.int r), .un] = .ok (.int (g0.fdiv b), .fr, [.vl .io (gL g0 g1 g2), .vl .sh (.int b), .vl .fr (.int r), .un]) := by
      simp [ev_lit, ev_var, ev_mv, ev_op, ev_and, ev_or, ev_not, ev_ite, ev_chain, evL_nil, evL_pk, evL_pt, evT_nil, evT_cons, src_pt, src_sq, bind_ok, optR_some, noExc_ok, getS, setS, bound, peek, evL_lit, evA_lit, evL_var, evA_var, evL_mv, evA_mv, evL_con, evA_con, evL_op, evA_op, evL_and, evA_and, evL_or, evA_or, evL_not, evA_not, evL_ite, evA_ite, evL_chain, evA_chain, evL_call, evA_call, evL_lc, evA_lc, evL_mut, evA_mut, evA_nil, evA_io, imm, immL, immKids, topK, scalarP, truth, prim, okA, okN, okP, okT, okB, isType, seqOf, walkR, List.getElem?_cons_zero, List.getElem?_cons_succ, Option.getD_some, Option.bind_some, Option.bind_none, Option.map_some, isNoneD, isBoolD, i0, r2]
    have c4 : mutate .setitem (gL g0 g1 g2) [(.int 0, .fr), (.int (g0.fdiv b), .fr)] = some (.none, .fr, gL (g0.fdiv b) g1 g2, true) := rfl
    refine ss_ret ((s_iff_yes c1 rfl).trans ?_)
    refine (ss_next (s_asg c2 rfl)).trans ((ss_next (s_seti c3 rfl (ev_lit _) rfl (by decide) c4)).trans (ss_ret (s_ret ?_)))
    simp [ev_lit, ev_var, ev_mv, ev_op, ev_and, ev_or, ev_not, ev_ite, ev_chain, evL_nil, evL_pk, evL_pt, evT_nil, evT_cons, src_pt, src_sq, bind_ok, optR_some, noExc_ok, getS, setS, bound, peek, evL_lit, evA_lit, evL_var, evA_var, evL_mv, evA_mv, evL_con, evA_con, evL_op, evA_op, evL_and, evA_and, evL_or, evA_or, evL_not, evA_not, evL_ite, evA_ite, evL_chain, evA_chain, evL_call, evA_call, evL_lc, evA_lc, evL_mut, evA_mut, evA_nil, evA_io, imm, immL, immKids, topK, scalarP, truth, prim, okA, okN, okP, okT, okB, isType, seqOf, walkR, List.getElem?_cons_zero, List.getElem?_cons_succ, Option.getD_some, Option.bind_some, Option.bind_none, Option.map_some, isNoneD, isBoolD, mutK]
  · let I : List D → Ev → Prop := fun xs ρ => ∃ (c dr : Int) (s3 : Slot), ρ = [.vl .io (gL g0 g1 c), .vl .sh (.int b), .vl .fr (.int dr), s3] ∧ (s3 = .un ∨ ∃ x, s3 = .vl .sh x) ∧ 0 ≤ c ∧ c + xs.length ≤ m + 2 ∧ 0 ≤ dr ∧ ((xs.length = 0 ∧ dr < 1000000000000000000000000000000) ∨ (xs.length = 1 ∧ dr < 1000000000000000) ∨ (xs.length = 2 ∧ dr < 1))
    have step : ∀ x xs ρ, I (x :: xs) ρ → ∃ ρ', (fun x ρ => (bindT (.nm 3) x .sh ρ).bind fun ρ => evSs (GG (n + 1)) fuel [(.seti 0 (.lit (.int 2)) (.op .add [(.op .idx [(.pt 0), (.lit (.int 2))]), (.lit (.int 1))])), (.asg (.nm 2) (.op .add [(.op .mul [(.pt 2), (.lit (.int 2147483587))]), (.call "_law_hash" [(.op .idx [(.pt 0), (.lit (.int 1))]), (.op .idx [(.pt 0), (.lit (.int 2))])] [0, 1])]))] ρ) x ρ = .ok (.next ρ') ∧ I xs ρ' := by
      rintro x xs ρ ⟨c, dr, s3, rfl, hs3, hc, hc2, hd, hB⟩
      rw [List.length_cons] at hc2 hB
      obtain ⟨h, eh, hh1, hh2⟩ := hash_ok n g1 (c + 1) h1 (by omega) (by omega) (by omega)
      have hb1 : bindT (.nm 3) x .sh [.vl .io (gL g0 g1 c), .vl .sh (.int b), .vl .fr (.int dr), s3] = .ok [.vl .io (gL g0 g1 c), .vl .sh (.int b), .vl .fr (.int dr), .vl .sh x] := by
        rcases hs3 with rfl | ⟨y, rfl⟩ <;> rfl
      have a1 : addD (.int c) (.int 1) = some (.int (c + 1), .fr) := rfl
      have e1 : evE (GG (n + 1)) (.op .add [(.op .idx [(.pt 0), (.lit (.int 2))]), (.lit (.int 1))]) [.vl .io (gL g0 g1 c), .vl .sh (.int b), .vl .fr (.int dr), .vl .sh x] = .ok (.int (c + 1), .fr, [.vl .io (gL g0 g1 c), .vl .sh (.int b), .vl .fr (.int dr), .vl .sh x]) := by
        simp [ev_lit, ev_var, ev_mv, ev_op, ev_and, ev_or, ev_not, ev_ite, ev_chain, evL_nil, evL_pk, evL_pt, evT_nil, evT_cons, src_pt, src_sq, bind_ok, optR_some, noExc_ok, getS, setS, bound, peek, evL_lit, evA_lit, evL_var, evA_var, evL_mv, evA_mv, evL_con, evA_con, evL_op, evA_op, evL_and, evA_and, evL_or, evA_or, evL_not, evA_not, evL_ite, evA_ite, evL_chain, evA_chain, evL_call, evA_call, evL_lc, evA_lc, evL_mut, evA_mut, evA_nil, evA_io, imm, immL, immKids, topK, scalarP, truth, prim, okA, okN, okP, okT, okB, isType, seqOf, walkR, List.getElem?_cons_zero, List.getElem?_cons_succ, Option.getD_some, Option.bind_some, Option.bind_none, Option.map_some, isNoneD, isBoolD, i2, a1]
      have m1 : mutate .setitem (gL g0 g1 c) [(.int 2, .fr), (.int (c + 1), .fr)] = some (.none, .fr, gL g0 g1 (c + 1), true) := rfl
      have eC : evE (GG (n + 1)) (.call "_law_hash" [(.op .idx [(.pt 0), (.lit (.int 1))]), (.op .idx [(.pt 0), (.lit (.int 2))])] [0, 1]) [.vl .io (gL g0 g1 (c + 1)), .vl .sh (.int b), .vl .fr (.int dr), .vl .sh x] = .ok (.int h, .fr, [.vl .io (gL g0 g1 (c + 1)), .vl .sh (.int b), .vl .fr (.int dr), .vl .sh x]) := by
        refine ev_call (ds := [.int g1, .int (c + 1)]) (ρ1 := [.vl .io (gL g0 g1 (c + 1)), .vl .sh (.int b), .vl .fr (.int dr), .vl .sh x]) (os := []) ?_ (fn_hash n) rfl eh rfl rfl
        simp [ev_lit, ev_var, ev_mv, ev_op, ev_and, ev_or, ev_not, ev_ite, ev_chain, evL_nil, evL_pk, evL_pt, evT_nil, evT_cons, src_pt, src_sq, bind_ok, optR_some, noExc_ok, getS, setS, bound, peek, evL_lit, evA_lit, evL_var, evA_var, evL_mv, evA_mv, evL_con, evA_con, evL_op, evA_op, evL_and, evA_and, evL_or, evA_or, evL_not, evA_not, evL_ite, evA_ite, evL_chain, evA_chain, evL_call, evA_call, evL_lc, evA_lc, evL_mut, evA_mut, evA_nil, evA_io, imm, immL, immKids, topK, scalarP, truth, prim, okA, okN, okP, okT, okB, isType, seqOf, walkR, List.getElem?_cons_zero, List.getElem?_cons_succ, Option.getD_some, Option.bind_some, Option.bind_none, Option.map_some, isNoneD, isBoolD, i1, i2]
      have q1 : mulD (.int dr) (.int 2147483587) = some (.int (dr * 2147483587), .fr) := mulD_small (by omega) (by decide)
      have a2 : addD (.int (dr * 2147483587)) (.int h) = some (.int (dr * 2147483587 + h), .fr) := rfl
      have e2 : evE (GG (n + 1)) (.op .add [(.op .mul [(.pt 2), (.lit (.int 2147483587))]), (.call "_law_hash" [(.op .idx [(.pt 0), (.lit (.int 1))]), (.op .idx [(.pt 0), (.lit (.int 2))])] [0, 1])]) [.vl .io (gL g0 g1 (c + 1)), .vl .sh (.int b), .vl .fr (.int dr), .vl .sh x] = .ok (.int (dr * 2147483587 + h), .fr, [.vl .io (gL g0 g1 (c + 1)), .vl .sh (.int b), .vl .fr (.int dr), .vl .sh x]) := by
        simp [ev_lit, ev_var, ev_mv, ev_op, ev_and, ev_or, ev_not, ev_ite, ev_chain, evL_nil, evL_pk, evL_pt, evT_nil, evT_cons, src_pt, src_sq, bind_ok, optR_some, noExc_ok, getS, setS, bound, peek, evL_lit, evA_lit, evL_var, evA_var, evL_mv, evA_mv, evL_con, evA_con, evL_op, evA_op, evL_and, evA_and, evL_or, evA_or, evL_not, evA_not, evL_ite, evA_ite, evL_chain, evA_chain, evL_call, evA_call, evL_lc, evA_lc, evL_mut, evA_mut, evA_nil, evA_io, imm, immL, immKids, topK, scalarP, truth, prim, okA, okN, okP, okT, okB, isType, seqOf, walkR, List.getElem?_cons_zero, List.getElem?_cons_succ, Option.getD_some, Option.bind_some, Option.bind_none, Option.map_some, isNoneD, isBoolD, eC, q1, a2]
      refine ⟨[.vl .io (gL g0 g1 (c + 1)), .vl .sh (.int b), .vl .fr (.int (dr * 2147483587 + h)), .vl .sh x], ?_, c + 1, dr * 2147483587 + h, .vl .sh x, rfl, .inr ⟨x, rfl⟩, by omega, by omega, by omega, by omega⟩
      show (bindT (.nm 3) x .sh [.vl .io (gL g0 g1 c), .vl .sh (.int b), .vl .fr (.int dr), s3]).bind _ = _
      rw [hb1, bind_ok]
      exact (ss_next (s_seti e1 rfl (ev_lit _) rfl (by decide) m1)).trans ((ss_next (s_asg e2 rfl)).trans ss_nil)
    -- the number of turns
    have hlog : b.natAbs.log2 < 47 := (Nat.log2_lt (by omega)).mpr (by omega)
    obtain ⟨t, ht⟩ : ∃ t : Int, t = 1 + ((b.natAbs.log2 : Int) + 1).fdiv 30 := ⟨_, rfl⟩
    have ht1 : 0 ≤ t ∧ t ≤ 2 := by
      rw [Int.fdiv_eq_ediv_of_nonneg _ (by decide)] at ht
      omega
    have bt : bitsD (.int b) = some (.int ((b.natAbs.log2 : Int) + 1), .fr) := by
      show (if 0 < b then okA (.int (b.natAbs.log2 + 1)) else none) = _
      rw [if_pos (by omega)]; rfl
    have f30 : fdivD (.int ((b.natAbs.log2 : Int) + 1)) (.int 30) = some (.int (((b.natAbs.log2 : Int) + 1).fdiv 30), .fr) := fdivD_ok (by decide) (by decide)
    have a3 : addD (.int 1) (.int (((b.natAbs.log2 : Int) + 1).fdiv 30)) = some (.int t, .fr) := by rw [ht]; rfl
    have hsrc : evSrc (GG (n + 1)) (.sq .range1 [(.op .add [(.lit (.int 1)), (.op .fdiv [(.op .bits [(.pk 1)]), (.lit (.int 30))])])]) [.vl .io (gL g0 g1 g2), .vl .sh (.int b), .vl .fr (.int 0), .un] = .ok (rangeL 0 t, [.vl .io (gL g0 g1 g2), .vl .sh (.int b), .vl .fr (.int 0), .un]) :=
      srcR1 (k2 := .fr) (by simp [ev_lit, ev_var, ev_mv, ev_op, ev_and, ev_or, ev_not, ev_ite, ev_chain, evL_nil, evL_pk, evL_pt, evT_nil, evT_cons, src_pt, src_sq, bind_ok, optR_some, noExc_ok, getS, setS, bound, peek, evL_lit, evA_lit, evL_var, evA_var, evL_mv, evA_mv, evL_con, evA_con, evL_op, evA_op, evL_and, evA_and, evL_or, evA_or, evL_not, evA_not, evL_ite, evA_ite, evL_chain, evA_chain, evL_call, evA_call, evL_lc, evA_lc, evL_mut, evA_mut, evA_nil, evA_io, imm, immL, immKids, topK, scalarP, truth, prim, okA, okN, okP, okT, okB, isType, seqOf, walkR, List.getElem?_cons_zero, List.getElem?_cons_succ, Option.getD_some, Option.bind_some, Option.bind_none, Option.map_some, isNoneD, isBoolD, bt, f30, a3]) rfl (by omega) (by omega)
    have hlen : (rangeL 0 t).length = t.toNat := by unfold rangeL; rw [List.length_map, List.length_range]; congr 1; omega
    have start : I (rangeL 0 t) [.vl .io (gL g0 g1 g2), .vl .sh (.int b), .vl .fr (.int 0), .un] := ⟨g2, 0, .un, rfl, .inl rfl, h2, by rw [hlen]; omega, by decide, by rw [hlen]; omega⟩
    obtain ⟨ρ', eF, c, dr, s3, rfl, hs3, hc, hc2, hd, _⟩ := for_ind step (rangeL 0 t) _ start
    have bb := fmod_pos (i := dr) (b := b) (by omega)
    have r1 : modD (.int dr) (.int b) = some (.int (dr.fmod b), .fr) := modD_ok hb0
    have hc2 : c + 0 ≤ m + 2 := hc2
    refine ⟨dr.fmod b, g0, c, run_of rfl (ρ := [.vl .io (gL g0 g1 c), .vl .sh (.int b), .vl .fr (.int dr), s3]) ?_ rfl, bb.1, bb.2, hc, by omega⟩
    have c1 : evE (GG (n + 1)) (.op .gt [(.op .idx [(.pt 0), (.lit (.int 0))]), (.lit (.int 0))]) [.vl .io (gL g0 g1 g2), .vl .sh (.int b), .un, .un] = .ok (.bool false, .fr, [.vl .io (gL g0 g1 g2), .vl .sh (.int b), .un, .un]) := by
      simp [ev_lit, ev_var, ev_mv, ev_op, ev_and, ev_or, ev_not, ev_ite, ev_chain, evL_nil, evL_pk, evL_pt, evT_nil, evT_cons, src_pt, src_sq, bind_ok, optR_some, noExc_ok, getS, setS, bound, peek, evL_lit, evA_lit, evL_var, evA_var, evL_mv, evA_mv, evL_con, evA_con, evL_op, evA_op, evL_and, evA_and, evL_or, evA_or, evL_not, evA_not, evL_ite, evA_ite, evL_chain, evA_chain, evL_call, evA_call, evL_lc, evA_lc, evL_mut, evA_mut, evA_nil, evA_io, imm, immL, immKids, topK, scalarP, truth, prim, okA, okN, okP, okT, okB, isType, seqOf, walkR, List.getElem?_cons_zero, List.getElem?_cons_succ, Option.getD_some, Option.bind_some, Option.bind_none, Option.map_some, isNoneD, isBoolD, i0, gtD_int, hg]
    refine (ss_next (s_iff_no c1 rfl)).trans ((ss_next (s_asg (ev_lit _) rfl)).trans ((ss_next (s_for hsrc rfl eF)).trans (ss_ret (s_ret ?_))))
    simp [ev_lit, ev_var, ev_mv, ev_op, ev_and, ev_or, ev_not, ev_ite, ev_chain, evL_nil, evL_pk, evL_pt, evT_nil, evT_cons, src_pt, src_sq, bind_ok, optR_some, noExc_ok, getS, setS, bound, peek, evL_lit, evA_lit, evL_var, evA_var, evL_mv, evA_mv, evL_con, evA_con, evL_op, evA_op, evL_and, evA_and, evL_or, evA_or, evL_not, evA_not, evL_ite, evA_ite, evL_chain, evA_chain, evL_call, evA_call, evL_lc, evA_lc, evL_mut, evA_mut, evA_nil, evA_io, imm, immL, immKids, topK, scalarP, truth, prim, okA, okN, okP, okT, okB, isType, seqOf, walkR, List.getElem?_cons_zero, List.getElem?_cons_succ, Option.getD_some, Option.bind_some, Option.bind_none, Option.map_some, isNoneD, isBoolD, intD, r1]
end TH.Lk01
end
section
set_option Elab.async false
set_option linter.all false
set_option maxRecDepth 100000
namespace TH.Lk01
open PySem PySem.Spec PyProof.Rows L2
/-- the generator, its counter at most m -/
def Gen (m : Int) (g : D) : Prop := ∃ g0 g1 g2 : Int, g = gL g0 g1 g2 ∧ 0 ≤ g1 ∧ g1 < 2147483647 ∧ 0 ≤ g2 ∧ g2 ≤ m
theorem Gen.mono {m m' : Int} {g : D} (h : Gen m g) (hm : m ≤ m') : Gen m' g := by
  obtain ⟨g0, g1, g2, e, h1, h2, h3, h4⟩ := h
  exact ⟨g0, g1, g2, e, h1, h2, h3, by omega⟩
theorem Gen.box {m : Int} {g : D} (h : Gen m g) : boxD g = true := by
  obtain ⟨g0, g1, g2, rfl, _⟩ := h; rfl
theorem rnd (n : Nat) {m b : Int} {g : D} (h : Gen m g) (hm : m ≤ 100000000000) (hb : 1 ≤ b) (hb2 : b ≤ 100000000000000) :
    ∃ (r : Int) (g' : D), runBody (GG (n + 1)) [true, false] 4 fuel c__law_random [g, .int b] = .ok (.int r, .fr, [g']) ∧ 0 ≤ r ∧ r < b ∧ Gen (m + 3) g' := by
  obtain ⟨g0, g1, g2, rfl, h1, h2, h3, h4⟩ := h
  obtain ⟨r, a, c, e, e1, e2, e3, e4⟩ := random_ok n g0 g1 g2 b m h1 h2 h3 h4 hm hb hb2
  exact ⟨r, _, e, e1, e2, a, g1, c, rfl, h1, h2, e3, e4⟩
theorem get_nat {α : Type} {xs : List α} {r : Int} (h0 : 0 ≤ r) (h1 : r < xs.length) : ∃ x, x ∈ xs ∧ xs[r.toNat]? = some x := by
  have h : r.toNat < xs.length := by omega
  exact ⟨xs[r.toNat], List.getElem_mem h, List.getElem?_eq_getElem h⟩
theorem pick_ok (n : Nat) {m : Int} {g : D} {xs : List D} (h : Gen m g) (hm : m ≤ 100000000000) (h1 : 1 ≤ xs.length) (h2 : xs.length ≤ 1000000) :
    ∃ x g', x ∈ xs ∧ runBody (GG (n + 2)) [true, false] 2 fuel c__law_pick [g, .list xs] = .ok (x, .sh, [g']) ∧ Gen (m + 3) g' := by
  obtain ⟨r, g', e, r0, r1, hg'⟩ := rnd n (b := (xs.length : Int)) h hm (by omega) (by omega)
  obtain ⟨x, hx, ex⟩ := get_nat r0 r1
  have hb := h.box
  have e1 : evE (GG (n + 2)) (.call "_law_random" [(.io 0), (.op .len [(.pk 1)])] [0, 1]) [.vl .io g, .vl .sh (.list xs)] = .ok (.int r, .fr, [.vl .io g', .vl .sh (.list xs)]) := by
    refine ev_call (ds := [g, .int xs.length]) (ρ1 := [.vl .io g, .vl .sh (.list xs)]) (os := [g']) ?_ (fn_random (n + 1)) rfl e rfl rfl
    simp [ev_lit, ev_var, ev_mv, ev_op, ev_and, ev_or, ev_not, ev_ite, ev_chain, evL_nil, evL_pk, evL_pt, evT_nil, evT_cons, src_pt, src_sq, bind_ok, optR_some, noExc_ok, getS, setS, bound, peek, evL_lit, evA_lit, evL_var, evA_var, evL_mv, evA_mv, evL_con, evA_con, evL_op, evA_op, evL_and, evA_and, evL_or, evA_or, evL_not, evA_not, evL_ite, evA_ite, evL_chain, evA_chain, evL_call, evA_call, evL_lc, evA_lc, evL_mut, evA_mut, evA_nil, evA_io, imm, immL, immKids, topK, scalarP, truth, prim, okA, okN, okP, okT, okB, isType, seqOf, walkR, List.getElem?_cons_zero, List.getElem?_cons_succ, Option.getD_some, Option.bind_some, Option.bind_none, Option.map_some, isNoneD, isBoolD, lenD, hb]
  have e2 : idxD (.list xs) (.int r) = some (x, .sh) := idxD_list (k := r.toNat) (by omega) ex
  have e3 : evE (GG (n + 2)) (.op .idx [(.pt 1), (.call "_law_random" [(.io 0), (.op .len [(.pk 1)])] [0, 1])]) [.vl .io g, .vl .sh (.list xs)] = .ok (x, .sh, [.vl .io g', .vl .sh (.list xs)]) := by
    simp [ev_lit, ev_var, ev_mv, ev_op, ev_and, ev_or, ev_not, ev_ite, ev_chain, evL_nil, evL_pk, evL_pt, evT_nil, evT_cons, src_pt, src_sq, bind_ok, optR_some, noExc_ok, getS, setS, bound, peek, evL_lit, evA_lit, evL_var, evA_var, evL_mv, evA_mv, evL_con, evA_con, evL_op, evA_op, evL_and, evA_and, evL_or, evA_or, evL_not, evA_not, evL_ite, evA_ite, evL_chain, evA_chain, evL_call, evA_call, evL_lc, evA_lc, evL_mut, evA_mut, evA_nil, evA_io, imm, immL, immKids, topK, scalarP, truth, prim, okA, okN, okP, okT, okB, isType, seqOf, walkR, List.getElem?_cons_zero, List.getElem?_cons_succ, Option.getD_some, Option.bind_some, Option.bind_none, Option.map_some, isNoneD, isBoolD, e1, e2]
  exact ⟨x, g', hx, run_of (ρ := [.vl .io g', .vl .sh (.list xs)]) rfl (ss_ret (s_ret e3)) rfl, hg'⟩
theorem pick_str (n : Nat) {m : Int} {g : D} {l : List Nat} (h : Gen m g) (hm : m ≤ 100000000000) (h1 : 1 ≤ l.length) (h2 : l.length ≤ 1000000) :
    ∃ c g', c ∈ l ∧ runBody (GG (n + 2)) [true, false] 2 fuel c__law_pick [g, .str (mk l)] = .ok (ch c, .fr, [g']) ∧ Gen (m + 3) g' := by
  obtain ⟨r, g', e, r0, r1, hg'⟩ := rnd n (b := (l.length : Int)) h hm (by omega) (by omega)
  obtain ⟨x, hx, ex⟩ := get_nat r0 r1
  have hb := h.box
  have hl : line l.length = true := line_ok (by omega)
  have e1 : evE (GG (n + 2)) (.call "_law_random" [(.io 0), (.op .len [(.pk 1)])] [0, 1]) [.vl .io g, .vl .sh (.str (mk l))] = .ok (.int r, .fr, [.vl .io g', .vl .sh (.str (mk l))]) := by
    refine ev_call (ds := [g, .int l.length]) (ρ1 := [.vl .io g, .vl .sh (.str (mk l))]) (os := [g']) ?_ (fn_random (n + 1)) rfl e rfl rfl
    simp [ev_lit, ev_var, ev_mv, ev_op, ev_and, ev_or, ev_not, ev_ite, ev_chain, evL_nil, evL_pk, evL_pt, evT_nil, evT_cons, src_pt, src_sq, bind_ok, optR_some, noExc_ok, getS, setS, bound, peek, evL_lit, evA_lit, evL_var, evA_var, evL_mv, evA_mv, evL_con, evA_con, evL_op, evA_op, evL_and, evA_and, evL_or, evA_or, evL_not, evA_not, evL_ite, evA_ite, evL_chain, evA_chain, evL_call, evA_call, evL_lc, evA_lc, evL_mut, evA_mut, evA_nil, evA_io, imm, immL, immKids, topK, scalarP, truth, prim, okA, okN, okP, okT, okB, isType, seqOf, walkR, List.getElem?_cons_zero, List.getElem?_cons_succ, Option.getD_some, Option.bind_some, Option.bind_none, Option.map_some, isNoneD, isBoolD, lenD, hb, mk_len, hl]
  have e2 : idxD (.str (mk l)) (.int r) = some (ch x, .fr) := by
    have h1 : ixAt l.length r = some r.toNat := by
      unfold ixAt
      rw [if_pos r0, if_pos r1]
    show (if line (mk l).length then ((ixAt (mk l).length r).bind ((mk l).cps.toList[·]?)).bind fun c => okA (.str ⟨#[c]⟩) else none) = _
    rw [mk_len, hl, h1, mk_cps]
    show ((some r.toNat).bind (l[·]?)).bind _ = _
    rw [Option.bind_some, ex]
    rfl
  have e3 : evE (GG (n + 2)) (.op .idx [(.pt 1), (.call "_law_random" [(.io 0), (.op .len [(.pk 1)])] [0, 1])]) [.vl .io g, .vl .sh (.str (mk l))] = .ok (ch x, .fr, [.vl .io g', .vl .sh (.str (mk l))]) := by
    simp [ev_lit, ev_var, ev_mv, ev_op, ev_and, ev_or, ev_not, ev_ite, ev_chain, evL_nil, evL_pk, evL_pt, evT_nil, evT_cons, src_pt, src_sq, bind_ok, optR_some, noExc_ok, getS, setS, bound, peek, evL_lit, evA_lit, evL_var, evA_var, evL_mv, evA_mv, evL_con, evA_con, evL_op, evA_op, evL_and, evA_and, evL_or, evA_or, evL_not, evA_not, evL_ite, evA_ite, evL_chain, evA_chain, evL_call, evA_call, evL_lc, evA_lc, evL_mut, evA_mut, evA_nil, evA_io, imm, immL, immKids, topK, scalarP, truth, prim, okA, okN, okP, okT, okB, isType, seqOf, walkR, List.getElem?_cons_zero, List.getElem?_cons_succ, Option.getD_some, Option.bind_some, Option.bind_none, Option.map_some, isNoneD, isBoolD, e1, e2]
  exact ⟨x, g', hx, run_of (ρ := [.vl .io g', .vl .sh (.str (mk l))]) rfl (ss_ret (s_ret e3)) rfl, hg'⟩
/-! sorted, unlike -/
def AllOf (p : D → Bool) (xs : List D) : Prop := ∀ d ∈ xs, p d = true
def isIntD : D → Bool
  | .int _ => true
  | _ => false
structure Plain (xs : List D) : Prop where
  len : xs.length ≤ 1000
  all : (∀ d ∈ xs, isIntD d = true) ∨ (∀ d ∈ xs, isStrD d = true)
theorem Plain.sub {xs ys : List D} (h : Plain xs) (hl : ys.length ≤ xs.length) (hs : ∀ d ∈ ys, d ∈ xs) : Plain ys :=
  ⟨Nat.le_trans hl h.len, h.all.imp (fun a d hd => a d (hs d hd)) fun a d hd => a d (hs d hd)⟩
theorem Plain.alike {xs : List D} (h : Plain xs) : alikeAllB xs = true := by
  unfold alikeAllB
  rw [List.all_eq_true]
  intro x hx
  rw [List.all_eq_true]
  intro y hy
  rcases h.all with a | a
  · have h1 := a x hx; have h2 := a y hy
    cases x <;> cases y <;> first | rfl | (cases h1; done) | (cases h2; done)
  · have h1 := a x hx; have h2 := a y hy
    cases x <;> cases y <;> first | rfl | (cases h1; done) | (cases h2; done)
theorem Plain.item {xs : List D} (h : Plain xs) {d : D} (hd : d ∈ xs) : isIntD d = true ∨ isStrD d = true := h.all.imp (fun a => a d hd) fun a => a d hd
theorem Plain.sorted {xs : List D} (h : Plain xs) : ∃ ys k, sortedD (.list xs) = some (.list ys, k) ∧ k = mkK false (.list ys) ∧ ys.length = xs.length ∧ ∀ d ∈ ys, d ∈ xs := by
  have hs : sortable xs = true := by
    unfold sortable
    rw [Bool.or_eq_true]
    refine .inr ?_
    rw [List.all_eq_true]
    intro d hd
    rcases h.item hd with q | q <;> cases d <;> first | rfl | (cases q; done)
  have hsh : xs.all shal = true := by
    rw [List.all_eq_true]
    intro d hd
    rcases h.item hd with q | q <;> cases d <;> first | rfl | (cases q; done)
  refine ⟨sortD xs, _, ?_, rfl, ?_, fun d hd => ?_⟩
  · show (if alikeAllB xs && sortable xs && xs.all shal then okN (.list (sortD xs)) else none) = _
    rw [h.alike, hs, hsh]; rfl
  · exact (List.mergeSort_perm xs _).length_eq
  · exact (List.mergeSort_perm xs _).mem_iff.mp hd
theorem imm_item {d : D} (h : isIntD d = true ∨ isStrD d = true) : imm d = true ∧ shal d = true ∧ noD d = true := by
  rcases h with q | q <;> cases d <;> first | (exact ⟨rfl, rfl, rfl⟩) | (cases q; done)
theorem immL_all {l : List D} (h : ∀ d ∈ l, imm d = true) : immL l = true := by
  induction l with
  | nil => simp [immL]
  | cons d l ih => simp [immL, h d (.head _), ih fun x hx => h x (.tail _ hx)]
theorem mkK_imm {b : Bool} {l : List D} (h : ∀ d ∈ l, imm d = true) : mkK b (.list l) = .fr := by
  unfold mkK
  have : immKids (.list l) = true := immL_all h
  rw [this]; simp
theorem unlike_ok (n : Nat) {xs : List D} (h : Plain xs) : ∃ ys, runBody (GG n) [false] 3 fuel c__law_unlike [.list xs] = .ok (.list ys, .fr, []) ∧ ys.length ≤ xs.length ∧ ∀ d ∈ ys, d ∈ xs := by
  obtain ⟨ss, k, es, ek, hl, hm⟩ := h.sorted
  let I : List D → Ev → Prop := fun rest ρ => ∃ (ys : List D) (s : Slot), ρ = [.vl .sh (.list xs), .vl .fr (.list ys), s] ∧ (s = .un ∨ ∃ x, s = .vl .sh x) ∧ ys.length + rest.length ≤ ss.length ∧ (∀ d ∈ ys, d ∈ ss) ∧ ∀ d ∈ rest, d ∈ ss
  have step : ∀ x rest ρ, I (x :: rest) ρ → ∃ ρ', (fun x ρ => (bindT (.nm 2) x .sh ρ).bind fun ρ => evSs (GG n) fuel [(.iff (.op .notin [(.pk 2), (.pk 1)]) [(.ex (.mut .append 1 [(.var 2)]))] [])] ρ) x ρ = .ok (.next ρ') ∧ I rest ρ' := by
    rintro x rest ρ ⟨ys, s, rfl, hs, hlen, h1, h2⟩
    rw [List.length_cons] at hlen
    have hxs : x ∈ xs := hm x (h2 x (.head _))
    obtain ⟨i1, i2, i3⟩ := imm_item (h.item hxs)
    have hb1 : bindT (.nm 2) x .sh [.vl .sh (.list xs), .vl .fr (.list ys), s] = .ok [.vl .sh (.list xs), .vl .fr (.list ys), .vl .sh x] := by
      rcases hs with rfl | ⟨y, rfl⟩ <;> rfl
    have hno : noDs ys = true := noDs_all fun d hd => (imm_item (h.item (hm d (h1 d hd)))).2.2
    have hin := inD_list (a := x) i2 i3 hno
    have hlen2 : ys.length < 16777216 := by have := h.len; omega
    have c1 : evE (GG n) (.op .notin [(.pk 2), (.pk 1)]) [.vl .sh (.list xs), .vl .fr (.list ys), .vl .sh x] = .ok (.bool (!(ys.any fun z => eqD z x)), .fr, [.vl .sh (.list xs), .vl .fr (.list ys), .vl .sh x]) := by
      simp [ev_lit, ev_var, ev_mv, ev_op, ev_and, ev_or, ev_not, ev_ite, ev_chain, evL_nil, evL_pk, evL_pt, evT_nil, evT_cons, src_pt, src_sq, bind_ok, optR_some, noExc_ok, getS, setS, bound, peek, evL_lit, evA_lit, evL_var, evA_var, evL_mv, evA_mv, evL_con, evA_con, evL_op, evA_op, evL_and, evA_and, evL_or, evA_or, evL_not, evA_not, evL_ite, evA_ite, evL_chain, evA_chain, evL_call, evA_call, evL_lc, evA_lc, evL_mut, evA_mut, evA_nil, evA_io, imm, immL, immKids, topK, scalarP, truth, prim, okA, okN, okP, okT, okB, isType, seqOf, walkR, List.getElem?_cons_zero, List.getElem?_cons_succ, Option.getD_some, Option.bind_some, Option.bind_none, Option.map_some, isNoneD, isBoolD, hin]
    show ∃ ρ', (bindT (.nm 2) x .sh [.vl .sh (.list xs), .vl .fr (.list ys), s]).bind _ = _ ∧ _
    rw [hb1, bind_ok]
    cases hq : (ys.any fun z => eqD z x) with
    | true =>
      rw [hq] at c1
      exact ⟨_, (ss_next (s_iff_no c1 rfl)).trans ss_nil, ys, .vl .sh x, rfl, .inr ⟨x, rfl⟩, by omega, h1, fun d hd => h2 d (.tail _ hd)⟩
    | false =>
      rw [hq] at c1
      have c2 : evE (GG n) (.mut .append 1 [(.var 2)]) [.vl .sh (.list xs), .vl .fr (.list ys), .vl .sh x] = .ok (.none, .fr, [.vl .sh (.list xs), .vl .fr (.list (ys ++ [x])), .vl .sh x]) := by
        have hd : decide (ys.length < sizeLine) = true := by rw [sizeLine_eq]; exact decide_eq_true hlen2
        have hmu : mutate .append (.list ys) [(x, .sh)] = some (.none, .fr, .list (ys ++ [x]), true) := by
          show (if decide (ys.length < sizeLine) then some (PyData.none, Own.fr, PyData.list (ys ++ [x]), (Own.sh == Own.fr) || imm x) else none) = _
          rw [hd, i1]; rfl
        simp only [evE]
        simp [ev_lit, ev_var, ev_mv, ev_op, ev_and, ev_or, ev_not, ev_ite, ev_chain, evL_nil, evL_pk, evL_pt, evT_nil, evT_cons, src_pt, src_sq, bind_ok, optR_some, noExc_ok, getS, setS, bound, peek, evL_lit, evA_lit, evL_var, evA_var, evL_mv, evA_mv, evL_con, evA_con, evL_op, evA_op, evL_and, evA_and, evL_or, evA_or, evL_not, evA_not, evL_ite, evA_ite, evL_chain, evA_chain, evL_call, evA_call, evL_lc, evA_lc, evL_mut, evA_mut, evA_nil, evA_io, imm, immL, immKids, topK, scalarP, truth, prim, okA, okN, okP, okT, okB, isType, seqOf, walkR, List.getElem?_cons_zero, List.getElem?_cons_succ, Option.getD_some, Option.bind_some, Option.bind_none, Option.map_some, isNoneD, isBoolD, tyOf, tyN, hmu, mutK]
      refine ⟨_, (ss_next ((s_iff_yes c1 rfl).trans ((ss_next (s_ex c2)).trans ss_nil))).trans ss_nil, ys ++ [x], .vl .sh x, rfl, .inr ⟨x, rfl⟩, by rw [List.length_append]; simp; omega, fun d hd => ?_, fun d hd => h2 d (.tail _ hd)⟩
      rcases List.mem_append.mp hd with hd | hd
      · exact h1 d hd
      · rw [List.mem_singleton.mp hd]; exact h2 x (.head _)
  have hsrc : evSrc (GG n) (.op .sorted [(.pt 0)]) [.vl .sh (.list xs), .vl .fr (.list []), .un] = .ok (ss, [.vl .sh (.list xs), .vl .fr (.list []), .un]) := by
    rw [src_v rfl]
    simp [ev_lit, ev_var, ev_mv, ev_op, ev_and, ev_or, ev_not, ev_ite, ev_chain, evL_nil, evL_pk, evL_pt, evT_nil, evT_cons, src_pt, src_sq, bind_ok, optR_some, noExc_ok, getS, setS, bound, peek, evL_lit, evA_lit, evL_var, evA_var, evL_mv, evA_mv, evL_con, evA_con, evL_op, evA_op, evL_and, evA_and, evL_or, evA_or, evL_not, evA_not, evL_ite, evA_ite, evL_chain, evA_chain, evL_call, evA_call, evL_lc, evA_lc, evL_mut, evA_mut, evA_nil, evA_io, imm, immL, immKids, topK, scalarP, truth, prim, okA, okN, okP, okT, okB, isType, seqOf, walkR, List.getElem?_cons_zero, List.getElem?_cons_succ, Option.getD_some, Option.bind_some, Option.bind_none, Option.map_some, isNoneD, isBoolD, es]
  obtain ⟨ρ', eF, ys, s, rfl, hs, hl1, hm1, _⟩ := for_ind step ss _ ⟨[], .un, rfl, .inl rfl, by simp, by simp, fun d hd => hd⟩
  have l0 : line 0 = true := by decide
  refine ⟨ys, run_of (ρ := [.vl .sh (.list xs), .un, s]) rfl ?_ rfl, by rw [← hl]; exact hl1, fun d hd => hm d (hm1 d hd)⟩
  have c0 : evE (GG n) (.op .lst []) [.vl .sh (.list xs), .un, .un] = .ok (.list [], .fr, [.vl .sh (.list xs), .un, .un]) := by
    simp [ev_lit, ev_var, ev_mv, ev_op, ev_and, ev_or, ev_not, ev_ite, ev_chain, evL_nil, evL_pk, evL_pt, evT_nil, evT_cons, src_pt, src_sq, bind_ok, optR_some, noExc_ok, getS, setS, bound, peek, evL_lit, evA_lit, evL_var, evA_var, evL_mv, evA_mv, evL_con, evA_con, evL_op, evA_op, evL_and, evA_and, evL_or, evA_or, evL_not, evA_not, evL_ite, evA_ite, evL_chain, evA_chain, evL_call, evA_call, evL_lc, evA_lc, evL_mut, evA_mut, evA_nil, evA_io, imm, immL, immKids, topK, scalarP, truth, prim, okA, okN, okP, okT, okB, isType, seqOf, walkR, List.getElem?_cons_zero, List.getElem?_cons_succ, Option.getD_some, Option.bind_some, Option.bind_none, Option.map_some, isNoneD, isBoolD, l0, mkK]
  have c3 : evE (GG n) (.mv 1) [.vl .sh (.list xs), .vl .fr (.list ys), s] = .ok (.list ys, .fr, [.vl .sh (.list xs), .un, s]) := by
    simp [ev_lit, ev_var, ev_mv, ev_op, ev_and, ev_or, ev_not, ev_ite, ev_chain, evL_nil, evL_pk, evL_pt, evT_nil, evT_cons, src_pt, src_sq, bind_ok, optR_some, noExc_ok, getS, setS, bound, peek, evL_lit, evA_lit, evL_var, evA_var, evL_mv, evA_mv, evL_con, evA_con, evL_op, evA_op, evL_and, evA_and, evL_or, evA_or, evL_not, evA_not, evL_ite, evA_ite, evL_chain, evA_chain, evL_call, evA_call, evL_lc, evA_lc, evL_mut, evA_mut, evA_nil, evA_io, imm, immL, immKids, topK, scalarP, truth, prim, okA, okN, okP, okT, okB, isType, seqOf, walkR, List.getElem?_cons_zero, List.getElem?_cons_succ, Option.getD_some, Option.bind_some, Option.bind_none, Option.map_some, isNoneD, isBoolD]
  exact (ss_next (s_asg c0 rfl)).trans ((ss_next (s_for hsrc rfl eF)).trans (ss_ret (s_ret c3)))
end TH.Lk01
end
section
set_option Elab.async false
set_option linter.all false
set_option maxRecDepth 100000
namespace TH.Lk01
open PySem PySem.Spec PyProof.Rows L2
theorem Gen.cases {m : Int} {g : D} (h : Gen m g) : ∃ xs, g = .list xs := by obtain ⟨a, b, c, rfl, _⟩ := h; exact ⟨_, rfl⟩
theorem rangeL_len {j : Int} : (rangeL 0 j).length = j.toNat := by unfold rangeL; rw [List.length_map, List.length_range]; congr 1; omega
def numD (d : D) : Prop := ∃ i : Int, d = .int i ∧ -1 ≤ i ∧ i ≤ 1000000000000
theorem numbers_ok (n : Nat) {m : Int} {g : D} (h : Gen m g) (hm : m ≤ 90000000000) : ∃ (L : List D) (g' : D), runBody (GG (n + 3)) [true] 3 fuel c__law_numbers [g] = .ok (.list L, .fr, [g']) ∧ L.length ≤ 5 ∧ (∀ d ∈ L, numD d) ∧ Gen (m + 100) g' := by
  obtain ⟨r, g1, er, r0, r1, hg1⟩ := rnd (n + 1) (b := 6) h (by omega) (by decide) (by decide)
  have hb := h.box
  have e1 : evE (GG (n + 3)) (.call "_law_random" [(.io 0), (.lit (.int 6))] [0, 1]) [.vl .io g, .un, .un] = .ok (.int r, .fr, [.vl .io g1, .un, .un]) := by
    refine ev_call (ds := [g, .int 6]) (ρ1 := [.vl .io g, .un, .un]) (os := [g1]) ?_ (fn_random (n + 2)) rfl er rfl rfl
    simp [ev_lit, ev_var, ev_mv, ev_op, ev_and, ev_or, ev_not, ev_ite, ev_chain, evL_nil, evL_pk, evL_pt, evT_nil, evT_cons, src_pt, src_sq, bind_ok, optR_some, noExc_ok, getS, setS, bound, peek, evL_lit, evA_lit, evL_var, evA_var, evL_mv, evA_mv, evL_con, evA_con, evL_op, evA_op, evL_and, evA_and, evL_or, evA_or, evL_not, evA_not, evL_ite, evA_ite, evL_chain, evA_chain, evL_call, evA_call, evL_lc, evA_lc, evL_mut, evA_mut, evA_nil, evA_io, imm, immL, immKids, topK, scalarP, truth, prim, okA, okN, okP, okT, okB, isType, seqOf, walkR, List.getElem?_cons_zero, List.getElem?_cons_succ, Option.getD_some, Option.bind_some, Option.bind_none, Option.map_some, isNoneD, isBoolD, hb]
  have hsrc : evSrc (GG (n + 3)) (.sq .range1 [(.call "_law_random" [(.io 0), (.lit (.int 6))] [0, 1])]) [.vl .io g, .un, .un] = .ok (rangeL 0 r, [.vl .io g1, .un, .un]) :=
    srcR1 (k2 := .fr) (by simp [ev_lit, ev_var, ev_mv, ev_op, ev_and, ev_or, ev_not, ev_ite, ev_chain, evL_nil, evL_pk, evL_pt, evT_nil, evT_cons, src_pt, src_sq, bind_ok, optR_some, noExc_ok, getS, setS, bound, peek, evL_lit, evA_lit, evL_var, evA_var, evL_mv, evA_mv, evL_con, evA_con, evL_op, evA_op, evL_and, evA_and, evL_or, evA_or, evL_not, evA_not, evL_ite, evA_ite, evL_chain, evA_chain, evL_call, evA_call, evL_lc, evA_lc, evL_mut, evA_mut, evA_nil, evA_io, imm, immL, immKids, topK, scalarP, truth, prim, okA, okN, okP, okT, okB, isType, seqOf, walkR, List.getElem?_cons_zero, List.getElem?_cons_succ, Option.getD_some, Option.bind_some, Option.bind_none, Option.map_some, isNoneD, isBoolD, e1]) rfl (by omega) (by omega)
  let I : List D → List D × Bool → Ev → Prop := fun xs acc ρ => ∃ g, ρ = [.vl .io g, .un, .un] ∧ Gen (m + 60 - 9 * xs.length) g ∧ acc.1.length + xs.length ≤ 5 ∧ ∀ d ∈ acc.1, numD d
  have step : ∀ x xs acc ρ, I (x :: xs) acc ρ → ∃ acc' ρ', lcF (fun x ρ => bindT (.nm 2) x .sh ρ) (fun ρ => evT (GG (n + 3)) [] ρ) (fun ρ => evE (GG (n + 3)) (.op .sub [(.call "_law_random" [(.io 0), (.call "_law_pick" [(.io 0), (.op .lst [(.lit (.int 3)), (.lit (.int 9)), (.op .pow [(.lit (.int 10)), (.lit (.int 12))])])] [0, 1])] [0, 1]), (.call "_law_random" [(.io 0), (.lit (.int 2))] [0, 1])]) ρ) [1, 2] x acc ρ = .ok (acc', ρ') ∧ I xs acc' ρ' := by
    rintro x xs ⟨acc, ab⟩ ρ ⟨g, rfl, hg, hl, ha⟩
    rw [List.length_cons] at hg hl
    have hl' : acc.length + (xs.length + 1) ≤ 5 := hl
    obtain ⟨b, g2, hbm, eb, hg2⟩ := pick_ok n (xs := [.int 3, .int 9, .int 1000000000000]) hg (by omega) (by decide) (by decide)
    obtain ⟨bi, rfl, b1, b2⟩ : ∃ bi : Int, b = .int bi ∧ 1 ≤ bi ∧ bi ≤ 1000000000000 := by
      simp at hbm
      rcases hbm with rfl | rfl | rfl <;> exact ⟨_, rfl, by decide, by decide⟩
    obtain ⟨u, g3, eu, u0, u1, hg3⟩ := rnd (n + 1) (b := bi) hg2 (by omega) b1 (by omega)
    obtain ⟨v, g4, ev, v0, v1, hg4⟩ := rnd (n + 1) (b := 2) hg3 (by omega) (by decide) (by decide)
    have p12 : powD (.int 10) (.int 12) = some (.int 1000000000000, .fr) := by rfl
    have l3 : line 3 = true := by decide
    have h1 := hg.box
    have h2 := hg2.box
    have h3 := hg3.box
    have eP : evE (GG (n + 3)) (.call "_law_pick" [(.io 0), (.op .lst [(.lit (.int 3)), (.lit (.int 9)), (.op .pow [(.lit (.int 10)), (.lit (.int 12))])])] [0, 1]) [.vl .io g, .un, .vl .sh x] = .ok (.int bi, .sh, [.vl .io g2, .un, .vl .sh x]) := by
      refine ev_call (ds := [g, .list [.int 3, .int 9, .int 1000000000000]]) (ρ1 := [.vl .io g, .un, .vl .sh x]) (os := [g2]) ?_ (fn_pick (n + 2)) rfl eb rfl rfl
      simp [ev_lit, ev_var, ev_mv, ev_op, ev_and, ev_or, ev_not, ev_ite, ev_chain, evL_nil, evL_pk, evL_pt, evT_nil, evT_cons, src_pt, src_sq, bind_ok, optR_some, noExc_ok, getS, setS, bound, peek, evL_lit, evA_lit, evL_var, evA_var, evL_mv, evA_mv, evL_con, evA_con, evL_op, evA_op, evL_and, evA_and, evL_or, evA_or, evL_not, evA_not, evL_ite, evA_ite, evL_chain, evA_chain, evL_call, evA_call, evL_lc, evA_lc, evL_mut, evA_mut, evA_nil, evA_io, imm, immL, immKids, topK, scalarP, truth, prim, okA, okN, okP, okT, okB, isType, seqOf, walkR, List.getElem?_cons_zero, List.getElem?_cons_succ, Option.getD_some, Option.bind_some, Option.bind_none, Option.map_some, isNoneD, isBoolD, h1, p12, l3, mkK]
    have eU : evE (GG (n + 3)) (.call "_law_random" [(.io 0), (.call "_law_pick" [(.io 0), (.op .lst [(.lit (.int 3)), (.lit (.int 9)), (.op .pow [(.lit (.int 10)), (.lit (.int 12))])])] [0, 1])] [0, 1]) [.vl .io g, .un, .vl .sh x] = .ok (.int u, .fr, [.vl .io g3, .un, .vl .sh x]) := by
      refine ev_call (ds := [g2, .int bi]) (ρ1 := [.vl .io g2, .un, .vl .sh x]) (os := [g3]) ?_ (fn_random (n + 2)) rfl eu rfl rfl
      simp [ev_lit, ev_var, ev_mv, ev_op, ev_and, ev_or, ev_not, ev_ite, ev_chain, evL_nil, evL_pk, evL_pt, evT_nil, evT_cons, src_pt, src_sq, bind_ok, optR_some, noExc_ok, getS, setS, bound, peek, evL_lit, evA_lit, evL_var, evA_var, evL_mv, evA_mv, evL_con, evA_con, evL_op, evA_op, evL_and, evA_and, evL_or, evA_or, evL_not, evA_not, evL_ite, evA_ite, evL_chain, evA_chain, evL_call, evA_call, evL_lc, evA_lc, evL_mut, evA_mut, evA_nil, evA_io, imm, immL, immKids, topK, scalarP, truth, prim, okA, okN, okP, okT, okB, isType, seqOf, walkR, List.getElem?_cons_zero, List.getElem?_cons_succ, Option.getD_some, Option.bind_some, Option.bind_none, Option.map_some, isNoneD, isBoolD, eP, h2]
    have eV : evE (GG (n + 3)) (.call "_law_random" [(.io 0), (.lit (.int 2))] [0, 1]) [.vl .io g3, .un, .vl .sh x] = .ok (.int v, .fr, [.vl .io g4, .un, .vl .sh x]) := by
      refine ev_call (ds := [g3, .int 2]) (ρ1 := [.vl .io g3, .un, .vl .sh x]) (os := [g4]) ?_ (fn_random (n + 2)) rfl ev rfl rfl
      simp [ev_lit, ev_var, ev_mv, ev_op, ev_and, ev_or, ev_not, ev_ite, ev_chain, evL_nil, evL_pk, evL_pt, evT_nil, evT_cons, src_pt, src_sq, bind_ok, optR_some, noExc_ok, getS, setS, bound, peek, evL_lit, evA_lit, evL_var, evA_var, evL_mv, evA_mv, evL_con, evA_con, evL_op, evA_op, evL_and, evA_and, evL_or, evA_or, evL_not, evA_not, evL_ite, evA_ite, evL_chain, evA_chain, evL_call, evA_call, evL_lc, evA_lc, evL_mut, evA_mut, evA_nil, evA_io, imm, immL, immKids, topK, scalarP, truth, prim, okA, okN, okP, okT, okB, isType, seqOf, walkR, List.getElem?_cons_zero, List.getElem?_cons_succ, Option.getD_some, Option.bind_some, Option.bind_none, Option.map_some, isNoneD, isBoolD, h3]
    have eS : evE (GG (n + 3)) (.op .sub [(.call "_law_random" [(.io 0), (.call "_law_pick" [(.io 0), (.op .lst [(.lit (.int 3)), (.lit (.int 9)), (.op .pow [(.lit (.int 10)), (.lit (.int 12))])])] [0, 1])] [0, 1]), (.call "_law_random" [(.io 0), (.lit (.int 2))] [0, 1])]) [.vl .io g, .un, .vl .sh x] = .ok (.int (u - v), .fr, [.vl .io g4, .un, .vl .sh x]) := by
      simp [ev_lit, ev_var, ev_mv, ev_op, ev_and, ev_or, ev_not, ev_ite, ev_chain, evL_nil, evL_pk, evL_pt, evT_nil, evT_cons, src_pt, src_sq, bind_ok, optR_some, noExc_ok, getS, setS, bound, peek, evL_lit, evA_lit, evL_var, evA_var, evL_mv, evA_mv, evL_con, evA_con, evL_op, evA_op, evL_and, evA_and, evL_or, evA_or, evL_not, evA_not, evL_ite, evA_ite, evL_chain, evA_chain, evL_call, evA_call, evL_lc, evA_lc, evL_mut, evA_mut, evA_nil, evA_io, imm, immL, immKids, topK, scalarP, truth, prim, okA, okN, okP, okT, okB, isType, seqOf, walkR, List.getElem?_cons_zero, List.getElem?_cons_succ, Option.getD_some, Option.bind_some, Option.bind_none, Option.map_some, isNoneD, isBoolD, eU, eV, subD]
    refine ⟨(acc ++ [.int (u - v)], ab && true), [.vl .io g4, .un, .un], ?_, g4, rfl, hg4.mono (by omega), ?_, ?_⟩
    · exact (lcF_yes (ρa := [.vl .io g, .un, .vl .sh x]) (ρb := [.vl .io g, .un, .vl .sh x]) rfl evT_nil eS).trans rfl
    · show (acc ++ [PyData.int (u - v)]).length + xs.length ≤ 5
      rw [List.length_append, List.length_singleton]
      omega
    · intro d hd
      rcases List.mem_append.mp hd with hd | hd
      · exact ha d hd
      · rw [List.mem_singleton.mp hd]; exact ⟨u - v, rfl, by omega, by omega⟩
  have hlen : (rangeL 0 r).length ≤ 5 := by rw [rangeL_len]; omega
  obtain ⟨⟨L, b⟩, ρ', eL, g', rfl, hg', hL, hN⟩ := loop_ind step (rangeL 0 r) ([], true) [.vl .io g1, .un, .un] ⟨g1, rfl, hg1.mono (by omega), by simpa using hlen, by simp⟩
  have hL5 : L.length ≤ 5 := hL
  have hk : mkK b (.list L) = .fr := mkK_imm fun d hd => by obtain ⟨i, rfl, _⟩ := hN d hd; rfl
  have eC : evE (GG (n + 3)) (.lc (.sq .range1 [(.call "_law_random" [(.io 0), (.lit (.int 6))] [0, 1])]) (.nm 2) [1, 2] [] (.op .sub [(.call "_law_random" [(.io 0), (.call "_law_pick" [(.io 0), (.op .lst [(.lit (.int 3)), (.lit (.int 9)), (.op .pow [(.lit (.int 10)), (.lit (.int 12))])])] [0, 1])] [0, 1]), (.call "_law_random" [(.io 0), (.lit (.int 2))] [0, 1])])) [.vl .io g, .un, .un] = .ok (.list L, .fr, [.vl .io g', .un, .un]) := by
    rw [ev_lc (ρ1 := [.vl .io g1, .un, .un]) hsrc rfl eL (line_ok (by omega)), hk]
    try rfl
  exact ⟨L, g', run_of (ρ := [.vl .io g', .un, .un]) rfl (ss_ret (s_ret eC)) rfl, hL5, hN, hg'.mono (by first | omega | (simp; omega) | simp)⟩
/-! strings -/
theorem join_chars : ∀ l : List Nat, Str.join (mk []) (l.map fun c => (⟨#[c]⟩ : Str)) = mk l
  | [] => rfl
  | [c] => rfl
  | c :: d :: l => by
    have ih := join_chars (d :: l)
    show (⟨#[c]⟩ : Str) ++ mk [] ++ Str.join (mk []) ((d :: l).map fun c => (⟨#[c]⟩ : Str)) = _
    rw [ih]
    show (⟨((#[c] : Array Nat) ++ #[]) ++ (d :: l).toArray⟩ : Str) = ⟨(c :: d :: l).toArray⟩
    simp
theorem strs_ch : ∀ l : List Nat, strsD (l.map ch) = some (l.map fun c => (⟨#[c]⟩ : Str))
  | [] => rfl
  | c :: l => by
    show (strsD (l.map ch)).map _ = _
    rw [strs_ch l]; rfl
theorem sum_one : ∀ l : List Nat, ((l.map fun c => (⟨#[c]⟩ : Str)).map (·.length)).sum = l.length
  | [] => rfl
  | c :: l => by
    have := sum_one l
    rw [List.map_cons, List.map_cons, List.sum_cons, this, List.length_cons]
    show 1 + l.length = _
    omega
def okStr (x : List Nat) : Prop := x.length ≤ 250 ∧ ∀ c ∈ x, c < 1114112
theorem string_ok (n : Nat) {m : Int} {g : D} (h : Gen m g) (hm : m ≤ 90000000000) : ∃ (l : List Nat) (g' : D), runBody (GG (n + 3)) [true] 4 fuel c__law_string [g] = .ok (.str (mk l), .fr, [g']) ∧ okStr l ∧ Gen (m + 200) g' := by
  have hb := h.box
  let S5 : List D := [.str (Str.ofString "ab"), .str (Str.ofString "abcdefghijklmnopqrstuvwxyz"), .str (Str.ofString "a0123456789"), .str (Str.ofString "aZ_ -~"), .str ⟨#[97, 48, 10, 9]⟩]
  obtain ⟨s, g0, hs, es, hg0⟩ := pick_ok n (xs := S5) h (by omega) (by decide) (by decide)
  obtain ⟨z, rfl, z1, z2, z3⟩ : ∃ z : List Nat, s = .str (mk z) ∧ 1 ≤ z.length ∧ z.length ≤ 1000000 ∧ ∀ c ∈ z, c < 1114112 := by
    simp only [S5, List.mem_cons, List.not_mem_nil, or_false] at hs
    rcases hs with rfl | rfl | rfl | rfl | rfl
    · exact ⟨(Str.ofString "ab").cps.toList, by rw [← str_mk], by decide, by decide, by decide⟩
    · exact ⟨(Str.ofString "abcdefghijklmnopqrstuvwxyz").cps.toList, by rw [← str_mk], by decide, by decide, by decide⟩
    · exact ⟨(Str.ofString "a0123456789").cps.toList, by rw [← str_mk], by decide, by decide, by decide⟩
    · exact ⟨(Str.ofString "aZ_ -~").cps.toList, by rw [← str_mk], by decide, by decide, by decide⟩
    · exact ⟨[97, 48, 10, 9], rfl, by decide, by decide, by decide⟩
  have l5 : line 5 = true := by decide
  have eS : evE (GG (n + 3)) (.call "_law_pick" [(.io 0), (.op .lst [(.lit (.str "ab")), (.lit (.str "abcdefghijklmnopqrstuvwxyz")), (.lit (.str "a0123456789")), (.lit (.str "aZ_ -~")), (.lit (.str ⟨#[97, 48, 10, 9]⟩))])] [0, 1]) [.vl .io g, .un, .un, .un] = .ok (.str (mk z), .sh, [.vl .io g0, .un, .un, .un]) := by
    refine ev_call (ds := [g, .list S5]) (ρ1 := [.vl .io g, .un, .un, .un]) (os := [g0]) ?_ (fn_pick (n + 2)) rfl es rfl rfl
    simp [ev_lit, ev_var, ev_mv, ev_op, ev_and, ev_or, ev_not, ev_ite, ev_chain, evL_nil, evL_pk, evL_pt, evT_nil, evT_cons, src_pt, src_sq, bind_ok, optR_some, noExc_ok, getS, setS, bound, peek, evL_lit, evA_lit, evL_var, evA_var, evL_mv, evA_mv, evL_con, evA_con, evL_op, evA_op, evL_and, evA_and, evL_or, evA_or, evL_not, evA_not, evL_ite, evA_ite, evL_chain, evA_chain, evL_call, evA_call, evL_lc, evA_lc, evL_mut, evA_mut, evA_nil, evA_io, imm, immL, immKids, topK, scalarP, truth, prim, okA, okN, okP, okT, okB, isType, seqOf, walkR, List.getElem?_cons_zero, List.getElem?_cons_succ, Option.getD_some, Option.bind_some, Option.bind_none, Option.map_some, isNoneD, isBoolD, hb, l5, mkK, S5]
  obtain ⟨r, g1, er, r0, r1, hg1⟩ := rnd (n + 1) (b := 24) hg0 (by omega) (by decide) (by decide)
  have hb0 := hg0.box
  have e1 : evE (GG (n + 3)) (.call "_law_random" [(.io 0), (.lit (.int 24))] [0, 1]) [.vl .io g0, .vl .sh (.str (mk z)), .un, .un] = .ok (.int r, .fr, [.vl .io g1, .vl .sh (.str (mk z)), .un, .un]) := by
    refine ev_call (ds := [g0, .int 24]) (ρ1 := [.vl .io g0, .vl .sh (.str (mk z)), .un, .un]) (os := [g1]) ?_ (fn_random (n + 2)) rfl er rfl rfl
    simp [ev_lit, ev_var, ev_mv, ev_op, ev_and, ev_or, ev_not, ev_ite, ev_chain, evL_nil, evL_pk, evL_pt, evT_nil, evT_cons, src_pt, src_sq, bind_ok, optR_some, noExc_ok, getS, setS, bound, peek, evL_lit, evA_lit, evL_var, evA_var, evL_mv, evA_mv, evL_con, evA_con, evL_op, evA_op, evL_and, evA_and, evL_or, evA_or, evL_not, evA_not, evL_ite, evA_ite, evL_chain, evA_chain, evL_call, evA_call, evL_lc, evA_lc, evL_mut, evA_mut, evA_nil, evA_io, imm, immL, immKids, topK, scalarP, truth, prim, okA, okN, okP, okT, okB, isType, seqOf, walkR, List.getElem?_cons_zero, List.getElem?_cons_succ, Option.getD_some, Option.bind_some, Option.bind_none, Option.map_some, isNoneD, isBoolD, hb0]
  have hsrc : evSrc (GG (n + 3)) (.sq .range1 [(.call "_law_random" [(.io 0), (.lit (.int 24))] [0, 1])]) [.vl .io g0, .vl .sh (.str (mk z)), .un, .un] = .ok (rangeL 0 r, [.vl .io g1, .vl .sh (.str (mk z)), .un, .un]) :=
    srcR1 (k2 := .fr) (by simp [ev_lit, ev_var, ev_mv, ev_op, ev_and, ev_or, ev_not, ev_ite, ev_chain, evL_nil, evL_pk, evL_pt, evT_nil, evT_cons, src_pt, src_sq, bind_ok, optR_some, noExc_ok, getS, setS, bound, peek, evL_lit, evA_lit, evL_var, evA_var, evL_mv, evA_mv, evL_con, evA_con, evL_op, evA_op, evL_and, evA_and, evL_or, evA_or, evL_not, evA_not, evL_ite, evA_ite, evL_chain, evA_chain, evL_call, evA_call, evL_lc, evA_lc, evL_mut, evA_mut, evA_nil, evA_io, imm, immL, immKids, topK, scalarP, truth, prim, okA, okN, okP, okT, okB, isType, seqOf, walkR, List.getElem?_cons_zero, List.getElem?_cons_succ, Option.getD_some, Option.bind_some, Option.bind_none, Option.map_some, isNoneD, isBoolD, e1]) rfl (by omega) (by omega)
  let I : List D → List D × Bool → Ev → Prop := fun xs acc ρ => ∃ (g : D) (l : List Nat), ρ = [.vl .io g, .vl .sh (.str (mk z)), .un, .un] ∧ Gen (m + 100 - 3 * xs.length) g ∧ acc = (l.map ch, true) ∧ l.length + xs.length ≤ 24 ∧ ∀ c ∈ l, c ∈ z
  have step : ∀ x xs acc ρ, I (x :: xs) acc ρ → ∃ acc' ρ', lcF (fun x ρ => bindT (.nm 3) x .sh ρ) (fun ρ => evT (GG (n + 3)) [] ρ) (fun ρ => evE (GG (n + 3)) (.call "_law_pick" [(.io 0), (.var 1)] [0, 1]) ρ) [2, 3] x acc ρ = .ok (acc', ρ') ∧ I xs acc' ρ' := by
    rintro x xs acc ρ ⟨g, l, rfl, hg, rfl, hl, ha⟩
    rw [List.length_cons] at hg hl
    have h1 := hg.box
    obtain ⟨c, g2, hc, ec, hg2⟩ := pick_str n hg (by omega) z1 z2
    have eP : evE (GG (n + 3)) (.call "_law_pick" [(.io 0), (.var 1)] [0, 1]) [.vl .io g, .vl .sh (.str (mk z)), .un, .vl .sh x] = .ok (ch c, .fr, [.vl .io g2, .vl .sh (.str (mk z)), .un, .vl .sh x]) := by
      refine ev_call (ds := [g, .str (mk z)]) (ρ1 := [.vl .io g, .vl .sh (.str (mk z)), .un, .vl .sh x]) (os := [g2]) ?_ (fn_pick (n + 2)) rfl ec rfl rfl
      simp [ev_lit, ev_var, ev_mv, ev_op, ev_and, ev_or, ev_not, ev_ite, ev_chain, evL_nil, evL_pk, evL_pt, evT_nil, evT_cons, src_pt, src_sq, bind_ok, optR_some, noExc_ok, getS, setS, bound, peek, evL_lit, evA_lit, evL_var, evA_var, evL_mv, evA_mv, evL_con, evA_con, evL_op, evA_op, evL_and, evA_and, evL_or, evA_or, evL_not, evA_not, evL_ite, evA_ite, evL_chain, evA_chain, evL_call, evA_call, evL_lc, evA_lc, evL_mut, evA_mut, evA_nil, evA_io, imm, immL, immKids, topK, scalarP, truth, prim, okA, okN, okP, okT, okB, isType, seqOf, walkR, List.getElem?_cons_zero, List.getElem?_cons_succ, Option.getD_some, Option.bind_some, Option.bind_none, Option.map_some, isNoneD, isBoolD, h1]
    refine ⟨((l ++ [c]).map ch, true), [.vl .io g2, .vl .sh (.str (mk z)), .un, .un], ?_, g2, l ++ [c], rfl, hg2.mono (by omega), rfl, ?_, ?_⟩
    · refine (lcF_yes (ρa := [.vl .io g, .vl .sh (.str (mk z)), .un, .vl .sh x]) (ρb := [.vl .io g, .vl .sh (.str (mk z)), .un, .vl .sh x]) rfl evT_nil eP).trans ?_
      rw [List.map_append]
      rfl
    · rw [List.length_append, List.length_singleton]; omega
    · intro d hd
      rcases List.mem_append.mp hd with hd | hd
      · exact ha d hd
      · rw [List.mem_singleton.mp hd]; exact hc
  have hlen : (rangeL 0 r).length ≤ 24 := by rw [rangeL_len]; omega
  obtain ⟨acc, ρ', eL, g', l, rfl, hg', rfl, hL, hN⟩ := loop_ind step (rangeL 0 r) ([], true) [.vl .io g1, .vl .sh (.str (mk z)), .un, .un] ⟨g1, [], rfl, hg1.mono (by omega), rfl, by simpa using hlen, by simp⟩
  have hL2 : l.length ≤ 24 := hL
  have eC : evE (GG (n + 3)) (.lc (.sq .range1 [(.call "_law_random" [(.io 0), (.lit (.int 24))] [0, 1])]) (.nm 3) [2, 3] [] (.call "_law_pick" [(.io 0), (.var 1)] [0, 1])) [.vl .io g0, .vl .sh (.str (mk z)), .un, .un] = .ok (.list (l.map ch), .fr, [.vl .io g', .vl .sh (.str (mk z)), .un, .un]) := by
    rw [ev_lc (ρ1 := [.vl .io g1, .vl .sh (.str (mk z)), .un, .un]) hsrc rfl eL (line_ok (by rw [List.length_map]; omega))]
    rfl
  have hj : joinD (.str (Str.ofString "")) (.list (l.map ch)) = some (.str (mk l), .fr) := by
    have h0 : (Str.ofString "") = mk [] := by decide
    rw [h0]
    show (strsD (l.map ch)).bind _ = _
    rw [strs_ch, Option.bind_some]
    have hln : line (((l.map fun c => (⟨#[c]⟩ : Str)).map (·.length)).sum + (l.map fun c => (⟨#[c]⟩ : Str)).length * (mk []).length) = true := by
      rw [sum_one, mk_len]
      exact line_ok (by simp; omega)
    rw [if_pos hln, join_chars]; rfl
  have eJ : evE (GG (n + 3)) (.op .join [(.lit (.str "")), (.lc (.sq .range1 [(.call "_law_random" [(.io 0), (.lit (.int 24))] [0, 1])]) (.nm 3) [2, 3] [] (.call "_law_pick" [(.io 0), (.var 1)] [0, 1]))]) [.vl .io g0, .vl .sh (.str (mk z)), .un, .un] = .ok (.str (mk l), .fr, [.vl .io g', .vl .sh (.str (mk z)), .un, .un]) := by
    simp [ev_lit, ev_var, ev_mv, ev_op, ev_and, ev_or, ev_not, ev_ite, ev_chain, evL_nil, evL_pk, evL_pt, evT_nil, evT_cons, src_pt, src_sq, bind_ok, optR_some, noExc_ok, getS, setS, bound, peek, evL_lit, evA_lit, evL_var, evA_var, evL_mv, evA_mv, evL_con, evA_con, evL_op, evA_op, evL_and, evA_and, evL_or, evA_or, evL_not, evA_not, evL_ite, evA_ite, evL_chain, evA_chain, evL_call, evA_call, evL_lc, evA_lc, evL_mut, evA_mut, evA_nil, evA_io, imm, immL, immKids, topK, scalarP, truth, prim, okA, okN, okP, okT, okB, isType, seqOf, walkR, List.getElem?_cons_zero, List.getElem?_cons_succ, Option.getD_some, Option.bind_some, Option.bind_none, Option.map_some, isNoneD, isBoolD, eC, hj]
  exact ⟨l, g', run_of (ρ := [.vl .io g', .vl .sh (.str (mk z)), .un, .un]) rfl ((ss_next (s_asg eS rfl)).trans (ss_ret (s_ret eJ))) rfl, ⟨by omega, fun c hc => z3 c (hN c hc)⟩, hg'.mono (by first | omega | (simp; omega) | simp)⟩
end TH.Lk01
end
section
set_option Elab.async false
set_option linter.all false
set_option maxRecDepth 100000
namespace TH.Lk01
open PySem PySem.Spec PyProof.Rows L2
def rep (x : Str) (k : Nat) : Str := ⟨(List.replicate k x.cps.toList).flatten.toArray⟩
abbrev St (x : String) : D := .str (Str.ofString x)
theorem mulS {x : Str} {k : Nat} (h : x.length * k ≤ 1000) (hk : k ≤ 1000) : mulD (.str x) (.int (k : Int)) = some (.str (rep x k), .fr) := by
  show (if line (x.length * ((k : Int)).toNat) && decide (-(2 ^ 63) ≤ (k : Int) ∧ (k : Int) < 2 ^ 63) then okA (.str ⟨(List.replicate (k : Int).toNat x.cps.toList).flatten.toArray⟩) else none) = _
  have h1 : line (x.length * ((k : Int)).toNat) = true := line_ok (by rw [Int.toNat_natCast]; omega)
  have h2 : decide (-(2 ^ 63) ≤ (k : Int) ∧ (k : Int) < 2 ^ 63) = true := decide_eq_true ⟨by omega, by omega⟩
  rw [h1, h2, Int.toNat_natCast]
  rfl
/-! good values -/
structure SV (w k : Nat) (d : D) : Prop where
  sh : d.showable = true
  lf : d.leavesShort 13 = true
  wt : d.weight ≤ w
  dp : d.depth ≤ k
theorem SV.mono {w k w' k' : Nat} {d : D} (h : SV w k d) (h1 : w ≤ w') (h2 : k ≤ k') : SV w' k' d := ⟨h.sh, h.lf, Nat.le_trans h.wt h1, Nat.le_trans h.dp h2⟩
def atomG (d : D) : Prop := d = .none ∨ (∃ b, d = .bool b) ∨ (∃ i : Int, d = .int i ∧ -1 ≤ i ∧ i ≤ 1000000000000) ∨ ∃ l, d = .str (mk l) ∧ okStr l
theorem str_atom {x : Str} (h : x.cps.toList.length ≤ 250 ∧ ∀ c ∈ x.cps.toList, c < 1114112) : atomG (.str x) := .inr (.inr (.inr ⟨x.cps.toList, by rw [← str_mk], h⟩))
theorem atom_sv {d : D} (h : atomG d) : SV 300 0 d := by
  rcases h with rfl | ⟨b, rfl⟩ | ⟨i, rfl, h1, h2⟩ | ⟨l, rfl, h1, h2⟩
  · exact ⟨rfl, rfl, by simp [PyData.weight], by simp [PyData.depth]⟩
  · exact ⟨rfl, rfl, by simp [PyData.weight], by simp [PyData.depth]⟩
  · have hlog : i.natAbs.log2 < 200 := log2_small (by omega)
    refine ⟨?_, ?_, ?_, by simp [PyData.depth]⟩
    · simp only [PyData.showable]
      exact decide_eq_true (by omega)
    · simp only [PyData.leavesShort]
      refine decide_eq_true ?_
      by_cases h0 : 0 ≤ i
      · exact toString_length_le h0 (by decide) (by omega)
      · have : i = -1 := by omega
        subst this
        decide +kernel
    · simp only [PyData.weight]
      split <;> omega
  · refine ⟨rfl, ?_, ?_, by simp [PyData.depth]⟩
    · simp only [PyData.leavesShort]
      rw [List.all_eq_true]
      intro c hc
      exact decide_eq_true (Nat.lt_trans (h2 c hc) (by decide))
    · simp only [PyData.weight]
      show (mk l).cps.size ≤ 300
      have : (mk l).cps.size = l.length := by simp [mk]
      omega
theorem all_sv {w k : Nat} : ∀ {xs : List D}, (∀ d ∈ xs, SV w k d) → PyData.showableAll xs = true ∧ PyData.leavesShortAll 13 xs = true ∧ PyData.weightAll xs ≤ xs.length * (w + 1) ∧ PyData.depthAll xs ≤ k
  | [], _ => ⟨rfl, rfl, by simp [PyData.weightAll], by simp [PyData.depthAll]⟩
  | x :: xs, h => by
    obtain ⟨h1, h2, h3, h4⟩ := all_sv fun d hd => h d (.tail _ hd)
    have hx := h x (.head _)
    refine ⟨?_, ?_, ?_, ?_⟩
    · simp only [PyData.showableAll, hx.sh, h1, Bool.and_self]
    · simp only [PyData.leavesShortAll, hx.lf, h2, Bool.and_self]
    · simp only [PyData.weightAll, List.length_cons, Nat.succ_mul]
      have := hx.wt
      omega
    · simp only [PyData.depthAll]
      have := hx.dp
      omega
theorem list_sv {w k n : Nat} {xs : List D} (h : ∀ d ∈ xs, SV w k d) (hn : xs.length ≤ n) : SV (n * (w + 1)) (k + 1) (.list xs) := by
  obtain ⟨h1, h2, h3, h4⟩ := all_sv h
  exact ⟨by simp only [PyData.showable, h1], by simp only [PyData.leavesShort, h2], by simp only [PyData.weight]; exact Nat.le_trans h3 (Nat.mul_le_mul_right _ hn), by simp only [PyData.depth]; omega⟩
theorem tuple_sv {w k n : Nat} {xs : List D} (h : ∀ d ∈ xs, SV w k d) (hn : xs.length ≤ n) : SV (n * (w + 1)) (k + 1) (.tuple xs) := by
  obtain ⟨h1, h2, h3, h4⟩ := all_sv h
  exact ⟨by simp only [PyData.showable, h1], by simp only [PyData.leavesShort, h2], by simp only [PyData.weight]; exact Nat.le_trans h3 (Nat.mul_le_mul_right _ hn), by simp only [PyData.depth]; omega⟩
theorem good_of {w k : Nat} {d : D} (h : SV w k d) (hw : w ≤ 1048576) (hk : k ≤ 64) (hs : smallStr d) (hi : ∀ xs, d = .list xs → Items xs) : GoodV d :=
  ⟨h.sh, decide_eq_true (PyData.shown_fits (by decide) (by decide) h.lf (Nat.le_trans h.wt hw)), decide_eq_true (Nat.le_trans h.dp hk), hs, hi⟩
theorem atom_small {d : D} (h : atomG d) : smallStr d ∧ noD d = true ∧ ∀ xs, d ≠ .list xs := by
  rcases h with rfl | ⟨b, rfl⟩ | ⟨i, rfl, _⟩ | ⟨l, rfl, h1, h2⟩
  · exact ⟨trivial, rfl, fun _ e => by cases e⟩
  · exact ⟨trivial, rfl, fun _ e => by cases e⟩
  · exact ⟨trivial, rfl, fun _ e => by cases e⟩
  · refine ⟨?_, rfl, fun _ e => by cases e⟩
    show (mk l).length ≤ 1000
    rw [mk_len]; omega
theorem atom_good {d : D} (h : atomG d) : GoodV d := good_of (atom_sv h) (by decide) (by decide) (atom_small h).1 fun xs e => absurd e ((atom_small h).2.2 xs)
theorem list_good {xs : List D} (h : ∀ d ∈ xs, atomG d) (hn : xs.length ≤ 70) : GoodV (.list xs) :=
  good_of (list_sv (n := 70) (fun d hd => atom_sv (h d hd)) hn) (by decide) (by decide) trivial fun ys e => by
    cases e
    exact ⟨by omega, noDs_all fun d hd => (atom_small (h d hd)).2.1, fun d hd => (atom_small (h d hd)).1⟩
theorem tuple_good {xs : List D} (h : ∀ d ∈ xs, atomG d) (hn : xs.length ≤ 70) : GoodV (.tuple xs) :=
  good_of (tuple_sv (n := 70) (fun d hd => atom_sv (h d hd)) hn) (by decide) (by decide) trivial fun ys e => by cases e
theorem nest_good {xs : List D} (h : ∀ d ∈ xs, SV 2000 3 d) (hn : xs.length ≤ 4) (hd : noDs xs = true) (hs : ∀ d ∈ xs, smallStr d) : GoodV (.list xs) :=
  good_of (list_sv (n := 4) h hn) (by decide) (by decide) trivial fun ys e => by
    cases e
    exact ⟨by omega, hd, hs⟩
theorem dict0_good : GoodV (.dict []) := good_of (w := 0) (k := 1) ⟨by simp [PyData.showable, PyData.showableKv], by simp [PyData.leavesShort, PyData.leavesShortKv], by simp [PyData.weight, PyData.weightKv], by simp [PyData.depth, PyData.depthKv]⟩ (by decide) (by decide) trivial fun ys e => by cases e
theorem dict1_good : GoodV (.dict [(St "a", .int 1)]) := by
  have a := atom_sv (str_atom (x := Str.ofString "a") (by decide))
  have b := atom_sv (d := .int 1) (.inr (.inr (.inl ⟨_, rfl, by decide, by decide⟩)))
  refine good_of (w := 700) (k := 1) ⟨?_, ?_, ?_, ?_⟩ (by decide) (by decide) trivial fun ys e => by cases e
  · simp only [PyData.showable, PyData.showableKv]
    have := b.sh
    simp only [PyData.showable] at this
    rw [this]; rfl
  · simp only [PyData.leavesShort, PyData.leavesShortKv]
    have h1 := a.lf
    have h2 := b.lf
    simp only [PyData.leavesShort] at h1 h2
    rw [h1, h2]; rfl
  · have h1 := a.wt
    have h2 := b.wt
    simp only [PyData.weight, PyData.weightKv] at h1 h2 ⊢
    omega
  · have h1 := a.dp
    have h2 := b.dp
    simp only [PyData.depth, PyData.depthKv] at h1 h2 ⊢
    omega
def M1 : List D := [.none, .bool true, .bool false, .int 0, .int 1, .int (-1), .int 100000000000, St "", St "a", St "A", St "ab", St "a b", St "1a", St "a1", St " ", .str ⟨#[97, 10]⟩, .str (rep (Str.ofString "z") 20), .str (rep (Str.ofString "z") 21), St "abcdefgh", St "abcdefghi"]
def M2 : List D := [.list [], .tuple [], .dict [], .list [.int 0], .list [.int 1, .int 0], .list [.int 0, St "a"], .list [St "a", .int 0], .list [.none, .int 0], .list [.int 0, .list [.int 1]], .list [.int 0, .tuple [.int 1]], .list [.bool true], .list [.int 0, .int 1], .list [.int 0, .int 0], .tuple [.int 0, .int 1], .list [St "a"], .list [.list []]]
def M3 : List D := [.dict [(St "a", .int 1)], .list [.int 1, .int 2, .int 100000000000], .list [.int (-1)], St "a_b", St "aB", .str (rep (Str.ofString "a") 200), St "e0", St "0", St "house", .tuple [St "house"]]
def menu : List D := M1 ++ M2 ++ M3
theorem good_M1 : ∀ x ∈ M1, GoodV x := List.forall_mem_cons.mpr ⟨atom_good (.inl rfl), List.forall_mem_cons.mpr ⟨atom_good (.inr (.inl ⟨_, rfl⟩)), List.forall_mem_cons.mpr ⟨atom_good (.inr (.inl ⟨_, rfl⟩)), List.forall_mem_cons.mpr ⟨atom_good (.inr (.inr (.inl ⟨_, rfl, by decide, by decide⟩))), List.forall_mem_cons.mpr ⟨atom_good (.inr (.inr (.inl ⟨_, rfl, by decide, by decide⟩))), List.forall_mem_cons.mpr ⟨atom_good (.inr (.inr (.inl ⟨_, rfl, by decide, by decide⟩))), List.forall_mem_cons.mpr ⟨atom_good (.inr (.inr (.inl ⟨_, rfl, by decide, by decide⟩))), List.forall_mem_cons.mpr ⟨atom_good (str_atom (by decide +kernel)), List.forall_mem_cons.mpr ⟨atom_good (str_atom (by decide +kernel)), List.forall_mem_cons.mpr ⟨atom_good (str_atom (by decide +kernel)), List.forall_mem_cons.mpr ⟨atom_good (str_atom (by decide +kernel)), List.forall_mem_cons.mpr ⟨atom_good (str_atom (by decide +kernel)), List.forall_mem_cons.mpr ⟨atom_good (str_atom (by decide +kernel)), List.forall_mem_cons.mpr ⟨atom_good (str_atom (by decide +kernel)), List.forall_mem_cons.mpr ⟨atom_good (str_atom (by decide +kernel)), List.forall_mem_cons.mpr ⟨atom_good (str_atom (by decide +kernel)), List.forall_mem_cons.mpr ⟨atom_good (str_atom (by decide +kernel)), List.forall_mem_cons.mpr ⟨atom_good (str_atom (by decide +kernel)), List.forall_mem_cons.mpr ⟨atom_good (str_atom (by decide +kernel)), List.forall_mem_cons.mpr ⟨atom_good (str_atom (by decide +kernel)), (fun _ z => absurd z List.not_mem_nil)⟩⟩⟩⟩⟩⟩⟩⟩⟩⟩⟩⟩⟩⟩⟩⟩⟩⟩⟩⟩
theorem good_M2 : ∀ x ∈ M2, GoodV x := List.forall_mem_cons.mpr ⟨list_good ((fun _ z => absurd z List.not_mem_nil)) (by decide), List.forall_mem_cons.mpr ⟨tuple_good ((fun _ z => absurd z List.not_mem_nil)) (by decide), List.forall_mem_cons.mpr ⟨dict0_good, List.forall_mem_cons.mpr ⟨list_good (List.forall_mem_cons.mpr ⟨.inr (.inr (.inl ⟨_, rfl, by decide, by decide⟩)), (fun _ z => absurd z List.not_mem_nil)⟩) (by decide), List.forall_mem_cons.mpr ⟨list_good (List.forall_mem_cons.mpr ⟨.inr (.inr (.inl ⟨_, rfl, by decide, by decide⟩)), List.forall_mem_cons.mpr ⟨.inr (.inr (.inl ⟨_, rfl, by decide, by decide⟩)), (fun _ z => absurd z List.not_mem_nil)⟩⟩) (by decide), List.forall_mem_cons.mpr ⟨list_good (List.forall_mem_cons.mpr ⟨.inr (.inr (.inl ⟨_, rfl, by decide, by decide⟩)), List.forall_mem_cons.mpr ⟨str_atom (by decide +kernel), (fun _ z => absurd z List.not_mem_nil)⟩⟩) (by decide), List.forall_mem_cons.mpr ⟨list_good (List.forall_mem_cons.mpr ⟨str_atom (by decide +kernel), List.forall_mem_cons.mpr ⟨.inr (.inr (.inl ⟨_, rfl, by decide, by decide⟩)), (fun _ z => absurd z List.not_mem_nil)⟩⟩) (by decide), List.forall_mem_cons.mpr ⟨list_good (List.forall_mem_cons.mpr ⟨.inl rfl, List.forall_mem_cons.mpr ⟨.inr (.inr (.inl ⟨_, rfl, by decide, by decide⟩)), (fun _ z => absurd z List.not_mem_nil)⟩⟩) (by decide), List.forall_mem_cons.mpr ⟨nest_good (List.forall_mem_cons.mpr ⟨(atom_sv (.inr (.inr (.inl ⟨_, rfl, by decide, by decide⟩)))).mono (by decide) (by decide), List.forall_mem_cons.mpr ⟨(list_sv (w := 300) (k := 0) (n := 4) (List.forall_mem_cons.mpr ⟨atom_sv (.inr (.inr (.inl ⟨_, rfl, by decide, by decide⟩))), (fun _ z => absurd z List.not_mem_nil)⟩) (by decide)).mono (by decide) (by decide), (fun _ z => absurd z List.not_mem_nil)⟩⟩) (by decide) (by decide) (List.forall_mem_cons.mpr ⟨(atom_good (.inr (.inr (.inl ⟨_, rfl, by decide, by decide⟩)))).sm, List.forall_mem_cons.mpr ⟨trivial, (fun _ z => absurd z List.not_mem_nil)⟩⟩), List.forall_mem_cons.mpr ⟨nest_good (List.forall_mem_cons.mpr ⟨(atom_sv (.inr (.inr (.inl ⟨_, rfl, by decide, by decide⟩)))).mono (by decide) (by decide), List.forall_mem_cons.mpr ⟨(tuple_sv (w := 300) (k := 0) (n := 4) (List.forall_mem_cons.mpr ⟨atom_sv (.inr (.inr (.inl ⟨_, rfl, by decide, by decide⟩))), (fun _ z => absurd z List.not_mem_nil)⟩) (by decide)).mono (by decide) (by decide), (fun _ z => absurd z List.not_mem_nil)⟩⟩) (by decide) (by decide) (List.forall_mem_cons.mpr ⟨(atom_good (.inr (.inr (.inl ⟨_, rfl, by decide, by decide⟩)))).sm, List.forall_mem_cons.mpr ⟨trivial, (fun _ z => absurd z List.not_mem_nil)⟩⟩), List.forall_mem_cons.mpr ⟨list_good (List.forall_mem_cons.mpr ⟨.inr (.inl ⟨_, rfl⟩), (fun _ z => absurd z List.not_mem_nil)⟩) (by decide), List.forall_mem_cons.mpr ⟨list_good (List.forall_mem_cons.mpr ⟨.inr (.inr (.inl ⟨_, rfl, by decide, by decide⟩)), List.forall_mem_cons.mpr ⟨.inr (.inr (.inl ⟨_, rfl, by decide, by decide⟩)), (fun _ z => absurd z List.not_mem_nil)⟩⟩) (by decide), List.forall_mem_cons.mpr ⟨list_good (List.forall_mem_cons.mpr ⟨.inr (.inr (.inl ⟨_, rfl, by decide, by decide⟩)), List.forall_mem_cons.mpr ⟨.inr (.inr (.inl ⟨_, rfl, by decide, by decide⟩)), (fun _ z => absurd z List.not_mem_nil)⟩⟩) (by decide), List.forall_mem_cons.mpr ⟨tuple_good (List.forall_mem_cons.mpr ⟨.inr (.inr (.inl ⟨_, rfl, by decide, by decide⟩)), List.forall_mem_cons.mpr ⟨.inr (.inr (.inl ⟨_, rfl, by decide, by decide⟩)), (fun _ z => absurd z List.not_mem_nil)⟩⟩) (by decide), List.forall_mem_cons.mpr ⟨list_good (List.forall_mem_cons.mpr ⟨str_atom (by decide +kernel), (fun _ z => absurd z List.not_mem_nil)⟩) (by decide), List.forall_mem_cons.mpr ⟨nest_good (List.forall_mem_cons.mpr ⟨(list_sv (w := 300) (k := 0) (n := 4) ((fun _ z => absurd z List.not_mem_nil)) (by decide)).mono (by decide) (by decide), (fun _ z => absurd z List.not_mem_nil)⟩) (by decide) (by decide) (List.forall_mem_cons.mpr ⟨trivial, (fun _ z => absurd z List.not_mem_nil)⟩), (fun _ z => absurd z List.not_mem_nil)⟩⟩⟩⟩⟩⟩⟩⟩⟩⟩⟩⟩⟩⟩⟩⟩
theorem good_M3 : ∀ x ∈ M3, GoodV x := List.forall_mem_cons.mpr ⟨dict1_good, List.forall_mem_cons.mpr ⟨list_good (List.forall_mem_cons.mpr ⟨.inr (.inr (.inl ⟨_, rfl, by decide, by decide⟩)), List.forall_mem_cons.mpr ⟨.inr (.inr (.inl ⟨_, rfl, by decide, by decide⟩)), List.forall_mem_cons.mpr ⟨.inr (.inr (.inl ⟨_, rfl, by decide, by decide⟩)), (fun _ z => absurd z List.not_mem_nil)⟩⟩⟩) (by decide), List.forall_mem_cons.mpr ⟨list_good (List.forall_mem_cons.mpr ⟨.inr (.inr (.inl ⟨_, rfl, by decide, by decide⟩)), (fun _ z => absurd z List.not_mem_nil)⟩) (by decide), List.forall_mem_cons.mpr ⟨atom_good (str_atom (by decide +kernel)), List.forall_mem_cons.mpr ⟨atom_good (str_atom (by decide +kernel)), List.forall_mem_cons.mpr ⟨atom_good (str_atom (by decide +kernel)), List.forall_mem_cons.mpr ⟨atom_good (str_atom (by decide +kernel)), List.forall_mem_cons.mpr ⟨atom_good (str_atom (by decide +kernel)), List.forall_mem_cons.mpr ⟨atom_good (str_atom (by decide +kernel)), List.forall_mem_cons.mpr ⟨tuple_good (List.forall_mem_cons.mpr ⟨str_atom (by decide +kernel), (fun _ z => absurd z List.not_mem_nil)⟩) (by decide), (fun _ z => absurd z List.not_mem_nil)⟩⟩⟩⟩⟩⟩⟩⟩⟩⟩
/-! copies -/
theorem copied_atom (n : Nat) {d : D} (h : atomG d) : runBody (GG n) [false] 4 fuel c__law_copied [d] = .ok (d, .sh, []) := by
  rcases h with rfl | ⟨b, rfl⟩ | ⟨i, rfl, _⟩ | ⟨l, rfl, h1, h2⟩
  all_goals (unfold runBody; simp only [c__law_copied, startS, evSs, evS]; simp [ev_lit, ev_var, ev_mv, ev_op, ev_and, ev_or, ev_not, ev_ite, ev_chain, evL_nil, evL_pk, evL_pt, evT_nil, evT_cons, src_pt, src_sq, bind_ok, optR_some, noExc_ok, getS, setS, bound, peek, evL_lit, evA_lit, evL_var, evA_var, evL_mv, evA_mv, evL_con, evA_con, evL_op, evA_op, evL_and, evA_and, evL_or, evA_or, evL_not, evA_not, evL_ite, evA_ite, evL_chain, evA_chain, evL_call, evA_call, evL_lc, evA_lc, evL_mut, evA_mut, evA_nil, evA_io, imm, immL, immKids, topK, scalarP, truth, prim, okA, okN, okP, okT, okB, isType, seqOf, walkR, List.getElem?_cons_zero, List.getElem?_cons_succ, Option.getD_some, Option.bind_some, Option.bind_none, Option.map_some, isNoneD, isBoolD, outsOf])
def CopyOk (n : Nat) (d : D) : Prop := ∃ k, runBody (GG n) [false] 4 fuel c__law_copied [d] = .ok (d, k, []) ∧ (k == .io) = false
theorem CopyOk.atom (n : Nat) {d : D} (h : atomG d) : CopyOk n d := ⟨.sh, copied_atom n h, rfl⟩
theorem copied_lc (n : Nat) {xs : List D} {D0 : D} (hD : seqOf D0 = some xs) (hlen : xs.length ≤ 1000) (h : ∀ x ∈ xs, CopyOk n x) : ∃ b, evE (GG (n + 1)) (.lc (.pt 0) (.nm 2) [1, 2] [] (.call "_law_copied" [(.var 2)] [0])) [.vl .sh D0, .un, .un, .un] = .ok (.list xs, mkK b (.list xs), [.vl .sh D0, .un, .un, .un]) := by
  let I : List D → List D × Bool → Ev → Prop := fun rest acc ρ => ρ = [.un, .un, .un, .un] ∧ xs = acc.1 ++ rest
  have step : ∀ x rest acc ρ, I (x :: rest) acc ρ → ∃ acc' ρ', lcF (fun x ρ => bindT (.nm 2) x .sh ρ) (fun ρ => evT (GG (n + 1)) [] ρ) (fun ρ => evE (GG (n + 1)) (.call "_law_copied" [(.var 2)] [0]) ρ) [0, 1, 2] x acc ρ = .ok (acc', ρ') ∧ I rest acc' ρ' := by
    rintro x rest ⟨acc, ab⟩ ρ ⟨rfl, hx⟩
    have hx : xs = acc ++ x :: rest := hx
    obtain ⟨k, ek, hk⟩ := h x (by rw [hx]; simp)
    have eC : evE (GG (n + 1)) (.call "_law_copied" [(.var 2)] [0]) [.un, .un, .vl .sh x, .un] = .ok (x, k, [.un, .un, .vl .sh x, .un]) := by
      refine ev_call (ds := [x]) (ρ1 := [.un, .un, .vl .sh x, .un]) (os := []) ?_ (fn_copied n) rfl ek hk rfl
      simp [ev_lit, ev_var, ev_mv, ev_op, ev_and, ev_or, ev_not, ev_ite, ev_chain, evL_nil, evL_pk, evL_pt, evT_nil, evT_cons, src_pt, src_sq, bind_ok, optR_some, noExc_ok, getS, setS, bound, peek, evL_lit, evA_lit, evL_var, evA_var, evL_mv, evA_mv, evL_con, evA_con, evL_op, evA_op, evL_and, evA_and, evL_or, evA_or, evL_not, evA_not, evL_ite, evA_ite, evL_chain, evA_chain, evL_call, evA_call, evL_lc, evA_lc, evL_mut, evA_mut, evA_nil, evA_io, imm, immL, immKids, topK, scalarP, truth, prim, okA, okN, okP, okT, okB, isType, seqOf, walkR, List.getElem?_cons_zero, List.getElem?_cons_succ, Option.getD_some, Option.bind_some, Option.bind_none, Option.map_some, isNoneD, isBoolD]
    exact ⟨_, _, lcF_yes (ρa := [.un, .un, .vl .sh x, .un]) (ρb := [.un, .un, .vl .sh x, .un]) rfl evT_nil eC, rfl, by show xs = (acc ++ [x]) ++ rest; rw [hx]; simp⟩
  obtain ⟨⟨acc, b⟩, ρ', eL, rfl, hx⟩ := loop_ind step xs ([], true) [.un, .un, .un, .un] ⟨rfl, rfl⟩
  have hx : xs = acc ++ [] := hx
  rw [List.append_nil] at hx
  subst hx
  refine ⟨b, ?_⟩
  have hs : evSrc (GG (n + 1)) (.pt 0) [.vl .sh D0, .un, .un, .un] = .ok (xs, [.vl .sh D0, .un, .un, .un]) := by
    rw [src_pt]
    show walkR (seqOf D0) _ = _
    rw [hD]; rfl
  rw [ev_lc (ρ1 := [.vl .sh D0, .un, .un, .un]) (xs := xs) hs rfl eL (line_ok (by omega))]
  rfl
theorem mkK_io {b : Bool} {d : D} : (mkK b d == .io) = false := by unfold mkK; split <;> rfl
theorem CopyOk.list {n : Nat} {xs : List D} (h : ∀ x ∈ xs, CopyOk n x) (hlen : xs.length ≤ 1000) : CopyOk (n + 1) (.list xs) := by
  obtain ⟨b, e⟩ := copied_lc n (D0 := .list xs) rfl hlen h
  refine ⟨mkK b (.list xs), ?_, mkK_io⟩
  unfold runBody
  simp only [c__law_copied, startS, evSs, evS]
  generalize mkK b (.list xs) = kk at e
  simp [ev_lit, ev_var, ev_mv, ev_op, ev_and, ev_or, ev_not, ev_ite, ev_chain, evL_nil, evL_pk, evL_pt, evT_nil, evT_cons, src_pt, src_sq, bind_ok, optR_some, noExc_ok, getS, setS, bound, peek, evL_lit, evA_lit, evL_var, evA_var, evL_mv, evA_mv, evL_con, evA_con, evL_op, evA_op, evL_and, evA_and, evL_or, evA_or, evL_not, evA_not, evL_ite, evA_ite, evL_chain, evA_chain, evL_call, evA_call, evL_lc, evA_lc, evL_mut, evA_mut, evA_nil, evA_io, imm, immL, immKids, topK, scalarP, truth, prim, okA, okN, okP, okT, okB, isType, seqOf, walkR, List.getElem?_cons_zero, List.getElem?_cons_succ, Option.getD_some, Option.bind_some, Option.bind_none, Option.map_some, isNoneD, isBoolD, outsOf, e]
theorem CopyOk.tuple {n : Nat} {xs : List D} (h : ∀ x ∈ xs, CopyOk n x) (hlen : xs.length ≤ 1000) : CopyOk (n + 1) (.tuple xs) := by
  obtain ⟨b, e⟩ := copied_lc n (D0 := .tuple xs) rfl hlen h
  refine ⟨if immL xs then .fr else .sh, ?_, by split <;> rfl⟩
  have hk : (mkK b (.list xs) == .io) = false := mkK_io
  unfold runBody
  simp only [c__law_copied, startS, evSs, evS]
  generalize mkK b (.list xs) = kk at e hk
  have hk2 : (kk != Own.io) = true := by simpa [bne] using hk
  cases hi : immL xs <;> simp [ev_lit, ev_var, ev_mv, ev_op, ev_and, ev_or, ev_not, ev_ite, ev_chain, evL_nil, evL_pk, evL_pt, evT_nil, evT_cons, src_pt, src_sq, bind_ok, optR_some, noExc_ok, getS, setS, bound, peek, evL_lit, evA_lit, evL_var, evA_var, evL_mv, evA_mv, evL_con, evA_con, evL_op, evA_op, evL_and, evA_and, evL_or, evA_or, evL_not, evA_not, evL_ite, evA_ite, evL_chain, evA_chain, evL_call, evA_call, evL_lc, evA_lc, evL_mut, evA_mut, evA_nil, evA_io, imm, immL, immKids, topK, scalarP, truth, prim, okA, okN, okP, okT, okB, isType, seqOf, walkR, List.getElem?_cons_zero, List.getElem?_cons_succ, Option.getD_some, Option.bind_some, Option.bind_none, Option.map_some, isNoneD, isBoolD, outsOf, e, tupleD, hk2, hi]
theorem menu_good : ∀ x ∈ menu, GoodV x := fun x hx => by
  rcases List.mem_append.mp hx with hx | hx
  · rcases List.mem_append.mp hx with hx | hx
    · exact good_M1 x hx
    · exact good_M2 x hx
  · exact good_M3 x hx
end TH.Lk01
end
section
set_option Elab.async false
set_option linter.all false
set_option maxRecDepth 100000
namespace TH.Lk01
open PySem PySem.Spec PyProof.Rows L2
theorem copy_dict0 (n : Nat) : CopyOk (n + 1) (.dict []) := by
  have e : evE (GG (n + 1)) (.lc (.var 0) (.nm 3) [1, 3] [] (.op .tup [(.var 3), (.call "_law_copied" [(.op .idx [(.pt 0), (.pt 3)])] [0])])) [.vl .sh (.dict []), .un, .un, .un] = .ok (.list [], .fr, [.vl .sh (.dict []), .un, .un, .un]) := by
    rw [ev_lc (ρ1 := [.vl .sh (.dict []), .un, .un, .un]) (xs := []) (l := []) (b := true) (ρ2 := [.vl .sh (.dict []), .un, .un, .un]) (by rw [src_v rfl]; simp [ev_lit, ev_var, ev_mv, ev_op, ev_and, ev_or, ev_not, ev_ite, ev_chain, evL_nil, evL_pk, evL_pt, evT_nil, evT_cons, src_pt, src_sq, bind_ok, optR_some, noExc_ok, getS, setS, bound, peek, evL_lit, evA_lit, evL_var, evA_var, evL_mv, evA_mv, evL_con, evA_con, evL_op, evA_op, evL_and, evA_and, evL_or, evA_or, evL_not, evA_not, evL_ite, evA_ite, evL_chain, evA_chain, evL_call, evA_call, evL_lc, evA_lc, evL_mut, evA_mut, evA_nil, evA_io, imm, immL, immKids, topK, scalarP, truth, prim, okA, okN, okP, okT, okB, isType, seqOf, walkR, List.getElem?_cons_zero, List.getElem?_cons_succ, Option.getD_some, Option.bind_some, Option.bind_none, Option.map_some, isNoneD, isBoolD]) rfl rfl (line_ok (by decide))]
    rfl
  have ed : dictD (.list []) = some (.dict [], .fr) := rfl
  refine ⟨.fr, ?_, rfl⟩
  unfold runBody
  simp only [c__law_copied, startS, evSs, evS]
  simp [ev_lit, ev_var, ev_mv, ev_op, ev_and, ev_or, ev_not, ev_ite, ev_chain, evL_nil, evL_pk, evL_pt, evT_nil, evT_cons, src_pt, src_sq, bind_ok, optR_some, noExc_ok, getS, setS, bound, peek, evL_lit, evA_lit, evL_var, evA_var, evL_mv, evA_mv, evL_con, evA_con, evL_op, evA_op, evL_and, evA_and, evL_or, evA_or, evL_not, evA_not, evL_ite, evA_ite, evL_chain, evA_chain, evL_call, evA_call, evL_lc, evA_lc, evL_mut, evA_mut, evA_nil, evA_io, imm, immL, immKids, topK, scalarP, truth, prim, okA, okN, okP, okT, okB, isType, seqOf, walkR, List.getElem?_cons_zero, List.getElem?_cons_succ, Option.getD_some, Option.bind_some, Option.bind_none, Option.map_some, isNoneD, isBoolD, outsOf, e, ed]
theorem copy_dict1 (n : Nat) : CopyOk (n + 1) (.dict [(St "a", .int 1)]) := by
  let DD : D := .dict [(St "a", .int 1)]
  have hidx : idxD (.dict [(St "a", .int 1)]) (St "a") = some (.int 1, .sh) := rfl
  have eC : evE (GG (n + 1)) (.call "_law_copied" [(.op .idx [(.pt 0), (.pt 3)])] [0]) [.vl .sh DD, .un, .un, .vl .sh (St "a")] = .ok (.int 1, .sh, [.vl .sh DD, .un, .un, .vl .sh (St "a")]) := by
    refine ev_call (ds := [.int 1]) (ρ1 := [.vl .sh DD, .un, .un, .vl .sh (St "a")]) (os := []) ?_ (fn_copied n) rfl (copied_atom n (.inr (.inr (.inl ⟨1, rfl, by decide, by decide⟩)))) rfl rfl
    simp [ev_lit, ev_var, ev_mv, ev_op, ev_and, ev_or, ev_not, ev_ite, ev_chain, evL_nil, evL_pk, evL_pt, evT_nil, evT_cons, src_pt, src_sq, bind_ok, optR_some, noExc_ok, getS, setS, bound, peek, evL_lit, evA_lit, evL_var, evA_var, evL_mv, evA_mv, evL_con, evA_con, evL_op, evA_op, evL_and, evA_and, evL_or, evA_or, evL_not, evA_not, evL_ite, evA_ite, evL_chain, evA_chain, evL_call, evA_call, evL_lc, evA_lc, evL_mut, evA_mut, evA_nil, evA_io, imm, immL, immKids, topK, scalarP, truth, prim, okA, okN, okP, okT, okB, isType, seqOf, walkR, List.getElem?_cons_zero, List.getElem?_cons_succ, Option.getD_some, Option.bind_some, Option.bind_none, Option.map_some, isNoneD, isBoolD, hidx, DD]
  have l2 : line 2 = true := by decide
  have eT : evE (GG (n + 1)) (.op .tup [(.var 3), (.call "_law_copied" [(.op .idx [(.pt 0), (.pt 3)])] [0])]) [.vl .sh DD, .un, .un, .vl .sh (St "a")] = .ok (.tuple [St "a", .int 1], .sh, [.vl .sh DD, .un, .un, .vl .sh (St "a")]) := by
    simp [ev_lit, ev_var, ev_mv, ev_op, ev_and, ev_or, ev_not, ev_ite, ev_chain, evL_nil, evL_pk, evL_pt, evT_nil, evT_cons, src_pt, src_sq, bind_ok, optR_some, noExc_ok, getS, setS, bound, peek, evL_lit, evA_lit, evL_var, evA_var, evL_mv, evA_mv, evL_con, evA_con, evL_op, evA_op, evL_and, evA_and, evL_or, evA_or, evL_not, evA_not, evL_ite, evA_ite, evL_chain, evA_chain, evL_call, evA_call, evL_lc, evA_lc, evL_mut, evA_mut, evA_nil, evA_io, imm, immL, immKids, topK, scalarP, truth, prim, okA, okN, okP, okT, okB, isType, seqOf, walkR, List.getElem?_cons_zero, List.getElem?_cons_succ, Option.getD_some, Option.bind_some, Option.bind_none, Option.map_some, isNoneD, isBoolD, eC, l2]
  have eL : loop (lcF (fun x ρ => bindT (.nm 3) x .sh ρ) (fun ρ => evT (GG (n + 1)) [] ρ) (fun ρ => evE (GG (n + 1)) (.op .tup [(.var 3), (.call "_law_copied" [(.op .idx [(.pt 0), (.pt 3)])] [0])]) ρ) [1, 3]) [St "a"] ([], true) [.vl .sh DD, .un, .un, .un] = .ok (([.tuple [St "a", .int 1]], true), [.vl .sh DD, .un, .un, .un]) := by
    rw [loop, lcF_yes (ρa := [.vl .sh DD, .un, .un, .vl .sh (St "a")]) (ρb := [.vl .sh DD, .un, .un, .vl .sh (St "a")]) rfl evT_nil eT, bind_ok]
    rfl
  have e : evE (GG (n + 1)) (.lc (.var 0) (.nm 3) [1, 3] [] (.op .tup [(.var 3), (.call "_law_copied" [(.op .idx [(.pt 0), (.pt 3)])] [0])])) [.vl .sh DD, .un, .un, .un] = .ok (.list [.tuple [St "a", .int 1]], .fr, [.vl .sh DD, .un, .un, .un]) := by
    rw [ev_lc (ρ1 := [.vl .sh DD, .un, .un, .un]) (xs := [St "a"]) (by rw [src_v rfl]; simp [ev_lit, ev_var, ev_mv, ev_op, ev_and, ev_or, ev_not, ev_ite, ev_chain, evL_nil, evL_pk, evL_pt, evT_nil, evT_cons, src_pt, src_sq, bind_ok, optR_some, noExc_ok, getS, setS, bound, peek, evL_lit, evA_lit, evL_var, evA_var, evL_mv, evA_mv, evL_con, evA_con, evL_op, evA_op, evL_and, evA_and, evL_or, evA_or, evL_not, evA_not, evL_ite, evA_ite, evL_chain, evA_chain, evL_call, evA_call, evL_lc, evA_lc, evL_mut, evA_mut, evA_nil, evA_io, imm, immL, immKids, topK, scalarP, truth, prim, okA, okN, okP, okT, okB, isType, seqOf, walkR, List.getElem?_cons_zero, List.getElem?_cons_succ, Option.getD_some, Option.bind_some, Option.bind_none, Option.map_some, isNoneD, isBoolD, DD]) rfl eL (line_ok (by decide))]
    rfl
  have ed : dictD (.list [.tuple [St "a", .int 1]]) = some (.dict [(St "a", .int 1)], .fr) := rfl
  refine ⟨.fr, ?_, rfl⟩
  unfold runBody
  simp only [DD] at e
  simp only [c__law_copied, startS, evSs, evS]
  simp [ev_lit, ev_var, ev_mv, ev_op, ev_and, ev_or, ev_not, ev_ite, ev_chain, evL_nil, evL_pk, evL_pt, evT_nil, evT_cons, src_pt, src_sq, bind_ok, optR_some, noExc_ok, getS, setS, bound, peek, evL_lit, evA_lit, evL_var, evA_var, evL_mv, evA_mv, evL_con, evA_con, evL_op, evA_op, evL_and, evA_and, evL_or, evA_or, evL_not, evA_not, evL_ite, evA_ite, evL_chain, evA_chain, evL_call, evA_call, evL_lc, evA_lc, evL_mut, evA_mut, evA_nil, evA_io, imm, immL, immKids, topK, scalarP, truth, prim, okA, okN, okP, okT, okB, isType, seqOf, walkR, List.getElem?_cons_zero, List.getElem?_cons_succ, Option.getD_some, Option.bind_some, Option.bind_none, Option.map_some, isNoneD, isBoolD, outsOf, e, ed]
theorem copy_M1 (n : Nat) : ∀ x ∈ M1, CopyOk (n + 2) x := List.forall_mem_cons.mpr ⟨CopyOk.atom _ (.inl rfl), List.forall_mem_cons.mpr ⟨CopyOk.atom _ (.inr (.inl ⟨_, rfl⟩)), List.forall_mem_cons.mpr ⟨CopyOk.atom _ (.inr (.inl ⟨_, rfl⟩)), List.forall_mem_cons.mpr ⟨CopyOk.atom _ (.inr (.inr (.inl ⟨_, rfl, by decide, by decide⟩))), List.forall_mem_cons.mpr ⟨CopyOk.atom _ (.inr (.inr (.inl ⟨_, rfl, by decide, by decide⟩))), List.forall_mem_cons.mpr ⟨CopyOk.atom _ (.inr (.inr (.inl ⟨_, rfl, by decide, by decide⟩))), List.forall_mem_cons.mpr ⟨CopyOk.atom _ (.inr (.inr (.inl ⟨_, rfl, by decide, by decide⟩))), List.forall_mem_cons.mpr ⟨CopyOk.atom _ (str_atom (by decide +kernel)), List.forall_mem_cons.mpr ⟨CopyOk.atom _ (str_atom (by decide +kernel)), List.forall_mem_cons.mpr ⟨CopyOk.atom _ (str_atom (by decide +kernel)), List.forall_mem_cons.mpr ⟨CopyOk.atom _ (str_atom (by decide +kernel)), List.forall_mem_cons.mpr ⟨CopyOk.atom _ (str_atom (by decide +kernel)), List.forall_mem_cons.mpr ⟨CopyOk.atom _ (str_atom (by decide +kernel)), List.forall_mem_cons.mpr ⟨CopyOk.atom _ (str_atom (by decide +kernel)), List.forall_mem_cons.mpr ⟨CopyOk.atom _ (str_atom (by decide +kernel)), List.forall_mem_cons.mpr ⟨CopyOk.atom _ (str_atom (by decide +kernel)), List.forall_mem_cons.mpr ⟨CopyOk.atom _ (str_atom (by decide +kernel)), List.forall_mem_cons.mpr ⟨CopyOk.atom _ (str_atom (by decide +kernel)), List.forall_mem_cons.mpr ⟨CopyOk.atom _ (str_atom (by decide +kernel)), List.forall_mem_cons.mpr ⟨CopyOk.atom _ (str_atom (by decide +kernel)), (fun _ z => absurd z List.not_mem_nil)⟩⟩⟩⟩⟩⟩⟩⟩⟩⟩⟩⟩⟩⟩⟩⟩⟩⟩⟩⟩
theorem copy_M2 (n : Nat) : ∀ x ∈ M2, CopyOk (n + 2) x := List.forall_mem_cons.mpr ⟨CopyOk.list ((fun _ z => absurd z List.not_mem_nil)) (by decide), List.forall_mem_cons.mpr ⟨CopyOk.tuple ((fun _ z => absurd z List.not_mem_nil)) (by decide), List.forall_mem_cons.mpr ⟨copy_dict0 _, List.forall_mem_cons.mpr ⟨CopyOk.list (List.forall_mem_cons.mpr ⟨CopyOk.atom _ (.inr (.inr (.inl ⟨_, rfl, by decide, by decide⟩))), (fun _ z => absurd z List.not_mem_nil)⟩) (by decide), List.forall_mem_cons.mpr ⟨CopyOk.list (List.forall_mem_cons.mpr ⟨CopyOk.atom _ (.inr (.inr (.inl ⟨_, rfl, by decide, by decide⟩))), List.forall_mem_cons.mpr ⟨CopyOk.atom _ (.inr (.inr (.inl ⟨_, rfl, by decide, by decide⟩))), (fun _ z => absurd z List.not_mem_nil)⟩⟩) (by decide), List.forall_mem_cons.mpr ⟨CopyOk.list (List.forall_mem_cons.mpr ⟨CopyOk.atom _ (.inr (.inr (.inl ⟨_, rfl, by decide, by decide⟩))), List.forall_mem_cons.mpr ⟨CopyOk.atom _ (str_atom (by decide +kernel)), (fun _ z => absurd z List.not_mem_nil)⟩⟩) (by decide), List.forall_mem_cons.mpr ⟨CopyOk.list (List.forall_mem_cons.mpr ⟨CopyOk.atom _ (str_atom (by decide +kernel)), List.forall_mem_cons.mpr ⟨CopyOk.atom _ (.inr (.inr (.inl ⟨_, rfl, by decide, by decide⟩))), (fun _ z => absurd z List.not_mem_nil)⟩⟩) (by decide), List.forall_mem_cons.mpr ⟨CopyOk.list (List.forall_mem_cons.mpr ⟨CopyOk.atom _ (.inl rfl), List.forall_mem_cons.mpr ⟨CopyOk.atom _ (.inr (.inr (.inl ⟨_, rfl, by decide, by decide⟩))), (fun _ z => absurd z List.not_mem_nil)⟩⟩) (by decide), List.forall_mem_cons.mpr ⟨CopyOk.list (List.forall_mem_cons.mpr ⟨CopyOk.atom _ (.inr (.inr (.inl ⟨_, rfl, by decide, by decide⟩))), List.forall_mem_cons.mpr ⟨CopyOk.list (List.forall_mem_cons.mpr ⟨CopyOk.atom _ (.inr (.inr (.inl ⟨_, rfl, by decide, by decide⟩))), (fun _ z => absurd z List.not_mem_nil)⟩) (by decide), (fun _ z => absurd z List.not_mem_nil)⟩⟩) (by decide), List.forall_mem_cons.mpr ⟨CopyOk.list (List.forall_mem_cons.mpr ⟨CopyOk.atom _ (.inr (.inr (.inl ⟨_, rfl, by decide, by decide⟩))), List.forall_mem_cons.mpr ⟨CopyOk.tuple (List.forall_mem_cons.mpr ⟨CopyOk.atom _ (.inr (.inr (.inl ⟨_, rfl, by decide, by decide⟩))), (fun _ z => absurd z List.not_mem_nil)⟩) (by decide), (fun _ z => absurd z List.not_mem_nil)⟩⟩) (by decide), List.forall_mem_cons.mpr ⟨CopyOk.list (List.forall_mem_cons.mpr ⟨CopyOk.atom _ (.inr (.inl ⟨_, rfl⟩)), (fun _ z => absurd z List.not_mem_nil)⟩) (by decide), List.forall_mem_cons.mpr ⟨CopyOk.list (List.forall_mem_cons.mpr ⟨CopyOk.atom _ (.inr (.inr (.inl ⟨_, rfl, by decide, by decide⟩))), List.forall_mem_cons.mpr ⟨CopyOk.atom _ (.inr (.inr (.inl ⟨_, rfl, by decide, by decide⟩))), (fun _ z => absurd z List.not_mem_nil)⟩⟩) (by decide), List.forall_mem_cons.mpr ⟨CopyOk.list (List.forall_mem_cons.mpr ⟨CopyOk.atom _ (.inr (.inr (.inl ⟨_, rfl, by decide, by decide⟩))), List.forall_mem_cons.mpr ⟨CopyOk.atom _ (.inr (.inr (.inl ⟨_, rfl, by decide, by decide⟩))), (fun _ z => absurd z List.not_mem_nil)⟩⟩) (by decide), List.forall_mem_cons.mpr ⟨CopyOk.tuple (List.forall_mem_cons.mpr ⟨CopyOk.atom _ (.inr (.inr (.inl ⟨_, rfl, by decide, by decide⟩))), List.forall_mem_cons.mpr ⟨CopyOk.atom _ (.inr (.inr (.inl ⟨_, rfl, by decide, by decide⟩))), (fun _ z => absurd z List.not_mem_nil)⟩⟩) (by decide), List.forall_mem_cons.mpr ⟨CopyOk.list (List.forall_mem_cons.mpr ⟨CopyOk.atom _ (str_atom (by decide +kernel)), (fun _ z => absurd z List.not_mem_nil)⟩) (by decide), List.forall_mem_cons.mpr ⟨CopyOk.list (List.forall_mem_cons.mpr ⟨CopyOk.list ((fun _ z => absurd z List.not_mem_nil)) (by decide), (fun _ z => absurd z List.not_mem_nil)⟩) (by decide), (fun _ z => absurd z List.not_mem_nil)⟩⟩⟩⟩⟩⟩⟩⟩⟩⟩⟩⟩⟩⟩⟩⟩
theorem copy_M3 (n : Nat) : ∀ x ∈ M3, CopyOk (n + 2) x := List.forall_mem_cons.mpr ⟨copy_dict1 _, List.forall_mem_cons.mpr ⟨CopyOk.list (List.forall_mem_cons.mpr ⟨CopyOk.atom _ (.inr (.inr (.inl ⟨_, rfl, by decide, by decide⟩))), List.forall_mem_cons.mpr ⟨CopyOk.atom _ (.inr (.inr (.inl ⟨_, rfl, by decide, by decide⟩))), List.forall_mem_cons.mpr ⟨CopyOk.atom _ (.inr (.inr (.inl ⟨_, rfl, by decide, by decide⟩))), (fun _ z => absurd z List.not_mem_nil)⟩⟩⟩) (by decide), List.forall_mem_cons.mpr ⟨CopyOk.list (List.forall_mem_cons.mpr ⟨CopyOk.atom _ (.inr (.inr (.inl ⟨_, rfl, by decide, by decide⟩))), (fun _ z => absurd z List.not_mem_nil)⟩) (by decide), List.forall_mem_cons.mpr ⟨CopyOk.atom _ (str_atom (by decide +kernel)), List.forall_mem_cons.mpr ⟨CopyOk.atom _ (str_atom (by decide +kernel)), List.forall_mem_cons.mpr ⟨CopyOk.atom _ (str_atom (by decide +kernel)), List.forall_mem_cons.mpr ⟨CopyOk.atom _ (str_atom (by decide +kernel)), List.forall_mem_cons.mpr ⟨CopyOk.atom _ (str_atom (by decide +kernel)), List.forall_mem_cons.mpr ⟨CopyOk.atom _ (str_atom (by decide +kernel)), List.forall_mem_cons.mpr ⟨CopyOk.tuple (List.forall_mem_cons.mpr ⟨CopyOk.atom _ (str_atom (by decide +kernel)), (fun _ z => absurd z List.not_mem_nil)⟩) (by decide), (fun _ z => absurd z List.not_mem_nil)⟩⟩⟩⟩⟩⟩⟩⟩⟩⟩
theorem menu_copy (n : Nat) : ∀ x ∈ menu, CopyOk (n + 2) x := fun x hx => by
  rcases List.mem_append.mp hx with hx | hx
  · rcases List.mem_append.mp hx with hx | hx
    · exact copy_M1 n x hx
    · exact copy_M2 n x hx
  · exact copy_M3 n x hx
theorem any_ok (n : Nat) {m : Int} {g : D} (h : Gen m g) (hm : m ≤ 90000000000) : ∃ (d : D) (k : Own) (g' : D), runBody (GG (n + 7)) [true] 2 fuel c__law_any [g] = .ok (d, k, [g']) ∧ (k == .io) = false ∧ GoodV d ∧ Gen (m + 3) g' := by
  have hb := h.box
  have p11 : powD (.int 10) (.int 11) = some (.int 100000000000, .fr) := rfl
  have z20 : mulD (.str (Str.ofString "z")) (.int 20) = some (.str (rep (Str.ofString "z") 20), .fr) := mulS (k := 20) (by decide) (by decide)
  have z21 : mulD (.str (Str.ofString "z")) (.int 21) = some (.str (rep (Str.ofString "z") 21), .fr) := mulS (k := 21) (by decide) (by decide)
  have a200 : mulD (.str (Str.ofString "a")) (.int 200) = some (.str (rep (Str.ofString "a") 200), .fr) := mulS (k := 200) (by decide) (by decide)
  have l20 : line 20 = true := by decide
  have l16 : line 16 = true := by decide
  have l10 : line 10 = true := by decide
  have l0 : line 0 = true := by decide
  have l1 : line 1 = true := by decide
  have l2 : line 2 = true := by decide
  have l3 : line 3 = true := by decide
  have e1 : evE (GG (n + 7)) (.op .lst [(.lit .none), (.lit (.bool true)), (.lit (.bool false)), (.lit (.int 0)), (.lit (.int 1)), (.op .neg [(.lit (.int 1))]), (.op .pow [(.lit (.int 10)), (.lit (.int 11))]), (.lit (.str "")), (.lit (.str "a")), (.lit (.str "A")), (.lit (.str "ab")), (.lit (.str "a b")), (.lit (.str "1a")), (.lit (.str "a1")), (.lit (.str " ")), (.lit (.str ⟨#[97, 10]⟩)), (.op .mul [(.lit (.str "z")), (.lit (.int 20))]), (.op .mul [(.lit (.str "z")), (.lit (.int 21))]), (.lit (.str "abcdefgh")), (.lit (.str "abcdefghi"))]) [.vl .io g, .un] = .ok (.list M1, .fr, [.vl .io g, .un]) := by
    simp [ev_lit, ev_var, ev_mv, ev_op, ev_and, ev_or, ev_not, ev_ite, ev_chain, evL_nil, evL_pk, evL_pt, evT_nil, evT_cons, src_pt, src_sq, bind_ok, optR_some, noExc_ok, getS, setS, bound, peek, evL_lit, evA_lit, evL_var, evA_var, evL_mv, evA_mv, evL_con, evA_con, evL_op, evA_op, evL_and, evA_and, evL_or, evA_or, evL_not, evA_not, evL_ite, evA_ite, evL_chain, evA_chain, evL_call, evA_call, evL_lc, evA_lc, evL_mut, evA_mut, evA_nil, evA_io, imm, immL, immKids, topK, scalarP, truth, prim, okA, okN, okP, okT, okB, isType, seqOf, walkR, List.getElem?_cons_zero, List.getElem?_cons_succ, Option.getD_some, Option.bind_some, Option.bind_none, Option.map_some, isNoneD, isBoolD, negD, p11, z20, z21, l20, mkK, M1]
  have hi1 : immL M1 = true := by rfl
  have ad1 : addD (.list M1) (.list M2) = some (.list (M1 ++ M2), .top) := by
    have hl : line (M1.length + M2.length) = true := by decide
    show (if line (M1.length + M2.length) then okN (.list (M1 ++ M2)) else none) = _
    rw [hl]; rfl
  have ad2 : addD (.list (M1 ++ M2)) (.list M3) = some (.list menu, .top) := by
    have hl : line ((M1 ++ M2).length + M3.length) = true := by decide
    show (if line ((M1 ++ M2).length + M3.length) then okN (.list (M1 ++ M2 ++ M3)) else none) = _
    rw [hl]; rfl
  have hh : hashable (.str (Str.ofString "a")) = true := by rfl
  have x2 : evE (GG (n + 7)) (.op .lst [(.op .lst []), (.op .tup []), (.op .dct []), (.op .lst [(.lit (.int 0))]), (.op .lst [(.lit (.int 1)), (.lit (.int 0))]), (.op .lst [(.lit (.int 0)), (.lit (.str "a"))]), (.op .lst [(.lit (.str "a")), (.lit (.int 0))]), (.op .lst [(.lit .none), (.lit (.int 0))]), (.op .lst [(.lit (.int 0)), (.op .lst [(.lit (.int 1))])]), (.op .lst [(.lit (.int 0)), (.op .tup [(.lit (.int 1))])]), (.op .lst [(.lit (.bool true))]), (.op .lst [(.lit (.int 0)), (.lit (.int 1))]), (.op .lst [(.lit (.int 0)), (.lit (.int 0))]), (.op .tup [(.lit (.int 0)), (.lit (.int 1))]), (.op .lst [(.lit (.str "a"))]), (.op .lst [(.op .lst [])])]) [.vl .io g, .vl .fr (.list M1)] = .ok (.list M2, .fr, [.vl .io g, .vl .fr (.list M1)]) := by
    simp [ev_lit, ev_var, ev_mv, ev_op, ev_and, ev_or, ev_not, ev_ite, ev_chain, evL_nil, evL_pk, evL_pt, evT_nil, evT_cons, src_pt, src_sq, bind_ok, optR_some, noExc_ok, getS, setS, bound, peek, evL_lit, evA_lit, evL_var, evA_var, evL_mv, evA_mv, evL_con, evA_con, evL_op, evA_op, evL_and, evA_and, evL_or, evA_or, evL_not, evA_not, evL_ite, evA_ite, evL_chain, evA_chain, evL_call, evA_call, evL_lc, evA_lc, evL_mut, evA_mut, evA_nil, evA_io, imm, immL, immKids, topK, scalarP, truth, prim, okA, okN, okP, okT, okB, isType, seqOf, walkR, List.getElem?_cons_zero, List.getElem?_cons_succ, Option.getD_some, Option.bind_some, Option.bind_none, Option.map_some, isNoneD, isBoolD, l0, l1, l2, l3, l16, mkK, M2, dctPairs, dMerge]
  have e2 : evE (GG (n + 7)) (.op .add [(.pt 1), (.op .lst [(.op .lst []), (.op .tup []), (.op .dct []), (.op .lst [(.lit (.int 0))]), (.op .lst [(.lit (.int 1)), (.lit (.int 0))]), (.op .lst [(.lit (.int 0)), (.lit (.str "a"))]), (.op .lst [(.lit (.str "a")), (.lit (.int 0))]), (.op .lst [(.lit .none), (.lit (.int 0))]), (.op .lst [(.lit (.int 0)), (.op .lst [(.lit (.int 1))])]), (.op .lst [(.lit (.int 0)), (.op .tup [(.lit (.int 1))])]), (.op .lst [(.lit (.bool true))]), (.op .lst [(.lit (.int 0)), (.lit (.int 1))]), (.op .lst [(.lit (.int 0)), (.lit (.int 0))]), (.op .tup [(.lit (.int 0)), (.lit (.int 1))]), (.op .lst [(.lit (.str "a"))]), (.op .lst [(.op .lst [])])])]) [.vl .io g, .vl .fr (.list M1)] = .ok (.list (M1 ++ M2), .top, [.vl .io g, .vl .fr (.list M1)]) := by
    have hX : peekOf ((.op .lst [(.op .lst []), (.op .tup []), (.op .dct []), (.op .lst [(.lit (.int 0))]), (.op .lst [(.lit (.int 1)), (.lit (.int 0))]), (.op .lst [(.lit (.int 0)), (.lit (.str "a"))]), (.op .lst [(.lit (.str "a")), (.lit (.int 0))]), (.op .lst [(.lit .none), (.lit (.int 0))]), (.op .lst [(.lit (.int 0)), (.op .lst [(.lit (.int 1))])]), (.op .lst [(.lit (.int 0)), (.op .tup [(.lit (.int 1))])]), (.op .lst [(.lit (.bool true))]), (.op .lst [(.lit (.int 0)), (.lit (.int 1))]), (.op .lst [(.lit (.int 0)), (.lit (.int 0))]), (.op .tup [(.lit (.int 0)), (.lit (.int 1))]), (.op .lst [(.lit (.str "a"))]), (.op .lst [(.op .lst [])])]) : C) = none := rfl
    generalize ((.op .lst [(.op .lst []), (.op .tup []), (.op .dct []), (.op .lst [(.lit (.int 0))]), (.op .lst [(.lit (.int 1)), (.lit (.int 0))]), (.op .lst [(.lit (.int 0)), (.lit (.str "a"))]), (.op .lst [(.lit (.str "a")), (.lit (.int 0))]), (.op .lst [(.lit .none), (.lit (.int 0))]), (.op .lst [(.lit (.int 0)), (.op .lst [(.lit (.int 1))])]), (.op .lst [(.lit (.int 0)), (.op .tup [(.lit (.int 1))])]), (.op .lst [(.lit (.bool true))]), (.op .lst [(.lit (.int 0)), (.lit (.int 1))]), (.op .lst [(.lit (.int 0)), (.lit (.int 0))]), (.op .tup [(.lit (.int 0)), (.lit (.int 1))]), (.op .lst [(.lit (.str "a"))]), (.op .lst [(.op .lst [])])]) : C) = X at x2 hX ⊢
    simp [ev_lit, ev_var, ev_mv, ev_op, ev_and, ev_or, ev_not, ev_ite, ev_chain, evL_nil, evL_pk, evL_pt, evT_nil, evT_cons, src_pt, src_sq, bind_ok, optR_some, noExc_ok, getS, setS, bound, peek, evL_lit, evA_lit, evL_var, evA_var, evL_mv, evA_mv, evL_con, evA_con, evL_op, evA_op, evL_and, evA_and, evL_or, evA_or, evL_not, evA_not, evL_ite, evA_ite, evL_chain, evA_chain, evL_call, evA_call, evL_lc, evA_lc, evL_mut, evA_mut, evA_nil, evA_io, imm, immL, immKids, topK, scalarP, truth, prim, okA, okN, okP, okT, okB, isType, seqOf, walkR, List.getElem?_cons_zero, List.getElem?_cons_succ, Option.getD_some, Option.bind_some, Option.bind_none, Option.map_some, isNoneD, isBoolD, evL_cons hX, x2, hi1, ad1]
  have x3 : evE (GG (n + 7)) (.op .lst [(.op .dct [(.lit (.str "a")), (.lit (.int 1))]), (.op .lst [(.lit (.int 1)), (.lit (.int 2)), (.op .pow [(.lit (.int 10)), (.lit (.int 11))])]), (.op .lst [(.op .neg [(.lit (.int 1))])]), (.lit (.str "a_b")), (.lit (.str "aB")), (.op .mul [(.lit (.str "a")), (.lit (.int 200))]), (.lit (.str "e0")), (.lit (.str "0")), (.lit (.str "house")), (.op .tup [(.lit (.str "house"))])]) [.vl .io g, .vl .top (.list (M1 ++ M2))] = .ok (.list M3, .fr, [.vl .io g, .vl .top (.list (M1 ++ M2))]) := by
    simp [ev_lit, ev_var, ev_mv, ev_op, ev_and, ev_or, ev_not, ev_ite, ev_chain, evL_nil, evL_pk, evL_pt, evT_nil, evT_cons, src_pt, src_sq, bind_ok, optR_some, noExc_ok, getS, setS, bound, peek, evL_lit, evA_lit, evL_var, evA_var, evL_mv, evA_mv, evL_con, evA_con, evL_op, evA_op, evL_and, evA_and, evL_or, evA_or, evL_not, evA_not, evL_ite, evA_ite, evL_chain, evA_chain, evL_call, evA_call, evL_lc, evA_lc, evL_mut, evA_mut, evA_nil, evA_io, imm, immL, immKids, topK, scalarP, truth, prim, okA, okN, okP, okT, okB, isType, seqOf, walkR, List.getElem?_cons_zero, List.getElem?_cons_succ, Option.getD_some, Option.bind_some, Option.bind_none, Option.map_some, isNoneD, isBoolD, negD, p11, a200, l0, l1, l2, l3, l10, mkK, M3, dctPairs, dMerge, hh, dPut, dHas, dGet]
  have e3 : evE (GG (n + 7)) (.op .add [(.pt 1), (.op .lst [(.op .dct [(.lit (.str "a")), (.lit (.int 1))]), (.op .lst [(.lit (.int 1)), (.lit (.int 2)), (.op .pow [(.lit (.int 10)), (.lit (.int 11))])]), (.op .lst [(.op .neg [(.lit (.int 1))])]), (.lit (.str "a_b")), (.lit (.str "aB")), (.op .mul [(.lit (.str "a")), (.lit (.int 200))]), (.lit (.str "e0")), (.lit (.str "0")), (.lit (.str "house")), (.op .tup [(.lit (.str "house"))])])]) [.vl .io g, .vl .top (.list (M1 ++ M2))] = .ok (.list menu, .top, [.vl .io g, .vl .top (.list (M1 ++ M2))]) := by
    have hX : peekOf ((.op .lst [(.op .dct [(.lit (.str "a")), (.lit (.int 1))]), (.op .lst [(.lit (.int 1)), (.lit (.int 2)), (.op .pow [(.lit (.int 10)), (.lit (.int 11))])]), (.op .lst [(.op .neg [(.lit (.int 1))])]), (.lit (.str "a_b")), (.lit (.str "aB")), (.op .mul [(.lit (.str "a")), (.lit (.int 200))]), (.lit (.str "e0")), (.lit (.str "0")), (.lit (.str "house")), (.op .tup [(.lit (.str "house"))])]) : C) = none := rfl
    generalize ((.op .lst [(.op .dct [(.lit (.str "a")), (.lit (.int 1))]), (.op .lst [(.lit (.int 1)), (.lit (.int 2)), (.op .pow [(.lit (.int 10)), (.lit (.int 11))])]), (.op .lst [(.op .neg [(.lit (.int 1))])]), (.lit (.str "a_b")), (.lit (.str "aB")), (.op .mul [(.lit (.str "a")), (.lit (.int 200))]), (.lit (.str "e0")), (.lit (.str "0")), (.lit (.str "house")), (.op .tup [(.lit (.str "house"))])]) : C) = X at x3 hX ⊢
    simp [ev_lit, ev_var, ev_mv, ev_op, ev_and, ev_or, ev_not, ev_ite, ev_chain, evL_nil, evL_pk, evL_pt, evT_nil, evT_cons, src_pt, src_sq, bind_ok, optR_some, noExc_ok, getS, setS, bound, peek, evL_lit, evA_lit, evL_var, evA_var, evL_mv, evA_mv, evL_con, evA_con, evL_op, evA_op, evL_and, evA_and, evL_or, evA_or, evL_not, evA_not, evL_ite, evA_ite, evL_chain, evA_chain, evL_call, evA_call, evL_lc, evA_lc, evL_mut, evA_mut, evA_nil, evA_io, imm, immL, immKids, topK, scalarP, truth, prim, okA, okN, okP, okT, okB, isType, seqOf, walkR, List.getElem?_cons_zero, List.getElem?_cons_succ, Option.getD_some, Option.bind_some, Option.bind_none, Option.map_some, isNoneD, isBoolD, evL_cons hX, x3, ad2]
  obtain ⟨d, g', hd, ep, hg'⟩ := pick_ok (n + 4) (xs := menu) h (by omega) (by decide) (by decide)
  obtain ⟨k, ek, hk⟩ := menu_copy (n + 4) d hd
  have him : imm (.list menu) = false := rfl
  have eP : evE (GG (n + 7)) (.call "_law_pick" [(.io 0), (.var 1)] [0, 1]) [.vl .io g, .vl .top (.list menu)] = .ok (d, .sh, [.vl .io g', .vl .sh (.list menu)]) := by
    refine ev_call (ds := [g, .list menu]) (ρ1 := [.vl .io g, .vl .sh (.list menu)]) (os := [g']) ?_ (fn_pick (n + 6)) rfl ep rfl rfl
    simp [ev_lit, ev_var, ev_mv, ev_op, ev_and, ev_or, ev_not, ev_ite, ev_chain, evL_nil, evL_pk, evL_pt, evT_nil, evT_cons, src_pt, src_sq, bind_ok, optR_some, noExc_ok, getS, setS, bound, peek, evL_lit, evA_lit, evL_var, evA_var, evL_mv, evA_mv, evL_con, evA_con, evL_op, evA_op, evL_and, evA_and, evL_or, evA_or, evL_not, evA_not, evL_ite, evA_ite, evL_chain, evA_chain, evL_call, evA_call, evL_lc, evA_lc, evL_mut, evA_mut, evA_nil, evA_io, imm, immL, immKids, topK, scalarP, truth, prim, okA, okN, okP, okT, okB, isType, seqOf, walkR, List.getElem?_cons_zero, List.getElem?_cons_succ, Option.getD_some, Option.bind_some, Option.bind_none, Option.map_some, isNoneD, isBoolD, hb]
  have eC : evE (GG (n + 7)) (.call "_law_copied" [(.call "_law_pick" [(.io 0), (.var 1)] [0, 1])] [0]) [.vl .io g, .vl .top (.list menu)] = .ok (d, k, [.vl .io g', .vl .sh (.list menu)]) := by
    refine ev_call (ds := [d]) (ρ1 := [.vl .io g', .vl .sh (.list menu)]) (os := []) ?_ (fn_copied (n + 6)) rfl ek hk rfl
    simp [ev_lit, ev_var, ev_mv, ev_op, ev_and, ev_or, ev_not, ev_ite, ev_chain, evL_nil, evL_pk, evL_pt, evT_nil, evT_cons, src_pt, src_sq, bind_ok, optR_some, noExc_ok, getS, setS, bound, peek, evL_lit, evA_lit, evL_var, evA_var, evL_mv, evA_mv, evL_con, evA_con, evL_op, evA_op, evL_and, evA_and, evL_or, evA_or, evL_not, evA_not, evL_ite, evA_ite, evL_chain, evA_chain, evL_call, evA_call, evL_lc, evA_lc, evL_mut, evA_mut, evA_nil, evA_io, imm, immL, immKids, topK, scalarP, truth, prim, okA, okN, okP, okT, okB, isType, seqOf, walkR, List.getElem?_cons_zero, List.getElem?_cons_succ, Option.getD_some, Option.bind_some, Option.bind_none, Option.map_some, isNoneD, isBoolD, eP]
  exact ⟨d, k, g', run_of (ρ := [.vl .io g', .vl .sh (.list menu)]) rfl ((ss_next (s_asg e1 rfl)).trans ((ss_next (s_asg e2 rfl)).trans ((ss_next (s_asg e3 rfl)).trans (ss_ret (s_ret eC))))) rfl, hk, menu_good d hd, hg'⟩
end TH.Lk01
end
section
set_option Elab.async false
set_option linter.all false
set_option maxRecDepth 100000
namespace TH.Lk01
open PySem PySem.Spec PyProof.Rows L2
theorem intsD_map : ∀ l : List Int, intsD (l.map .int) = some l
  | [] => rfl
  | i :: l => by
    show (intsD (l.map .int)).map _ = _
    rw [intsD_map l]; rfl
theorem cut_take {α : Type} (xs : List α) (k : Nat) : cut xs none (some (k : Int)) = xs.take k := by
  unfold cut
  rw [HT.sIx_none, show HT.sIx xs.length xs.length (some (k : Int)) = min k xs.length from HT.sIx_nat xs.length xs.length k]
  simp [Nat.min_comm, List.take_eq_take_iff]
theorem cell_ok (n : Nat) (ns : List Int) (j : Int) (h0 : 0 ≤ j) : ∃ (i : Int) (k : Own), runBody (GG n) [false, false] 2 fuel c__law_cell [.list (ns.map .int), .int j] = .ok (.int i, k, []) ∧ (k == .io) = false := by
  by_cases hj : j < ns.length
  · have hl : j.toNat < ns.length := by omega
    have e1 : evE (GG n) (.op .lt [(.pk 1), (.op .len [(.pk 0)])]) [.vl .sh (.list (ns.map .int)), .vl .sh (.int j)] = .ok (.bool true, .fr, [.vl .sh (.list (ns.map .int)), .vl .sh (.int j)]) := by
      simp [ev_lit, ev_var, ev_mv, ev_op, ev_and, ev_or, ev_not, ev_ite, ev_chain, evL_nil, evL_pk, evL_pt, evT_nil, evT_cons, src_pt, src_sq, bind_ok, optR_some, noExc_ok, getS, setS, bound, peek, evL_lit, evA_lit, evL_var, evA_var, evL_mv, evA_mv, evL_con, evA_con, evL_op, evA_op, evL_and, evA_and, evL_or, evA_or, evL_not, evA_not, evL_ite, evA_ite, evL_chain, evA_chain, evL_call, evA_call, evL_lc, evA_lc, evL_mut, evA_mut, evA_nil, evA_io, imm, immL, immKids, topK, scalarP, truth, prim, okA, okN, okP, okT, okB, isType, seqOf, walkR, List.getElem?_cons_zero, List.getElem?_cons_succ, Option.getD_some, Option.bind_some, Option.bind_none, Option.map_some, isNoneD, isBoolD, lenD, ltD_int, hj]
    have ix : idxD (.list (ns.map .int)) (.int j) = some (.int ns[j.toNat], .sh) := idxD_list (k := j.toNat) (by omega) (by simp [List.getElem?_map, List.getElem?_eq_getElem hl])
    have e2 : evE (GG n) (.op .idx [(.pt 0), (.pt 1)]) [.vl .sh (.list (ns.map .int)), .vl .sh (.int j)] = .ok (.int ns[j.toNat], .sh, [.vl .sh (.list (ns.map .int)), .vl .sh (.int j)]) := by
      simp [ev_lit, ev_var, ev_mv, ev_op, ev_and, ev_or, ev_not, ev_ite, ev_chain, evL_nil, evL_pk, evL_pt, evT_nil, evT_cons, src_pt, src_sq, bind_ok, optR_some, noExc_ok, getS, setS, bound, peek, evL_lit, evA_lit, evL_var, evA_var, evL_mv, evA_mv, evL_con, evA_con, evL_op, evA_op, evL_and, evA_and, evL_or, evA_or, evL_not, evA_not, evL_ite, evA_ite, evL_chain, evA_chain, evL_call, evA_call, evL_lc, evA_lc, evL_mut, evA_mut, evA_nil, evA_io, imm, immL, immKids, topK, scalarP, truth, prim, okA, okN, okP, okT, okB, isType, seqOf, walkR, List.getElem?_cons_zero, List.getElem?_cons_succ, Option.getD_some, Option.bind_some, Option.bind_none, Option.map_some, isNoneD, isBoolD, ix]
    exact ⟨_, _, run_of (ρ := [.vl .sh (.list (ns.map .int)), .vl .sh (.int j)]) rfl (ss_ret ((s_iff_yes e1 rfl).trans (ss_ret (s_ret e2)))) rfl, rfl⟩
  · have e1 : evE (GG n) (.op .lt [(.pk 1), (.op .len [(.pk 0)])]) [.vl .sh (.list (ns.map .int)), .vl .sh (.int j)] = .ok (.bool false, .fr, [.vl .sh (.list (ns.map .int)), .vl .sh (.int j)]) := by
      simp [ev_lit, ev_var, ev_mv, ev_op, ev_and, ev_or, ev_not, ev_ite, ev_chain, evL_nil, evL_pk, evL_pt, evT_nil, evT_cons, src_pt, src_sq, bind_ok, optR_some, noExc_ok, getS, setS, bound, peek, evL_lit, evA_lit, evL_var, evA_var, evL_mv, evA_mv, evL_con, evA_con, evL_op, evA_op, evL_and, evA_and, evL_or, evA_or, evL_not, evA_not, evL_ite, evA_ite, evL_chain, evA_chain, evL_call, evA_call, evL_lc, evA_lc, evL_mut, evA_mut, evA_nil, evA_io, imm, immL, immKids, topK, scalarP, truth, prim, okA, okN, okP, okT, okB, isType, seqOf, walkR, List.getElem?_cons_zero, List.getElem?_cons_succ, Option.getD_some, Option.bind_some, Option.bind_none, Option.map_some, isNoneD, isBoolD, lenD, ltD_int, hj]
    have hc : cutD (.list (ns.map .int)) none (some 1) = some (.list ((ns.take 1).map .int), mkK false (.list ((ns.take 1).map .int))) := by
      have := cut_take (ns.map PyData.int) 1
      show okN (.list (cut (ns.map PyData.int) none (some ((1 : Nat) : Int)))) = _
      rw [this, ← List.map_take]; rfl
    have hsum : sumD (.list ((ns.take 1).map .int)) = some (.int (ns.take 1).sum, .fr) := by
      show (intsD ((ns.take 1).map .int)).bind _ = _
      rw [intsD_map]; rfl
    have hm : modD (.int (ns.take 1).sum) (.int 1000003) = some (.int ((ns.take 1).sum.fmod 1000003), .fr) := modD_ok (by decide)
    have hk : (mkK false (.list ((ns.take 1).map .int)) != .io) = true := by
      have := mkK_io (b := false) (d := .list ((ns.take 1).map .int))
      simpa [bne] using this
    have e2 : evE (GG n) (.op .mod [(.op .sum [(.op (.slc false true) [(.pt 0), (.lit (.int 1))])]), (.lit (.int 1000003))]) [.vl .sh (.list (ns.map .int)), .vl .sh (.int j)] = .ok (.int ((ns.take 1).sum.fmod 1000003), .fr, [.vl .sh (.list (ns.map .int)), .vl .sh (.int j)]) := by
      generalize mkK false (.list ((ns.take 1).map .int)) = kk at hc hk
      generalize ((ns.take 1).map PyData.int) = Lm at hc hsum
      generalize (ns.map PyData.int) = Ln at hc ⊢
      simp [ev_lit, ev_var, ev_mv, ev_op, ev_and, ev_or, ev_not, ev_ite, ev_chain, evL_nil, evL_pk, evL_pt, evT_nil, evT_cons, src_pt, src_sq, bind_ok, optR_some, noExc_ok, getS, setS, bound, peek, evL_lit, evA_lit, evL_var, evA_var, evL_mv, evA_mv, evL_con, evA_con, evL_op, evA_op, evL_and, evA_and, evL_or, evA_or, evL_not, evA_not, evL_ite, evA_ite, evL_chain, evA_chain, evL_call, evA_call, evL_lc, evA_lc, evL_mut, evA_mut, evA_nil, evA_io, imm, immL, immKids, topK, scalarP, truth, prim, okA, okN, okP, okT, okB, isType, seqOf, walkR, List.getElem?_cons_zero, List.getElem?_cons_succ, Option.getD_some, Option.bind_some, Option.bind_none, Option.map_some, isNoneD, isBoolD, hc, hsum, hm, hk]
    exact ⟨_, _, run_of (ρ := [.vl .sh (.list (ns.map .int)), .vl .sh (.int j)]) rfl ((ss_next (s_iff_no e1 rfl)).trans (ss_ret (s_ret e2))) rfl, rfl⟩
theorem powD_ok {i : Int} {k : Nat} (hk : k ≤ 100) (hl : i.natAbs.log2 < 5000) : powD (.int i) (.int (k : Int)) = some (.int (i ^ k), .fr) := by
  show (if 0 ≤ (k : Int) ∧ (k : Int) ≤ 100 ∧ i.natAbs.log2 < 5000 then okA (.int (i ^ ((k : Int)).toNat)) else none) = _
  rw [if_pos ⟨by omega, by omega, hl⟩]
  rfl
theorem generator_ok (n : Nat) (ns : List Int) (j : Int) (h0 : 0 ≤ j) (h1 : j ≤ 2) : ∃ g, runBody (GG (n + 1)) [false, false] 3 fuel c__law_generator [.list (ns.map .int), .int j] = .ok (g, .fr, []) ∧ Gen 2000 g := by
  obtain ⟨i, k, ec, hk⟩ := cell_ok n ns j h0
  have e1 : evE (GG (n + 1)) (.call "_law_cell" [(.var 0), (.var 1)] [0, 1]) [.vl .sh (.list (ns.map .int)), .vl .sh (.int j), .un] = .ok (.int i, k, [.vl .sh (.list (ns.map .int)), .vl .sh (.int j), .un]) := by
    refine ev_call (ds := [.list (ns.map .int), .int j]) (os := []) ?_ (fn_cell n) rfl ec hk rfl
    simp [ev_lit, ev_var, ev_mv, ev_op, ev_and, ev_or, ev_not, ev_ite, ev_chain, evL_nil, evL_pk, evL_pt, evT_nil, evT_cons, src_pt, src_sq, bind_ok, optR_some, noExc_ok, getS, setS, bound, peek, evL_lit, evA_lit, evL_var, evA_var, evL_mv, evA_mv, evL_con, evA_con, evL_op, evA_op, evL_and, evA_and, evL_or, evA_or, evL_not, evA_not, evL_ite, evA_ite, evL_chain, evA_chain, evL_call, evA_call, evL_lc, evA_lc, evL_mut, evA_mut, evA_nil, evA_io, imm, immL, immKids, topK, scalarP, truth, prim, okA, okN, okP, okT, okB, isType, seqOf, walkR, List.getElem?_cons_zero, List.getElem?_cons_succ, Option.getD_some, Option.bind_some, Option.bind_none, Option.map_some, isNoneD, isBoolD]
  have p18 : powD (.int 10) (.int 18) = some (.int (10 ^ 18), .fr) := powD_ok (k := 18) (by decide) (by decide)
  have p60 : powD (.int 10) (.int 60) = some (.int (10 ^ 60), .fr) := powD_ok (k := 60) (by decide) (by decide)
  obtain ⟨L, hL⟩ : ∃ L : Int, L = 10 ^ 60 := ⟨_, rfl⟩
  have hLl : L.natAbs.log2 < 5000 := by
    rw [hL, show ((10 : Int) ^ 60).natAbs = 10 ^ 60 from by rw [Int.natAbs_pow]; rfl]
    decide
  have hL0 : L ≠ 0 := by rw [hL]; exact Int.ne_of_gt (Int.pow_pos (by decide))
  have p600 : powD (.int L) (.int 10) = some (.int (L ^ 10), .fr) := powD_ok (k := 10) (by decide) hLl
  have hb0 : L ^ 10 ≠ 0 := Int.pow_ne_zero hL0
  rw [← hL] at p60
  generalize (10 : Int) ^ 18 = T at p18
  generalize L ^ 10 = B at p600 hb0
  have m0 : ∀ u : Int, modD (.int u) (.int B) = some (.int (u.fmod B), .fr) := fun u => modD_ok hb0
  have m1 : modD (.int i) (.int 2147483647) = some (.int (i.fmod 2147483647), .fr) := modD_ok (by decide)
  have mm : mulD (.int 1000) (.int j) = some (.int (1000 * j), .fr) := mulD_small (by decide) (by omega)
  have bb := fmod_pos (i := i) (b := 2147483647) (by decide)
  have l3 : line 3 = true := by decide
  obtain ⟨x, hx⟩ : ∃ x : Int, max2D (.int (i - T)) (.int 0) = some (.int x, .fr) := ⟨_, rfl⟩
  have hki : k ≠ .io := fun e => by rw [e] at hk; cases hk
  have e2 : evE (GG (n + 1)) (.op .lst [(.op .mod [(.op .int [(.op .max2 [(.op .sub [(.pk 2), (.op .pow [(.lit (.int 10)), (.lit (.int 18))])]), (.lit (.int 0))])]), (.op .pow [(.op .pow [(.lit (.int 10)), (.lit (.int 60))]), (.lit (.int 10))])]), (.op .mod [(.op .int [(.pk 2)]), (.lit (.int 2147483647))]), (.op .mul [(.lit (.int 1000)), (.pt 1)])]) [.vl .sh (.list (ns.map .int)), .vl .sh (.int j), .vl k (.int i)] = .ok (gL (x.fmod B) (i.fmod 2147483647) (1000 * j), .fr, [.vl .sh (.list (ns.map .int)), .vl .sh (.int j), .vl k (.int i)]) := by
    cases k <;> first | exact absurd rfl hki | simp [ev_lit, ev_var, ev_mv, ev_op, ev_and, ev_or, ev_not, ev_ite, ev_chain, evL_nil, evL_pk, evL_pt, evT_nil, evT_cons, src_pt, src_sq, bind_ok, optR_some, noExc_ok, getS, setS, bound, peek, evL_lit, evA_lit, evL_var, evA_var, evL_mv, evA_mv, evL_con, evA_con, evL_op, evA_op, evL_and, evA_and, evL_or, evA_or, evL_not, evA_not, evL_ite, evA_ite, evL_chain, evA_chain, evL_call, evA_call, evL_lc, evA_lc, evL_mut, evA_mut, evA_nil, evA_io, imm, immL, immKids, topK, scalarP, truth, prim, okA, okN, okP, okT, okB, isType, seqOf, walkR, List.getElem?_cons_zero, List.getElem?_cons_succ, Option.getD_some, Option.bind_some, Option.bind_none, Option.map_some, isNoneD, isBoolD, p18, p60, p600, subD, hx, intD, m0, m1, mm, l3, mkK, gL]
  have hb : bindT (.nm 2) (.int i) k [.vl .sh (.list (ns.map .int)), .vl .sh (.int j), .un] = .ok [.vl .sh (.list (ns.map .int)), .vl .sh (.int j), .vl k (.int i)] := rfl
  exact ⟨_, run_of (ρ := [.vl .sh (.list (ns.map .int)), .vl .sh (.int j), .vl k (.int i)]) rfl ((ss_next (s_asg e1 hb)).trans (ss_ret (s_ret e2))) rfl, _, _, _, rfl, bb.1, bb.2, by omega, by omega⟩
end TH.Lk01
end
section
set_option Elab.async false
set_option linter.all false
set_option maxRecDepth 100000
namespace TH.Lk01
open PySem PySem.Spec PyProof.Rows L2
def Fr (s : Slot) : Prop := s = .un ∨ ∃ k d, s = .vl k d ∧ k ≠ .io
theorem bind_fr {ρ : Ev} {i : Nat} {d : D} {k : Own} (h : Fr (getS ρ i)) : bindT (.nm i) d k ρ = .ok (setS ρ i (.vl k d)) := by
  rcases h with h | ⟨k', d', h, hk⟩
  · simp only [bindT, h]
  · simp only [bindT, h]
    cases k' <;> first | rfl | exact absurd rfl hk
theorem Fr.sh {k : Own} {d : D} (h : k ≠ .io) : Fr (.vl k d) := .inr ⟨k, d, rfl, h⟩
def NM : List D := [St "a", St "b", St "ab", St "a1", St "z", St "abcdefgh", St "abcdefghi", St "A", St "", St "1a", .int 1, .none, St "arm", St "old", St "a b", St "aB", St "a_b", .str ⟨#[97, 10]⟩, St "a1b", St "z0z0z0z0"]
theorem NM_atom : ∀ d ∈ NM, atomG d := List.forall_mem_cons.mpr ⟨str_atom (by decide +kernel), List.forall_mem_cons.mpr ⟨str_atom (by decide +kernel), List.forall_mem_cons.mpr ⟨str_atom (by decide +kernel), List.forall_mem_cons.mpr ⟨str_atom (by decide +kernel), List.forall_mem_cons.mpr ⟨str_atom (by decide +kernel), List.forall_mem_cons.mpr ⟨str_atom (by decide +kernel), List.forall_mem_cons.mpr ⟨str_atom (by decide +kernel), List.forall_mem_cons.mpr ⟨str_atom (by decide +kernel), List.forall_mem_cons.mpr ⟨str_atom (by decide +kernel), List.forall_mem_cons.mpr ⟨str_atom (by decide +kernel), List.forall_mem_cons.mpr ⟨.inr (.inr (.inl ⟨_, rfl, by decide, by decide⟩)), List.forall_mem_cons.mpr ⟨.inl rfl, List.forall_mem_cons.mpr ⟨str_atom (by decide +kernel), List.forall_mem_cons.mpr ⟨str_atom (by decide +kernel), List.forall_mem_cons.mpr ⟨str_atom (by decide +kernel), List.forall_mem_cons.mpr ⟨str_atom (by decide +kernel), List.forall_mem_cons.mpr ⟨str_atom (by decide +kernel), List.forall_mem_cons.mpr ⟨str_atom (by decide +kernel), List.forall_mem_cons.mpr ⟨str_atom (by decide +kernel), List.forall_mem_cons.mpr ⟨str_atom (by decide +kernel), (fun _ z => absurd z List.not_mem_nil)⟩⟩⟩⟩⟩⟩⟩⟩⟩⟩⟩⟩⟩⟩⟩⟩⟩⟩⟩⟩
theorem atom_imm {d : D} (h : atomG d) : imm d = true := by
  rcases h with rfl | ⟨b, rfl⟩ | ⟨i, rfl, _⟩ | ⟨l, rfl, _⟩ <;> rfl
theorem fn_jd (n : Nat) : (GG (n + 1)).fn "_law_judged" = some ⟨[false], runBody (GG n) [false] 8 fuel c__law_judged⟩ := rfl
/-- values judged, one after another -/
theorem judge_loop (n : Nat) {S s1 s2 s3 s4 s5 s6 s7 s8 : Slot} : ∀ (vs : List D) (s9 : Slot), (∀ v ∈ vs, GoodV v) → Fr s9 → ∃ t9, forLoop (fun x ρ => (bindT (.nm 9) x .sh ρ).bind fun ρ => evSs (GG (n + 9)) fuel [(.iff (.not_ (.call "_law_judged" [(.var 9)] [0])) [(.ret (.lit (.bool false)))] [])] ρ) vs [S, s1, s2, s3, s4, s5, s6, s7, s8, s9, .un, .un, .un, .un, .un] = .ok (.next [S, s1, s2, s3, s4, s5, s6, s7, s8, t9, .un, .un, .un, .un, .un]) ∧ Fr t9
  | [], s9, _, h9 => ⟨s9, rfl, h9⟩
  | v :: vs, s9, hv, h9 => by
    obtain ⟨t9, e, ht⟩ := judge_loop n (S := S) (s1 := s1) (s2 := s2) (s3 := s3) (s4 := s4) (s5 := s5) (s6 := s6) (s7 := s7) (s8 := s8) vs (.vl .sh v) (fun w hw => hv w (.tail _ hw)) (.sh (by decide))
    refine ⟨t9, ?_, ht⟩
    have eJ : evE (GG (n + 9)) (.call "_law_judged" [(.var 9)] [0]) [S, s1, s2, s3, s4, s5, s6, s7, s8, .vl .sh v, .un, .un, .un, .un, .un] = .ok (.bool true, .fr, [S, s1, s2, s3, s4, s5, s6, s7, s8, .vl .sh v, .un, .un, .un, .un, .un]) := by
      refine ev_call (ds := [v]) (os := []) ?_ (fn_jd (n + 8)) rfl (judged_ok (n + 4) v (hv v (.head _))) rfl rfl
      simp [ev_lit, ev_var, ev_mv, ev_op, ev_and, ev_or, ev_not, ev_ite, ev_chain, evL_nil, evL_pk, evL_pt, evT_nil, evT_cons, src_pt, src_sq, bind_ok, optR_some, noExc_ok, getS, setS, bound, peek, evL_lit, evA_lit, evL_var, evA_var, evL_mv, evA_mv, evL_con, evA_con, evL_op, evA_op, evL_and, evA_and, evL_or, evA_or, evL_not, evA_not, evL_ite, evA_ite, evL_chain, evA_chain, evL_call, evA_call, evL_lc, evA_lc, evL_mut, evA_mut, evA_nil, evA_io, imm, immL, immKids, topK, scalarP, truth, prim, okA, okN, okP, okT, okB, isType, seqOf, walkR, List.getElem?_cons_zero, List.getElem?_cons_succ, Option.getD_some, Option.bind_some, Option.bind_none, Option.map_some, isNoneD, isBoolD]
    have eN : evE (GG (n + 9)) (.not_ (.call "_law_judged" [(.var 9)] [0])) [S, s1, s2, s3, s4, s5, s6, s7, s8, .vl .sh v, .un, .un, .un, .un, .un] = .ok (.bool false, .fr, [S, s1, s2, s3, s4, s5, s6, s7, s8, .vl .sh v, .un, .un, .un, .un, .un]) := by
      rw [ev_not, eJ, bind_ok]; rfl
    rw [forLoop]
    have hb : bindT (.nm 9) v .sh [S, s1, s2, s3, s4, s5, s6, s7, s8, s9, .un, .un, .un, .un, .un] = .ok [S, s1, s2, s3, s4, s5, s6, s7, s8, .vl .sh v, .un, .un, .un, .un, .un] := bind_fr h9
    show ((bindT (.nm 9) v .sh [S, s1, s2, s3, s4, s5, s6, s7, s8, s9, .un, .un, .un, .un, .un]).bind _).bind _ = _
    rw [hb, bind_ok, (ss_next (s_iff_no eN rfl)).trans ss_nil, bind_ok]
    exact e
structure Turn (S s1 : Slot) (x : D) (m : Int) (ρ : Ev) : Prop where
  ex : ∃ (g : D) (t4 t5 t6 t7 t8 t9 : Slot), ρ = [S, s1, .vl .top g, .vl .sh x, t4, t5, t6, t7, t8, t9, .un, .un, .un, .un, .un] ∧ Gen m g ∧ Fr t4 ∧ Fr t5 ∧ Fr t6 ∧ Fr t7 ∧ Fr t8 ∧ Fr t9
theorem turn_ok (n : Nat) {S s1 s3 s4 s5 s6 s7 s8 s9 : Slot} {kg : Own} {g x : D} {m : Int} (h3 : Fr s3) (h4 : Fr s4) (h5 : Fr s5) (h6 : Fr s6) (h7 : Fr s7) (h8 : Fr s8) (h9 : Fr s9) (hkg : kg = .fr ∨ kg = .top) (hg : Gen m g) (hm : m ≤ 80000000000) :
    ∃ ρ', (bindT (.nm 3) x .sh [S, s1, .vl kg g, s3, s4, s5, s6, s7, s8, s9, .un, .un, .un, .un, .un]).bind (fun ρ => evSs (GG (n + 9)) fuel [(.asg (.nm 4) (.call "_law_numbers" [(.io 2)] [0])), (.asg (.nm 5) (.op .lst [(.lit (.str "a")), (.lit (.str "b")), (.lit (.str "ab")), (.lit (.str "a1")), (.lit (.str "z")), (.lit (.str "abcdefgh")), (.lit (.str "abcdefghi")), (.lit (.str "A")), (.lit (.str "")), (.lit (.str "1a")), (.lit (.int 1)), (.lit .none), (.lit (.str "arm")), (.lit (.str "old")), (.lit (.str "a b")), (.lit (.str "aB")), (.lit (.str "a_b")), (.lit (.str ⟨#[97, 10]⟩)), (.lit (.str "a1b")), (.lit (.str "z0z0z0z0"))])), (.asg (.nm 6) (.lc (.sq .range1 [(.call "_law_random" [(.io 2), (.lit (.int 5))] [0, 1])]) (.nm 13) [12, 13] [] (.call "_law_pick" [(.io 2), (.var 5)] [0, 1]))), (.asg (.nm 7) (.lc (.pt 6) (.nm 14) [12, 14] [(.and_ (.op (.isi "str") [(.pk 14)]) (.call "_law_name" [(.var 14)] [0]))] (.var 14))), (.asg (.nm 8) (.op .lst [(.var 6), (.var 7), (.op .sorted [(.pt 7)]), (.call "_law_unlike" [(.var 7)] [0]), (.op .tuple [(.call "_law_unlike" [(.var 7)] [0])]), (.op (.slc false true) [(.call "_law_unlike" [(.var 7)] [0]), (.lit (.int 1))]), (.op .rev [(.call "_law_unlike" [(.var 7)] [0])])])), (.for_ (.nm 9) (.op .add [(.op .lst [(.call "_law_any" [(.io 2)] [0]), (.call "_law_string" [(.io 2)] [0]), (.var 4), (.op .sorted [(.pt 4)]), (.call "_law_unlike" [(.var 4)] [0]), (.op .tuple [(.call "_law_unlike" [(.var 4)] [0])])]), (.pt 8)]) [(.iff (.not_ (.call "_law_judged" [(.var 9)] [0])) [(.ret (.lit (.bool false)))] [])])] ρ) = .ok (.next ρ') ∧ Turn S s1 x (m + 400) ρ' := by
  have hb3 : bindT (.nm 3) x .sh [S, s1, .vl kg g, s3, s4, s5, s6, s7, s8, s9, .un, .un, .un, .un, .un] = .ok [S, s1, .vl kg g, .vl .sh x, s4, s5, s6, s7, s8, s9, .un, .un, .un, .un, .un] := bind_fr h3
  rw [hb3, bind_ok]
  -- numbers
  obtain ⟨L, g1, en, hL5, hLn, hg1⟩ := numbers_ok (n + 5) hg (by omega)
  have hbx := hg.box
  have e4 : evE (GG (n + 9)) (.call "_law_numbers" [(.io 2)] [0]) [S, s1, .vl kg g, .vl .sh x, s4, s5, s6, s7, s8, s9, .un, .un, .un, .un, .un] = .ok (.list L, .fr, [S, s1, .vl .top g1, .vl .sh x, s4, s5, s6, s7, s8, s9, .un, .un, .un, .un, .un]) := by
    refine ev_call (ds := [g]) (ρ1 := [S, s1, .vl .top g, .vl .sh x, s4, s5, s6, s7, s8, s9, .un, .un, .un, .un, .un]) (os := [g1]) ?_ (fn_numbers (n + 8)) rfl en rfl rfl
    rcases hkg with rfl | rfl <;> simp [ev_lit, ev_var, ev_mv, ev_op, ev_and, ev_or, ev_not, ev_ite, ev_chain, evL_nil, evL_pk, evL_pt, evT_nil, evT_cons, src_pt, src_sq, bind_ok, optR_some, noExc_ok, getS, setS, bound, peek, evL_lit, evA_lit, evL_var, evA_var, evL_mv, evA_mv, evL_con, evA_con, evL_op, evA_op, evL_and, evA_and, evL_or, evA_or, evL_not, evA_not, evL_ite, evA_ite, evL_chain, evA_chain, evL_call, evA_call, evL_lc, evA_lc, evL_mut, evA_mut, evA_nil, evA_io, imm, immL, immKids, topK, scalarP, truth, prim, okA, okN, okP, okT, okB, isType, seqOf, walkR, List.getElem?_cons_zero, List.getElem?_cons_succ, Option.getD_some, Option.bind_some, Option.bind_none, Option.map_some, isNoneD, isBoolD, hbx]
  -- the menu
  have l20 : line 20 = true := by decide
  have e5 : evE (GG (n + 9)) (.op .lst [(.lit (.str "a")), (.lit (.str "b")), (.lit (.str "ab")), (.lit (.str "a1")), (.lit (.str "z")), (.lit (.str "abcdefgh")), (.lit (.str "abcdefghi")), (.lit (.str "A")), (.lit (.str "")), (.lit (.str "1a")), (.lit (.int 1)), (.lit .none), (.lit (.str "arm")), (.lit (.str "old")), (.lit (.str "a b")), (.lit (.str "aB")), (.lit (.str "a_b")), (.lit (.str ⟨#[97, 10]⟩)), (.lit (.str "a1b")), (.lit (.str "z0z0z0z0"))]) [S, s1, .vl .top g1, .vl .sh x, .vl .fr (.list L), s5, s6, s7, s8, s9, .un, .un, .un, .un, .un] = .ok (.list NM, .fr, [S, s1, .vl .top g1, .vl .sh x, .vl .fr (.list L), s5, s6, s7, s8, s9, .un, .un, .un, .un, .un]) := by
    simp [ev_lit, ev_var, ev_mv, ev_op, ev_and, ev_or, ev_not, ev_ite, ev_chain, evL_nil, evL_pk, evL_pt, evT_nil, evT_cons, src_pt, src_sq, bind_ok, optR_some, noExc_ok, getS, setS, bound, peek, evL_lit, evA_lit, evL_var, evA_var, evL_mv, evA_mv, evL_con, evA_con, evL_op, evA_op, evL_and, evA_and, evL_or, evA_or, evL_not, evA_not, evL_ite, evA_ite, evL_chain, evA_chain, evL_call, evA_call, evL_lc, evA_lc, evL_mut, evA_mut, evA_nil, evA_io, imm, immL, immKids, topK, scalarP, truth, prim, okA, okN, okP, okT, okB, isType, seqOf, walkR, List.getElem?_cons_zero, List.getElem?_cons_succ, Option.getD_some, Option.bind_some, Option.bind_none, Option.map_some, isNoneD, isBoolD, l20, mkK, NM]
  -- names
  have hbx1 := hg1.box
  obtain ⟨r, g2, er, r0, r1, hg2⟩ := rnd (n + 7) (b := 5) hg1 (by omega) (by decide) (by decide)
  have eR : evE (GG (n + 9)) (.call "_law_random" [(.io 2), (.lit (.int 5))] [0, 1]) [S, s1, .vl .top g1, .vl .sh x, .vl .fr (.list L), .vl .fr (.list NM), s6, s7, s8, s9, .un, .un, .un, .un, .un] = .ok (.int r, .fr, [S, s1, .vl .top g2, .vl .sh x, .vl .fr (.list L), .vl .fr (.list NM), s6, s7, s8, s9, .un, .un, .un, .un, .un]) := by
    refine ev_call (ds := [g1, .int 5]) (ρ1 := [S, s1, .vl .top g1, .vl .sh x, .vl .fr (.list L), .vl .fr (.list NM), s6, s7, s8, s9, .un, .un, .un, .un, .un]) (os := [g2]) ?_ (fn_random (n + 8)) rfl er rfl rfl
    simp [ev_lit, ev_var, ev_mv, ev_op, ev_and, ev_or, ev_not, ev_ite, ev_chain, evL_nil, evL_pk, evL_pt, evT_nil, evT_cons, src_pt, src_sq, bind_ok, optR_some, noExc_ok, getS, setS, bound, peek, evL_lit, evA_lit, evL_var, evA_var, evL_mv, evA_mv, evL_con, evA_con, evL_op, evA_op, evL_and, evA_and, evL_or, evA_or, evL_not, evA_not, evL_ite, evA_ite, evL_chain, evA_chain, evL_call, evA_call, evL_lc, evA_lc, evL_mut, evA_mut, evA_nil, evA_io, imm, immL, immKids, topK, scalarP, truth, prim, okA, okN, okP, okT, okB, isType, seqOf, walkR, List.getElem?_cons_zero, List.getElem?_cons_succ, Option.getD_some, Option.bind_some, Option.bind_none, Option.map_some, isNoneD, isBoolD, hbx1]
  have hsrc6 : evSrc (GG (n + 9)) (.sq .range1 [(.call "_law_random" [(.io 2), (.lit (.int 5))] [0, 1])]) [S, s1, .vl .top g1, .vl .sh x, .vl .fr (.list L), .vl .fr (.list NM), s6, s7, s8, s9, .un, .un, .un, .un, .un] = .ok (rangeL 0 r, [S, s1, .vl .top g2, .vl .sh x, .vl .fr (.list L), .vl .fr (.list NM), s6, s7, s8, s9, .un, .un, .un, .un, .un]) :=
    srcR1 (k2 := .fr) (by simp [ev_lit, ev_var, ev_mv, ev_op, ev_and, ev_or, ev_not, ev_ite, ev_chain, evL_nil, evL_pk, evL_pt, evT_nil, evT_cons, src_pt, src_sq, bind_ok, optR_some, noExc_ok, getS, setS, bound, peek, evL_lit, evA_lit, evL_var, evA_var, evL_mv, evA_mv, evL_con, evA_con, evL_op, evA_op, evL_and, evA_and, evL_or, evA_or, evL_not, evA_not, evL_ite, evA_ite, evL_chain, evA_chain, evL_call, evA_call, evL_lc, evA_lc, evL_mut, evA_mut, evA_nil, evA_io, imm, immL, immKids, topK, scalarP, truth, prim, okA, okN, okP, okT, okB, isType, seqOf, walkR, List.getElem?_cons_zero, List.getElem?_cons_succ, Option.getD_some, Option.bind_some, Option.bind_none, Option.map_some, isNoneD, isBoolD, eR]) rfl (by omega) (by omega)
  let I : List D → List D × Bool → Ev → Prop := fun xs acc ρ => ∃ (g : D) (k5 : Own), ρ = [S, s1, .vl .top g, .vl .sh x, .vl .fr (.list L), .vl k5 (.list NM), s6, s7, s8, s9, .un, .un, .un, .un, .un] ∧ (k5 = .fr ∨ k5 = .sh) ∧ Gen (m + 120 - 3 * xs.length) g ∧ acc.1.length + xs.length ≤ 5 ∧ ∀ d ∈ acc.1, d ∈ NM
  have himm : imm (.list NM) = false := rfl
  have step : ∀ y xs acc ρ, I (y :: xs) acc ρ → ∃ acc' ρ', lcF (fun x ρ => bindT (.nm 13) x .sh ρ) (fun ρ => evT (GG (n + 9)) [] ρ) (fun ρ => evE (GG (n + 9)) (.call "_law_pick" [(.io 2), (.var 5)] [0, 1]) ρ) [12, 13] y acc ρ = .ok (acc', ρ') ∧ I xs acc' ρ' := by
    rintro y xs ⟨acc, ab⟩ ρ ⟨g, k5, rfl, hk5, hg, hl, ha⟩
    rw [List.length_cons] at hg hl
    have hl' : acc.length + (xs.length + 1) ≤ 5 := hl
    have hb := hg.box
    obtain ⟨c, g', hc, ec, hg'⟩ := pick_ok (n + 6) (xs := NM) hg (by omega) (by decide) (by decide)
    have eP : evE (GG (n + 9)) (.call "_law_pick" [(.io 2), (.var 5)] [0, 1]) [S, s1, .vl .top g, .vl .sh x, .vl .fr (.list L), .vl k5 (.list NM), s6, s7, s8, s9, .un, .un, .un, .vl .sh y, .un] = .ok (c, .sh, [S, s1, .vl .top g', .vl .sh x, .vl .fr (.list L), .vl .sh (.list NM), s6, s7, s8, s9, .un, .un, .un, .vl .sh y, .un]) := by
      refine ev_call (ds := [g, .list NM]) (ρ1 := [S, s1, .vl .top g, .vl .sh x, .vl .fr (.list L), .vl .sh (.list NM), s6, s7, s8, s9, .un, .un, .un, .vl .sh y, .un]) (os := [g']) ?_ (fn_pick (n + 8)) rfl ec rfl rfl
      rcases hk5 with rfl | rfl <;> simp [ev_lit, ev_var, ev_mv, ev_op, ev_and, ev_or, ev_not, ev_ite, ev_chain, evL_nil, evL_pk, evL_pt, evT_nil, evT_cons, src_pt, src_sq, bind_ok, optR_some, noExc_ok, getS, setS, bound, peek, evL_lit, evA_lit, evL_var, evA_var, evL_mv, evA_mv, evL_con, evA_con, evL_op, evA_op, evL_and, evA_and, evL_or, evA_or, evL_not, evA_not, evL_ite, evA_ite, evL_chain, evA_chain, evL_call, evA_call, evL_lc, evA_lc, evL_mut, evA_mut, evA_nil, evA_io, imm, immL, immKids, topK, scalarP, truth, prim, okA, okN, okP, okT, okB, isType, seqOf, walkR, List.getElem?_cons_zero, List.getElem?_cons_succ, Option.getD_some, Option.bind_some, Option.bind_none, Option.map_some, isNoneD, isBoolD, hb]
    refine ⟨_, _, lcF_yes (ρa := [S, s1, .vl .top g, .vl .sh x, .vl .fr (.list L), .vl k5 (.list NM), s6, s7, s8, s9, .un, .un, .un, .vl .sh y, .un]) (ρb := [S, s1, .vl .top g, .vl .sh x, .vl .fr (.list L), .vl k5 (.list NM), s6, s7, s8, s9, .un, .un, .un, .vl .sh y, .un]) rfl evT_nil eP, g', .sh, rfl, .inr rfl, hg'.mono (by omega), ?_, ?_⟩
    · show (acc ++ [c]).length + xs.length ≤ 5
      rw [List.length_append, List.length_singleton]; omega
    · intro d hd
      rcases List.mem_append.mp hd with hd | hd
      · exact ha d hd
      · rw [List.mem_singleton.mp hd]; exact hc
  have hlen : (rangeL 0 r).length ≤ 5 := by rw [rangeL_len]; omega
  obtain ⟨⟨Ns, b6⟩, ρ6, eL6, g3, k5, rfl, hk5, hg3, hN5, hNs⟩ := loop_ind step (rangeL 0 r) ([], true) [S, s1, .vl .top g2, .vl .sh x, .vl .fr (.list L), .vl .fr (.list NM), s6, s7, s8, s9, .un, .un, .un, .un, .un] ⟨g2, .fr, rfl, .inl rfl, hg2.mono (by omega), by simpa using hlen, by simp⟩
  have hN5 : Ns.length ≤ 5 := hN5
  have hNs : ∀ d ∈ Ns, atomG d := fun d hd => NM_atom d (hNs d hd)
  have hk6 : mkK b6 (.list Ns) = .fr := mkK_imm fun d hd => atom_imm (hNs d hd)
  have h5' : Fr (.vl k5 (.list NM)) := .sh (by rcases hk5 with rfl | rfl <;> decide)
  generalize hS5 : Slot.vl k5 (.list NM) = t5 at eL6 h5'
  have e6 : evE (GG (n + 9)) (.lc (.sq .range1 [(.call "_law_random" [(.io 2), (.lit (.int 5))] [0, 1])]) (.nm 13) [12, 13] [] (.call "_law_pick" [(.io 2), (.var 5)] [0, 1])) [S, s1, .vl .top g1, .vl .sh x, .vl .fr (.list L), .vl .fr (.list NM), s6, s7, s8, s9, .un, .un, .un, .un, .un] = .ok (.list Ns, .fr, [S, s1, .vl .top g3, .vl .sh x, .vl .fr (.list L), t5, s6, s7, s8, s9, .un, .un, .un, .un, .un]) := by
    rw [ev_lc hsrc6 rfl eL6 (line_ok (by omega)), hk6]
    rfl
  have hg3 : Gen (m + 120) g3 := hg3.mono (by simp)
  -- good
  let p : D → Bool := fun d => isStrD d && nameB d
  have hi6 : immL Ns = true := immL_all fun d hd => atom_imm (hNs d hd)
  have hsrc7 : evSrc (GG (n + 9)) (.pt 6) [S, s1, .vl .top g3, .vl .sh x, .vl .fr (.list L), t5, .vl .fr (.list Ns), s7, s8, s9, .un, .un, .un, .un, .un] = .ok (Ns, [S, s1, .vl .top g3, .vl .sh x, .vl .fr (.list L), t5, .vl .fr (.list Ns), s7, s8, s9, .un, .un, .un, .un, .un]) := by
    simp [ev_lit, ev_var, ev_mv, ev_op, ev_and, ev_or, ev_not, ev_ite, ev_chain, evL_nil, evL_pk, evL_pt, evT_nil, evT_cons, src_pt, src_sq, bind_ok, optR_some, noExc_ok, getS, setS, bound, peek, evL_lit, evA_lit, evL_var, evA_var, evL_mv, evA_mv, evL_con, evA_con, evL_op, evA_op, evL_and, evA_and, evL_or, evA_or, evL_not, evA_not, evL_ite, evA_ite, evL_chain, evA_chain, evL_call, evA_call, evL_lc, evA_lc, evL_mut, evA_mut, evA_nil, evA_io, imm, immL, immKids, topK, scalarP, truth, prim, okA, okN, okP, okT, okB, isType, seqOf, walkR, List.getElem?_cons_zero, List.getElem?_cons_succ, Option.getD_some, Option.bind_some, Option.bind_none, Option.map_some, isNoneD, isBoolD, hi6]
  have eL7 := lc_loop (ρ := [S, s1, .vl .top g3, .vl .sh x, .vl .fr (.list L), t5, .un, s7, s8, s9, .un, .un, .un, .un, .un]) (bd := fun x ρ => bindT (.nm 14) x .sh ρ) (test := fun ρ => evT (GG (n + 9)) [(.and_ (.op (.isi "str") [(.pk 14)]) (.call "_law_name" [(.var 14)] [0]))] ρ) (elt := fun ρ => evE (GG (n + 9)) (.var 14) ρ) (hs := [6, 12, 14]) (p := p) (q := id) (kk := fun _ => .sh) Ns [] true (by
    intro d hd
    refine ⟨[S, s1, .vl .top g3, .vl .sh x, .vl .fr (.list L), t5, .un, s7, s8, s9, .un, .un, .un, .un, .vl .sh d], [S, s1, .vl .top g3, .vl .sh x, .vl .fr (.list L), t5, .un, s7, s8, s9, .un, .un, .un, .un, .vl .sh d], rfl, ?_, fun _ => rfl, fun _ => ⟨[S, s1, .vl .top g3, .vl .sh x, .vl .fr (.list L), t5, .un, s7, s8, s9, .un, .un, .un, .un, .vl .sh d], by simp [ev_lit, ev_var, ev_mv, ev_op, ev_and, ev_or, ev_not, ev_ite, ev_chain, evL_nil, evL_pk, evL_pt, evT_nil, evT_cons, src_pt, src_sq, bind_ok, optR_some, noExc_ok, getS, setS, bound, peek, evL_lit, evA_lit, evL_var, evA_var, evL_mv, evA_mv, evL_con, evA_con, evL_op, evA_op, evL_and, evA_and, evL_or, evA_or, evL_not, evA_not, evL_ite, evA_ite, evL_chain, evA_chain, evL_call, evA_call, evL_lc, evA_lc, evL_mut, evA_mut, evA_nil, evA_io, imm, immL, immKids, topK, scalarP, truth, prim, okA, okN, okP, okT, okB, isType, seqOf, walkR, List.getElem?_cons_zero, List.getElem?_cons_succ, Option.getD_some, Option.bind_some, Option.bind_none, Option.map_some, isNoneD, isBoolD], rfl⟩⟩
    have ha := hNs d hd
    have eN : evE (GG (n + 9)) (.call "_law_name" [(.var 14)] [0]) [S, s1, .vl .top g3, .vl .sh x, .vl .fr (.list L), t5, .un, s7, s8, s9, .un, .un, .un, .un, .vl .sh d] = .ok (.bool (nameB d), .fr, [S, s1, .vl .top g3, .vl .sh x, .vl .fr (.list L), t5, .un, s7, s8, s9, .un, .un, .un, .un, .vl .sh d]) := by
      refine ev_call (ds := [d]) (os := []) ?_ (fn_name (n + 8)) rfl (name_ok (n + 8) d (atom_small ha).1) rfl rfl
      simp [ev_lit, ev_var, ev_mv, ev_op, ev_and, ev_or, ev_not, ev_ite, ev_chain, evL_nil, evL_pk, evL_pt, evT_nil, evT_cons, src_pt, src_sq, bind_ok, optR_some, noExc_ok, getS, setS, bound, peek, evL_lit, evA_lit, evL_var, evA_var, evL_mv, evA_mv, evL_con, evA_con, evL_op, evA_op, evL_and, evA_and, evL_or, evA_or, evL_not, evA_not, evL_ite, evA_ite, evL_chain, evA_chain, evL_call, evA_call, evL_lc, evA_lc, evL_mut, evA_mut, evA_nil, evA_io, imm, immL, immKids, topK, scalarP, truth, prim, okA, okN, okP, okT, okB, isType, seqOf, walkR, List.getElem?_cons_zero, List.getElem?_cons_succ, Option.getD_some, Option.bind_some, Option.bind_none, Option.map_some, isNoneD, isBoolD]
    show evT (GG (n + 9)) [(.and_ (.op (.isi "str") [(.pk 14)]) (.call "_law_name" [(.var 14)] [0]))] _ = .ok (isStrD d && nameB d, _)
    cases hq : nameB d <;> rw [hq] at eN <;> cases d <;> simp [ev_lit, ev_var, ev_mv, ev_op, ev_and, ev_or, ev_not, ev_ite, ev_chain, evL_nil, evL_pk, evL_pt, evT_nil, evT_cons, src_pt, src_sq, bind_ok, optR_some, noExc_ok, getS, setS, bound, peek, evL_lit, evA_lit, evL_var, evA_var, evL_mv, evA_mv, evL_con, evA_con, evL_op, evA_op, evL_and, evA_and, evL_or, evA_or, evL_not, evA_not, evL_ite, evA_ite, evL_chain, evA_chain, evL_call, evA_call, evL_lc, evA_lc, evL_mut, evA_mut, evA_nil, evA_io, imm, immL, immKids, topK, scalarP, truth, prim, okA, okN, okP, okT, okB, isType, seqOf, walkR, List.getElem?_cons_zero, List.getElem?_cons_succ, Option.getD_some, Option.bind_some, Option.bind_none, Option.map_some, isNoneD, isBoolD, eN, isStrD])
  let Gd := (Ns.filter p).map id
  have hGd : ∀ d ∈ Gd, d ∈ Ns ∧ isStrD d = true := fun d hd => by
    have hd : d ∈ (Ns.filter p).map id := hd
    rw [List.map_id] at hd
    obtain ⟨a, b⟩ := List.mem_filter.mp hd
    exact ⟨a, (Bool.and_eq_true_iff.mp b).1⟩
  have hGl : Gd.length ≤ 5 := by
    show ((Ns.filter p).map id).length ≤ 5
    rw [List.length_map]
    exact Nat.le_trans (List.length_filter_le _ _) hN5
  have hk7 : ∀ b, mkK b (.list Gd) = .fr := fun b => mkK_imm fun d hd => atom_imm (hNs d (hGd d hd).1)
  have e7 : evE (GG (n + 9)) (.lc (.pt 6) (.nm 14) [12, 14] [(.and_ (.op (.isi "str") [(.pk 14)]) (.call "_law_name" [(.var 14)] [0]))] (.var 14)) [S, s1, .vl .top g3, .vl .sh x, .vl .fr (.list L), t5, .vl .fr (.list Ns), s7, s8, s9, .un, .un, .un, .un, .un] = .ok (.list Gd, .fr, [S, s1, .vl .top g3, .vl .sh x, .vl .fr (.list L), t5, .vl .fr (.list Ns), s7, s8, s9, .un, .un, .un, .un, .un]) := by
    rw [ev_lc hsrc7 rfl eL7 (line_ok (by show Gd.length ≤ _; omega))]
    show Res.ok (PyData.list Gd, mkK _ (.list Gd), _) = _
    rw [hk7]
    rfl
  generalize Gd = G7 at hGd hGl e7
  have pG : Plain G7 := ⟨by omega, .inr fun d hd => (hGd d hd).2⟩
  have aG : ∀ d ∈ G7, atomG d := fun d hd => hNs d (hGd d hd).1
  -- lists
  obtain ⟨us, eu, hul, hum⟩ := unlike_ok (n + 8) pG
  obtain ⟨ss, kss, es, hkss, hsl, hsm⟩ := pG.sorted
  have aU : ∀ d ∈ us, atomG d := fun d hd => aG d (hum d hd)
  have iU : ∀ d ∈ us, imm d = true := fun d hd => atom_imm (aU d hd)
  have htu : tupleD (.list us) = some (.tuple us, .fr) := by
    show okT us = _
    unfold okT
    rw [immL_all iU]; rfl
  have hcu : cutD (.list us) none (some 1) = some (.list (us.take 1), .fr) := by
    show okN (.list (cut us none (some ((1 : Nat) : Int)))) = _
    rw [cut_take]
    show some (_, mkK false (.list (us.take 1))) = _
    rw [mkK_imm fun d hd => iU d (List.mem_of_mem_take hd)]
  have hru : revD (.list us) = some (.list us.reverse, .fr) := by
    show some (_, mkK false (.list us.reverse)) = _
    rw [mkK_imm fun d hd => iU d (List.mem_reverse.mp hd)]
  have l7 : line 7 = true := by decide
  have iN : immL Ns = true := hi6
  have iG : immL G7 = true := immL_all fun d hd => atom_imm (aG d hd)
  have hkss' : kss ≠ .io := by rw [hkss]; unfold mkK; split <;> decide
  let LV : List D := [.list Ns, .list G7, .list ss, .list us, .tuple us, .list (us.take 1), .list us.reverse]
  have un7 : evE (GG (n + 9)) (.call "_law_unlike" [(.var 7)] [0]) [S, s1, .vl .top g3, .vl .sh x, .vl .fr (.list L), t5, .vl .sh (.list Ns), .vl .sh (.list G7), s8, s9, .un, .un, .un, .un, .un] = .ok (.list us, .fr, [S, s1, .vl .top g3, .vl .sh x, .vl .fr (.list L), t5, .vl .sh (.list Ns), .vl .sh (.list G7), s8, s9, .un, .un, .un, .un, .un]) := by
    refine ev_call (ds := [.list G7]) (os := []) ?_ (fn_unlike (n + 8)) rfl eu rfl rfl
    simp [ev_lit, ev_var, ev_mv, ev_op, ev_and, ev_or, ev_not, ev_ite, ev_chain, evL_nil, evL_pk, evL_pt, evT_nil, evT_cons, src_pt, src_sq, bind_ok, optR_some, noExc_ok, getS, setS, bound, peek, evL_lit, evA_lit, evL_var, evA_var, evL_mv, evA_mv, evL_con, evA_con, evL_op, evA_op, evL_and, evA_and, evL_or, evA_or, evL_not, evA_not, evL_ite, evA_ite, evL_chain, evA_chain, evL_call, evA_call, evL_lc, evA_lc, evL_mut, evA_mut, evA_nil, evA_io, imm, immL, immKids, topK, scalarP, truth, prim, okA, okN, okP, okT, okB, isType, seqOf, walkR, List.getElem?_cons_zero, List.getElem?_cons_succ, Option.getD_some, Option.bind_some, Option.bind_none, Option.map_some, isNoneD, isBoolD]
  have e8 : evE (GG (n + 9)) (.op .lst [(.var 6), (.var 7), (.op .sorted [(.pt 7)]), (.call "_law_unlike" [(.var 7)] [0]), (.op .tuple [(.call "_law_unlike" [(.var 7)] [0])]), (.op (.slc false true) [(.call "_law_unlike" [(.var 7)] [0]), (.lit (.int 1))]), (.op .rev [(.call "_law_unlike" [(.var 7)] [0])])]) [S, s1, .vl .top g3, .vl .sh x, .vl .fr (.list L), t5, .vl .fr (.list Ns), .vl .fr (.list G7), s8, s9, .un, .un, .un, .un, .un] = .ok (.list LV, .top, [S, s1, .vl .top g3, .vl .sh x, .vl .fr (.list L), t5, .vl .sh (.list Ns), .vl .sh (.list G7), s8, s9, .un, .un, .un, .un, .un]) := by
    simp [ev_lit, ev_var, ev_mv, ev_op, ev_and, ev_or, ev_not, ev_ite, ev_chain, evL_nil, evL_pk, evL_pt, evT_nil, evT_cons, src_pt, src_sq, bind_ok, optR_some, noExc_ok, getS, setS, bound, peek, evL_lit, evA_lit, evL_var, evA_var, evL_mv, evA_mv, evL_con, evA_con, evL_op, evA_op, evL_and, evA_and, evL_or, evA_or, evL_not, evA_not, evL_ite, evA_ite, evL_chain, evA_chain, evL_call, evA_call, evL_lc, evA_lc, evL_mut, evA_mut, evA_nil, evA_io, imm, immL, immKids, topK, scalarP, truth, prim, okA, okN, okP, okT, okB, isType, seqOf, walkR, List.getElem?_cons_zero, List.getElem?_cons_succ, Option.getD_some, Option.bind_some, Option.bind_none, Option.map_some, isNoneD, isBoolD, un7, es, htu, hcu, hru, l7, mkK, LV, hkss']
  -- the values
  obtain ⟨dA, kA, g4, eA, hkA, hdA, hg4⟩ := any_ok (n + 1) hg3 (by omega)
  obtain ⟨lS, g5, eS, hlS, hg5⟩ := string_ok (n + 5) hg4 (by omega)
  have aL : ∀ d ∈ L, atomG d := fun d hd => by
    obtain ⟨i, rfl, i1, i2⟩ := hLn d hd
    exact .inr (.inr (.inl ⟨i, rfl, i1, i2⟩))
  have pL : Plain L := ⟨by omega, .inl fun d hd => by obtain ⟨i, rfl, _⟩ := hLn d hd; rfl⟩
  obtain ⟨ul, eul, hull, hulm⟩ := unlike_ok (n + 8) pL
  obtain ⟨sl, ksl, esl, hksl, hsll, hslm⟩ := pL.sorted
  have hksl' : (ksl != .io) = true := by rw [hksl]; unfold mkK; split <;> rfl
  have hkA' : (kA != .io) = true := by simpa [bne] using hkA
  have iUl : ∀ d ∈ ul, imm d = true := fun d hd => atom_imm (aL d (hulm d hd))
  have htl : tupleD (.list ul) = some (.tuple ul, .fr) := by
    show okT ul = _
    unfold okT
    rw [immL_all iUl]; rfl
  have hb3x := hg3.box
  have hb4x := hg4.box
  let VS : List D := [dA, .str (mk lS), .list L, .list sl, .list ul, .tuple ul]
  have cA : evE (GG (n + 9)) (.call "_law_any" [(.io 2)] [0]) [S, s1, .vl .top g3, .vl .sh x, .vl .fr (.list L), t5, .vl .sh (.list Ns), .vl .sh (.list G7), .vl .top (.list LV), s9, .un, .un, .un, .un, .un] = .ok (dA, kA, [S, s1, .vl .top g4, .vl .sh x, .vl .fr (.list L), t5, .vl .sh (.list Ns), .vl .sh (.list G7), .vl .top (.list LV), s9, .un, .un, .un, .un, .un]) := by
    refine ev_call (ds := [g3]) (ρ1 := [S, s1, .vl .top g3, .vl .sh x, .vl .fr (.list L), t5, .vl .sh (.list Ns), .vl .sh (.list G7), .vl .top (.list LV), s9, .un, .un, .un, .un, .un]) (os := [g4]) ?_ (fn_any (n + 8)) rfl eA hkA rfl
    simp [ev_lit, ev_var, ev_mv, ev_op, ev_and, ev_or, ev_not, ev_ite, ev_chain, evL_nil, evL_pk, evL_pt, evT_nil, evT_cons, src_pt, src_sq, bind_ok, optR_some, noExc_ok, getS, setS, bound, peek, evL_lit, evA_lit, evL_var, evA_var, evL_mv, evA_mv, evL_con, evA_con, evL_op, evA_op, evL_and, evA_and, evL_or, evA_or, evL_not, evA_not, evL_ite, evA_ite, evL_chain, evA_chain, evL_call, evA_call, evL_lc, evA_lc, evL_mut, evA_mut, evA_nil, evA_io, imm, immL, immKids, topK, scalarP, truth, prim, okA, okN, okP, okT, okB, isType, seqOf, walkR, List.getElem?_cons_zero, List.getElem?_cons_succ, Option.getD_some, Option.bind_some, Option.bind_none, Option.map_some, isNoneD, isBoolD, hb3x]
  have cS : evE (GG (n + 9)) (.call "_law_string" [(.io 2)] [0]) [S, s1, .vl .top g4, .vl .sh x, .vl .fr (.list L), t5, .vl .sh (.list Ns), .vl .sh (.list G7), .vl .top (.list LV), s9, .un, .un, .un, .un, .un] = .ok (.str (mk lS), .fr, [S, s1, .vl .top g5, .vl .sh x, .vl .fr (.list L), t5, .vl .sh (.list Ns), .vl .sh (.list G7), .vl .top (.list LV), s9, .un, .un, .un, .un, .un]) := by
    refine ev_call (ds := [g4]) (ρ1 := [S, s1, .vl .top g4, .vl .sh x, .vl .fr (.list L), t5, .vl .sh (.list Ns), .vl .sh (.list G7), .vl .top (.list LV), s9, .un, .un, .un, .un, .un]) (os := [g5]) ?_ (fn_string (n + 8)) rfl eS rfl rfl
    simp [ev_lit, ev_var, ev_mv, ev_op, ev_and, ev_or, ev_not, ev_ite, ev_chain, evL_nil, evL_pk, evL_pt, evT_nil, evT_cons, src_pt, src_sq, bind_ok, optR_some, noExc_ok, getS, setS, bound, peek, evL_lit, evA_lit, evL_var, evA_var, evL_mv, evA_mv, evL_con, evA_con, evL_op, evA_op, evL_and, evA_and, evL_or, evA_or, evL_not, evA_not, evL_ite, evA_ite, evL_chain, evA_chain, evL_call, evA_call, evL_lc, evA_lc, evL_mut, evA_mut, evA_nil, evA_io, imm, immL, immKids, topK, scalarP, truth, prim, okA, okN, okP, okT, okB, isType, seqOf, walkR, List.getElem?_cons_zero, List.getElem?_cons_succ, Option.getD_some, Option.bind_some, Option.bind_none, Option.map_some, isNoneD, isBoolD, hb4x]
  have cU : evE (GG (n + 9)) (.call "_law_unlike" [(.var 4)] [0]) [S, s1, .vl .top g5, .vl .sh x, .vl .sh (.list L), t5, .vl .sh (.list Ns), .vl .sh (.list G7), .vl .top (.list LV), s9, .un, .un, .un, .un, .un] = .ok (.list ul, .fr, [S, s1, .vl .top g5, .vl .sh x, .vl .sh (.list L), t5, .vl .sh (.list Ns), .vl .sh (.list G7), .vl .top (.list LV), s9, .un, .un, .un, .un, .un]) := by
    refine ev_call (ds := [.list L]) (os := []) ?_ (fn_unlike (n + 8)) rfl eul rfl rfl
    simp [ev_lit, ev_var, ev_mv, ev_op, ev_and, ev_or, ev_not, ev_ite, ev_chain, evL_nil, evL_pk, evL_pt, evT_nil, evT_cons, src_pt, src_sq, bind_ok, optR_some, noExc_ok, getS, setS, bound, peek, evL_lit, evA_lit, evL_var, evA_var, evL_mv, evA_mv, evL_con, evA_con, evL_op, evA_op, evL_and, evA_and, evL_or, evA_or, evL_not, evA_not, evL_ite, evA_ite, evL_chain, evA_chain, evL_call, evA_call, evL_lc, evA_lc, evL_mut, evA_mut, evA_nil, evA_io, imm, immL, immKids, topK, scalarP, truth, prim, okA, okN, okP, okT, okB, isType, seqOf, walkR, List.getElem?_cons_zero, List.getElem?_cons_succ, Option.getD_some, Option.bind_some, Option.bind_none, Option.map_some, isNoneD, isBoolD]
  have l6 : line 6 = true := by decide
  have iLV : immL LV = false := rfl
  have hadd : ∃ k, addD (.list VS) (.list LV) = some (.list (VS ++ LV), k) := by
    have hl : line (VS.length + LV.length) = true := line_ok (show 13 ≤ 16777216 by decide)
    refine ⟨mkK false (.list (VS ++ LV)), ?_⟩
    show (if line (VS.length + LV.length) then okN (.list (VS ++ LV)) else none) = _
    rw [hl]; rfl
  obtain ⟨kv, hadd⟩ := hadd
  have eX : ∃ kx, evE (GG (n + 9)) (.op .lst [(.call "_law_any" [(.io 2)] [0]), (.call "_law_string" [(.io 2)] [0]), (.var 4), (.op .sorted [(.pt 4)]), (.call "_law_unlike" [(.var 4)] [0]), (.op .tuple [(.call "_law_unlike" [(.var 4)] [0])])]) [S, s1, .vl .top g3, .vl .sh x, .vl .fr (.list L), t5, .vl .sh (.list Ns), .vl .sh (.list G7), .vl .top (.list LV), s9, .un, .un, .un, .un, .un] = .ok (.list VS, kx, [S, s1, .vl .top g5, .vl .sh x, .vl .sh (.list L), t5, .vl .sh (.list Ns), .vl .sh (.list G7), .vl .top (.list LV), s9, .un, .un, .un, .un, .un]) ∧ (kx != .io) = true := by
    refine ⟨mkK (([(dA, kA), (.str (mk lS), .fr), (.list L, .sh), (.list sl, ksl), (.list ul, .fr), (.tuple ul, .fr)] : List (D × Own)).all fun x => x.2 == .fr) (.list VS), ?_, by unfold mkK; split <;> rfl⟩
    simp [ev_lit, ev_var, ev_mv, ev_op, ev_and, ev_or, ev_not, ev_ite, ev_chain, evL_nil, evL_pk, evL_pt, evT_nil, evT_cons, src_pt, src_sq, bind_ok, optR_some, noExc_ok, getS, setS, bound, peek, evL_lit, evA_lit, evL_var, evA_var, evL_mv, evA_mv, evL_con, evA_con, evL_op, evA_op, evL_and, evA_and, evL_or, evA_or, evL_not, evA_not, evL_ite, evA_ite, evL_chain, evA_chain, evL_call, evA_call, evL_lc, evA_lc, evL_mut, evA_mut, evA_nil, evA_io, imm, immL, immKids, topK, scalarP, truth, prim, okA, okN, okP, okT, okB, isType, seqOf, walkR, List.getElem?_cons_zero, List.getElem?_cons_succ, Option.getD_some, Option.bind_some, Option.bind_none, Option.map_some, isNoneD, isBoolD, cA, cS, cU, esl, htl, l6, VS, hkA', hksl']
  obtain ⟨kx, eX, hkx⟩ := eX
  have hsrcV : evSrc (GG (n + 9)) (.op .add [(.op .lst [(.call "_law_any" [(.io 2)] [0]), (.call "_law_string" [(.io 2)] [0]), (.var 4), (.op .sorted [(.pt 4)]), (.call "_law_unlike" [(.var 4)] [0]), (.op .tuple [(.call "_law_unlike" [(.var 4)] [0])])]), (.pt 8)]) [S, s1, .vl .top g3, .vl .sh x, .vl .fr (.list L), t5, .vl .sh (.list Ns), .vl .sh (.list G7), .vl .top (.list LV), s9, .un, .un, .un, .un, .un] = .ok (VS ++ LV, [S, s1, .vl .top g5, .vl .sh x, .vl .sh (.list L), t5, .vl .sh (.list Ns), .vl .sh (.list G7), .vl .top (.list LV), s9, .un, .un, .un, .un, .un]) := by
    rw [src_v rfl]
    have hX : peekOf ((.op .lst [(.call "_law_any" [(.io 2)] [0]), (.call "_law_string" [(.io 2)] [0]), (.var 4), (.op .sorted [(.pt 4)]), (.call "_law_unlike" [(.var 4)] [0]), (.op .tuple [(.call "_law_unlike" [(.var 4)] [0])])]) : C) = none := rfl
    generalize ((.op .lst [(.call "_law_any" [(.io 2)] [0]), (.call "_law_string" [(.io 2)] [0]), (.var 4), (.op .sorted [(.pt 4)]), (.call "_law_unlike" [(.var 4)] [0]), (.op .tuple [(.call "_law_unlike" [(.var 4)] [0])])]) : C) = X at eX hX ⊢
    generalize LV = LV' at eX hadd ⊢
    generalize VS = VS' at eX hadd ⊢
    simp [ev_lit, ev_var, ev_mv, ev_op, ev_and, ev_or, ev_not, ev_ite, ev_chain, evL_nil, evL_pk, evL_pt, evT_nil, evT_cons, src_pt, src_sq, bind_ok, optR_some, noExc_ok, getS, setS, bound, peek, evL_lit, evA_lit, evL_var, evA_var, evL_mv, evA_mv, evL_con, evA_con, evL_op, evA_op, evL_and, evA_and, evL_or, evA_or, evL_not, evA_not, evL_ite, evA_ite, evL_chain, evA_chain, evL_call, evA_call, evL_lc, evA_lc, evL_mut, evA_mut, evA_nil, evA_io, imm, immL, immKids, topK, scalarP, truth, prim, okA, okN, okP, okT, okB, isType, seqOf, walkR, List.getElem?_cons_zero, List.getElem?_cons_succ, Option.getD_some, Option.bind_some, Option.bind_none, Option.map_some, isNoneD, isBoolD, evL_cons hX, eX, hadd, hkx]
  have gA : ∀ {xs : List D}, (∀ d ∈ xs, atomG d) → xs.length ≤ 5 → GoodV (.list xs) := fun h hl => list_good h (by omega)
  have hgood : ∀ v ∈ VS ++ LV, GoodV v := by
    intro v hv
    rcases List.mem_append.mp hv with hv | hv
    · simp only [VS, List.mem_cons, List.not_mem_nil, or_false] at hv
      rcases hv with rfl | rfl | rfl | rfl | rfl | rfl
      · exact hdA
      · exact atom_good (.inr (.inr (.inr ⟨lS, rfl, hlS⟩)))
      · exact gA aL hL5
      · exact gA (fun d hd => aL d (hslm d hd)) (by omega)
      · exact gA (fun d hd => aL d (hulm d hd)) (by omega)
      · exact tuple_good (fun d hd => aL d (hulm d hd)) (by omega)
    · simp only [LV, List.mem_cons, List.not_mem_nil, or_false] at hv
      rcases hv with rfl | rfl | rfl | rfl | rfl | rfl | rfl
      · exact gA hNs hN5
      · exact gA aG hGl
      · exact gA (fun d hd => aG d (hsm d hd)) (by omega)
      · exact gA aU (by omega)
      · exact tuple_good aU (by omega)
      · exact gA (fun d hd => aU d (List.mem_of_mem_take hd)) (by rw [List.length_take]; omega)
      · exact gA (fun d hd => aU d (List.mem_reverse.mp hd)) (by rw [List.length_reverse]; omega)
  obtain ⟨t9, eF, h9'⟩ := judge_loop n (S := S) (s1 := s1) (s2 := .vl .top g5) (s3 := .vl .sh x) (s4 := .vl .sh (.list L)) (s5 := t5) (s6 := .vl .sh (.list Ns)) (s7 := .vl .sh (.list G7)) (s8 := .vl .top (.list LV)) (VS ++ LV) s9 hgood h9
  refine ⟨_, (ss_next (s_asg e4 (bind_fr (i := 4) h4))).trans ((ss_next (s_asg e5 (bind_fr (i := 5) h5))).trans ((ss_next (s_asg e6 (bind_fr (i := 6) h6))).trans ((ss_next (s_asg e7 (bind_fr (i := 7) h7))).trans ((ss_next (s_asg e8 (bind_fr (i := 8) h8))).trans ((ss_next (s_for hsrcV rfl eF)).trans ss_nil))))), ⟨g5, _, _, _, _, _, _, rfl, hg5.mono (by omega), .sh (by decide), h5', .sh (by decide), .sh (by decide), .sh (by decide), h9'⟩⟩
end TH.Lk01
end
section
set_option Elab.async false
set_option linter.all false
set_option maxRecDepth 100000
namespace TH.Lk01
open PySem PySem.Spec PyProof.Rows L2
theorem rangeL0 (k : Nat) : rangeL 0 (k : Int) = (List.range k).map fun (i : Nat) => PyData.int (i : Int) := by
  unfold rangeL
  simp
theorem inner_ok (n : Nat) {S s1 s3 s4 s5 s6 s7 s8 s9 : Slot} {g : D} (h3 : Fr s3) (h4 : Fr s4) (h5 : Fr s5) (h6 : Fr s6) (h7 : Fr s7) (h8 : Fr s8) (h9 : Fr s9) (hg : Gen 2000 g) :
    ∃ t2 t3 t4 t5 t6 t7 t8 t9, evS (GG (n + 9)) fuel (.for_ (.nm 3) (.sq .range1 [(.lit (.int 12))]) [(.asg (.nm 4) (.call "_law_numbers" [(.io 2)] [0])), (.asg (.nm 5) (.op .lst [(.lit (.str "a")), (.lit (.str "b")), (.lit (.str "ab")), (.lit (.str "a1")), (.lit (.str "z")), (.lit (.str "abcdefgh")), (.lit (.str "abcdefghi")), (.lit (.str "A")), (.lit (.str "")), (.lit (.str "1a")), (.lit (.int 1)), (.lit .none), (.lit (.str "arm")), (.lit (.str "old")), (.lit (.str "a b")), (.lit (.str "aB")), (.lit (.str "a_b")), (.lit (.str ⟨#[97, 10]⟩)), (.lit (.str "a1b")), (.lit (.str "z0z0z0z0"))])), (.asg (.nm 6) (.lc (.sq .range1 [(.call "_law_random" [(.io 2), (.lit (.int 5))] [0, 1])]) (.nm 13) [12, 13] [] (.call "_law_pick" [(.io 2), (.var 5)] [0, 1]))), (.asg (.nm 7) (.lc (.pt 6) (.nm 14) [12, 14] [(.and_ (.op (.isi "str") [(.pk 14)]) (.call "_law_name" [(.var 14)] [0]))] (.var 14))), (.asg (.nm 8) (.op .lst [(.var 6), (.var 7), (.op .sorted [(.pt 7)]), (.call "_law_unlike" [(.var 7)] [0]), (.op .tuple [(.call "_law_unlike" [(.var 7)] [0])]), (.op (.slc false true) [(.call "_law_unlike" [(.var 7)] [0]), (.lit (.int 1))]), (.op .rev [(.call "_law_unlike" [(.var 7)] [0])])])), (.for_ (.nm 9) (.op .add [(.op .lst [(.call "_law_any" [(.io 2)] [0]), (.call "_law_string" [(.io 2)] [0]), (.var 4), (.op .sorted [(.pt 4)]), (.call "_law_unlike" [(.var 4)] [0]), (.op .tuple [(.call "_law_unlike" [(.var 4)] [0])])]), (.pt 8)]) [(.iff (.not_ (.call "_law_judged" [(.var 9)] [0])) [(.ret (.lit (.bool false)))] [])])]) [S, s1, .vl .fr g, s3, s4, s5, s6, s7, s8, s9, .un, .un, .un, .un, .un] = .ok (.next [S, s1, t2, t3, t4, t5, t6, t7, t8, t9, .un, .un, .un, .un, .un]) ∧ Fr t2 ∧ Fr t3 ∧ Fr t4 ∧ Fr t5 ∧ Fr t6 ∧ Fr t7 ∧ Fr t8 ∧ Fr t9 := by
  let I : List D → Ev → Prop := fun rest ρ => ∃ (kg : Own) (g : D) (s3 s4 s5 s6 s7 s8 s9 : Slot), ρ = [S, s1, .vl kg g, s3, s4, s5, s6, s7, s8, s9, .un, .un, .un, .un, .un] ∧ (kg = .fr ∨ kg = .top) ∧ Gen (6800 - 400 * rest.length) g ∧ rest.length ≤ 12 ∧ Fr s3 ∧ Fr s4 ∧ Fr s5 ∧ Fr s6 ∧ Fr s7 ∧ Fr s8 ∧ Fr s9
  have step : ∀ x rest ρ, I (x :: rest) ρ → ∃ ρ', (fun x ρ => (bindT (.nm 3) x .sh ρ).bind fun ρ => evSs (GG (n + 9)) fuel [(.asg (.nm 4) (.call "_law_numbers" [(.io 2)] [0])), (.asg (.nm 5) (.op .lst [(.lit (.str "a")), (.lit (.str "b")), (.lit (.str "ab")), (.lit (.str "a1")), (.lit (.str "z")), (.lit (.str "abcdefgh")), (.lit (.str "abcdefghi")), (.lit (.str "A")), (.lit (.str "")), (.lit (.str "1a")), (.lit (.int 1)), (.lit .none), (.lit (.str "arm")), (.lit (.str "old")), (.lit (.str "a b")), (.lit (.str "aB")), (.lit (.str "a_b")), (.lit (.str ⟨#[97, 10]⟩)), (.lit (.str "a1b")), (.lit (.str "z0z0z0z0"))])), (.asg (.nm 6) (.lc (.sq .range1 [(.call "_law_random" [(.io 2), (.lit (.int 5))] [0, 1])]) (.nm 13) [12, 13] [] (.call "_law_pick" [(.io 2), (.var 5)] [0, 1]))), (.asg (.nm 7) (.lc (.pt 6) (.nm 14) [12, 14] [(.and_ (.op (.isi "str") [(.pk 14)]) (.call "_law_name" [(.var 14)] [0]))] (.var 14))), (.asg (.nm 8) (.op .lst [(.var 6), (.var 7), (.op .sorted [(.pt 7)]), (.call "_law_unlike" [(.var 7)] [0]), (.op .tuple [(.call "_law_unlike" [(.var 7)] [0])]), (.op (.slc false true) [(.call "_law_unlike" [(.var 7)] [0]), (.lit (.int 1))]), (.op .rev [(.call "_law_unlike" [(.var 7)] [0])])])), (.for_ (.nm 9) (.op .add [(.op .lst [(.call "_law_any" [(.io 2)] [0]), (.call "_law_string" [(.io 2)] [0]), (.var 4), (.op .sorted [(.pt 4)]), (.call "_law_unlike" [(.var 4)] [0]), (.op .tuple [(.call "_law_unlike" [(.var 4)] [0])])]), (.pt 8)]) [(.iff (.not_ (.call "_law_judged" [(.var 9)] [0])) [(.ret (.lit (.bool false)))] [])])] ρ) x ρ = .ok (.next ρ') ∧ I rest ρ' := by
    rintro x rest ρ ⟨kg, g, s3, s4, s5, s6, s7, s8, s9, rfl, hkg, hg, hl, h3, h4, h5, h6, h7, h8, h9⟩
    rw [List.length_cons] at hg hl
    obtain ⟨ρ', e, ⟨g', t4, t5, t6, t7, t8, t9, rfl, hg', k4, k5, k6, k7, k8, k9⟩⟩ := turn_ok n (S := S) (s1 := s1) (x := x) h3 h4 h5 h6 h7 h8 h9 hkg hg (by omega)
    exact ⟨_, e, .top, g', .vl .sh x, t4, t5, t6, t7, t8, t9, rfl, .inr rfl, hg'.mono (by omega), by omega, .sh (by decide), k4, k5, k6, k7, k8, k9⟩
  have hsrc : evSrc (GG (n + 9)) (.sq .range1 [(.lit (.int 12))]) [S, s1, .vl .fr g, s3, s4, s5, s6, s7, s8, s9, .un, .un, .un, .un, .un] = .ok (rangeL 0 12, [S, s1, .vl .fr g, s3, s4, s5, s6, s7, s8, s9, .un, .un, .un, .un, .un]) :=
    srcR1 (k2 := .fr) (by simp [ev_lit, ev_var, ev_mv, ev_op, ev_and, ev_or, ev_not, ev_ite, ev_chain, evL_nil, evL_pk, evL_pt, evT_nil, evT_cons, src_pt, src_sq, bind_ok, optR_some, noExc_ok, getS, setS, bound, peek, evL_lit, evA_lit, evL_var, evA_var, evL_mv, evA_mv, evL_con, evA_con, evL_op, evA_op, evL_and, evA_and, evL_or, evA_or, evL_not, evA_not, evL_ite, evA_ite, evL_chain, evA_chain, evL_call, evA_call, evL_lc, evA_lc, evL_mut, evA_mut, evA_nil, evA_io, imm, immL, immKids, topK, scalarP, truth, prim, okA, okN, okP, okT, okB, isType, seqOf, walkR, List.getElem?_cons_zero, List.getElem?_cons_succ, Option.getD_some, Option.bind_some, Option.bind_none, Option.map_some, isNoneD, isBoolD]) rfl (by decide) (by decide)
  have hlen : (rangeL 0 12).length = 12 := by rw [rangeL_len]; rfl
  obtain ⟨ρ', e, kg, g', t3, t4, t5, t6, t7, t8, t9, rfl, hkg, _, _, k3, k4, k5, k6, k7, k8, k9⟩ := for_ind step (rangeL 0 12) _ ⟨.fr, g, s3, s4, s5, s6, s7, s8, s9, rfl, .inl rfl, hg.mono (by rw [hlen]; decide), by rw [hlen]; decide, h3, h4, h5, h6, h7, h8, h9⟩
  exact ⟨_, _, _, _, _, _, _, _, s_for hsrc rfl e, .sh (by rcases hkg with rfl | rfl <;> decide), k3, k4, k5, k6, k7, k8, k9⟩
theorem outer_ok (n : Nat) (ns : List Int) : ∃ t1 t2 t3 t4 t5 t6 t7 t8 t9, evS (GG (n + 9)) fuel (.for_ (.nm 1) (.sq .range1 [(.lit (.int 3))]) [(.asg (.nm 2) (.call "_law_generator" [(.var 0), (.var 1)] [0, 1])), (.for_ (.nm 3) (.sq .range1 [(.lit (.int 12))]) [(.asg (.nm 4) (.call "_law_numbers" [(.io 2)] [0])), (.asg (.nm 5) (.op .lst [(.lit (.str "a")), (.lit (.str "b")), (.lit (.str "ab")), (.lit (.str "a1")), (.lit (.str "z")), (.lit (.str "abcdefgh")), (.lit (.str "abcdefghi")), (.lit (.str "A")), (.lit (.str "")), (.lit (.str "1a")), (.lit (.int 1)), (.lit .none), (.lit (.str "arm")), (.lit (.str "old")), (.lit (.str "a b")), (.lit (.str "aB")), (.lit (.str "a_b")), (.lit (.str ⟨#[97, 10]⟩)), (.lit (.str "a1b")), (.lit (.str "z0z0z0z0"))])), (.asg (.nm 6) (.lc (.sq .range1 [(.call "_law_random" [(.io 2), (.lit (.int 5))] [0, 1])]) (.nm 13) [12, 13] [] (.call "_law_pick" [(.io 2), (.var 5)] [0, 1]))), (.asg (.nm 7) (.lc (.pt 6) (.nm 14) [12, 14] [(.and_ (.op (.isi "str") [(.pk 14)]) (.call "_law_name" [(.var 14)] [0]))] (.var 14))), (.asg (.nm 8) (.op .lst [(.var 6), (.var 7), (.op .sorted [(.pt 7)]), (.call "_law_unlike" [(.var 7)] [0]), (.op .tuple [(.call "_law_unlike" [(.var 7)] [0])]), (.op (.slc false true) [(.call "_law_unlike" [(.var 7)] [0]), (.lit (.int 1))]), (.op .rev [(.call "_law_unlike" [(.var 7)] [0])])])), (.for_ (.nm 9) (.op .add [(.op .lst [(.call "_law_any" [(.io 2)] [0]), (.call "_law_string" [(.io 2)] [0]), (.var 4), (.op .sorted [(.pt 4)]), (.call "_law_unlike" [(.var 4)] [0]), (.op .tuple [(.call "_law_unlike" [(.var 4)] [0])])]), (.pt 8)]) [(.iff (.not_ (.call "_law_judged" [(.var 9)] [0])) [(.ret (.lit (.bool false)))] [])])])]) [.vl .sh (.list (ns.map .int)), .un, .un, .un, .un, .un, .un, .un, .un, .un, .un, .un, .un, .un, .un] = .ok (.next [.vl .sh (.list (ns.map .int)), t1, t2, t3, t4, t5, t6, t7, t8, t9, .un, .un, .un, .un, .un]) ∧ Fr t9 := by
  let I : List D → Ev → Prop := fun rest ρ => ∃ (s1 s2 s3 s4 s5 s6 s7 s8 s9 : Slot), ρ = [.vl .sh (.list (ns.map .int)), s1, s2, s3, s4, s5, s6, s7, s8, s9, .un, .un, .un, .un, .un] ∧ Fr s1 ∧ Fr s2 ∧ Fr s3 ∧ Fr s4 ∧ Fr s5 ∧ Fr s6 ∧ Fr s7 ∧ Fr s8 ∧ Fr s9 ∧ ∀ d ∈ rest, ∃ j : Int, d = .int j ∧ 0 ≤ j ∧ j ≤ 2
  have step : ∀ x rest ρ, I (x :: rest) ρ → ∃ ρ', (fun x ρ => (bindT (.nm 1) x .sh ρ).bind fun ρ => evSs (GG (n + 9)) fuel [(.asg (.nm 2) (.call "_law_generator" [(.var 0), (.var 1)] [0, 1])), (.for_ (.nm 3) (.sq .range1 [(.lit (.int 12))]) [(.asg (.nm 4) (.call "_law_numbers" [(.io 2)] [0])), (.asg (.nm 5) (.op .lst [(.lit (.str "a")), (.lit (.str "b")), (.lit (.str "ab")), (.lit (.str "a1")), (.lit (.str "z")), (.lit (.str "abcdefgh")), (.lit (.str "abcdefghi")), (.lit (.str "A")), (.lit (.str "")), (.lit (.str "1a")), (.lit (.int 1)), (.lit .none), (.lit (.str "arm")), (.lit (.str "old")), (.lit (.str "a b")), (.lit (.str "aB")), (.lit (.str "a_b")), (.lit (.str ⟨#[97, 10]⟩)), (.lit (.str "a1b")), (.lit (.str "z0z0z0z0"))])), (.asg (.nm 6) (.lc (.sq .range1 [(.call "_law_random" [(.io 2), (.lit (.int 5))] [0, 1])]) (.nm 13) [12, 13] [] (.call "_law_pick" [(.io 2), (.var 5)] [0, 1]))), (.asg (.nm 7) (.lc (.pt 6) (.nm 14) [12, 14] [(.and_ (.op (.isi "str") [(.pk 14)]) (.call "_law_name" [(.var 14)] [0]))] (.var 14))), (.asg (.nm 8) (.op .lst [(.var 6), (.var 7), (.op .sorted [(.pt 7)]), (.call "_law_unlike" [(.var 7)] [0]), (.op .tuple [(.call "_law_unlike" [(.var 7)] [0])]), (.op (.slc false true) [(.call "_law_unlike" [(.var 7)] [0]), (.lit (.int 1))]), (.op .rev [(.call "_law_unlike" [(.var 7)] [0])])])), (.for_ (.nm 9) (.op .add [(.op .lst [(.call "_law_any" [(.io 2)] [0]), (.call "_law_string" [(.io 2)] [0]), (.var 4), (.op .sorted [(.pt 4)]), (.call "_law_unlike" [(.var 4)] [0]), (.op .tuple [(.call "_law_unlike" [(.var 4)] [0])])]), (.pt 8)]) [(.iff (.not_ (.call "_law_judged" [(.var 9)] [0])) [(.ret (.lit (.bool false)))] [])])])] ρ) x ρ = .ok (.next ρ') ∧ I rest ρ' := by
    rintro x rest ρ ⟨s1, s2, s3, s4, s5, s6, s7, s8, s9, rfl, h1, h2, h3, h4, h5, h6, h7, h8, h9, hr⟩
    obtain ⟨j, rfl, j0, j2⟩ := hr x (.head _)
    obtain ⟨g, eg, hg⟩ := generator_ok (n + 7) ns j j0 j2
    have hb : bindT (.nm 1) (.int j) .sh [.vl .sh (.list (ns.map .int)), s1, s2, s3, s4, s5, s6, s7, s8, s9, .un, .un, .un, .un, .un] = .ok [.vl .sh (.list (ns.map .int)), .vl .sh (.int j), s2, s3, s4, s5, s6, s7, s8, s9, .un, .un, .un, .un, .un] := bind_fr (i := 1) h1
    have eG : evE (GG (n + 9)) (.call "_law_generator" [(.var 0), (.var 1)] [0, 1]) [.vl .sh (.list (ns.map .int)), .vl .sh (.int j), s2, s3, s4, s5, s6, s7, s8, s9, .un, .un, .un, .un, .un] = .ok (g, .fr, [.vl .sh (.list (ns.map .int)), .vl .sh (.int j), s2, s3, s4, s5, s6, s7, s8, s9, .un, .un, .un, .un, .un]) := by
      refine ev_call (ds := [.list (ns.map .int), .int j]) (os := []) ?_ (fn_generator (n + 8)) rfl eg rfl rfl
      simp [ev_lit, ev_var, ev_mv, ev_op, ev_and, ev_or, ev_not, ev_ite, ev_chain, evL_nil, evL_pk, evL_pt, evT_nil, evT_cons, src_pt, src_sq, bind_ok, optR_some, noExc_ok, getS, setS, bound, peek, evL_lit, evA_lit, evL_var, evA_var, evL_mv, evA_mv, evL_con, evA_con, evL_op, evA_op, evL_and, evA_and, evL_or, evA_or, evL_not, evA_not, evL_ite, evA_ite, evL_chain, evA_chain, evL_call, evA_call, evL_lc, evA_lc, evL_mut, evA_mut, evA_nil, evA_io, imm, immL, immKids, topK, scalarP, truth, prim, okA, okN, okP, okT, okB, isType, seqOf, walkR, List.getElem?_cons_zero, List.getElem?_cons_succ, Option.getD_some, Option.bind_some, Option.bind_none, Option.map_some, isNoneD, isBoolD]
    obtain ⟨t2, t3, t4, t5, t6, t7, t8, t9, eI, k2, k3, k4, k5, k6, k7, k8, k9⟩ := inner_ok n (S := .vl .sh (.list (ns.map .int))) (s1 := .vl .sh (.int j)) h3 h4 h5 h6 h7 h8 h9 hg
    refine ⟨_, ?_, .vl .sh (.int j), t2, t3, t4, t5, t6, t7, t8, t9, rfl, .sh (by decide), k2, k3, k4, k5, k6, k7, k8, k9, fun d hd => hr d (.tail _ hd)⟩
    show (bindT (.nm 1) (.int j) .sh _).bind _ = _
    rw [hb, bind_ok]
    exact (ss_next (s_asg eG (bind_fr (i := 2) h2))).trans ((ss_next eI).trans ss_nil)
  have hsrc : evSrc (GG (n + 9)) (.sq .range1 [(.lit (.int 3))]) [.vl .sh (.list (ns.map .int)), .un, .un, .un, .un, .un, .un, .un, .un, .un, .un, .un, .un, .un, .un] = .ok (rangeL 0 3, [.vl .sh (.list (ns.map .int)), .un, .un, .un, .un, .un, .un, .un, .un, .un, .un, .un, .un, .un, .un]) :=
    srcR1 (k2 := .fr) (by simp [ev_lit, ev_var, ev_mv, ev_op, ev_and, ev_or, ev_not, ev_ite, ev_chain, evL_nil, evL_pk, evL_pt, evT_nil, evT_cons, src_pt, src_sq, bind_ok, optR_some, noExc_ok, getS, setS, bound, peek, evL_lit, evA_lit, evL_var, evA_var, evL_mv, evA_mv, evL_con, evA_con, evL_op, evA_op, evL_and, evA_and, evL_or, evA_or, evL_not, evA_not, evL_ite, evA_ite, evL_chain, evA_chain, evL_call, evA_call, evL_lc, evA_lc, evL_mut, evA_mut, evA_nil, evA_io, imm, immL, immKids, topK, scalarP, truth, prim, okA, okN, okP, okT, okB, isType, seqOf, walkR, List.getElem?_cons_zero, List.getElem?_cons_succ, Option.getD_some, Option.bind_some, Option.bind_none, Option.map_some, isNoneD, isBoolD]) rfl (by decide) (by decide)
  have fu : Fr .un := .inl rfl
  obtain ⟨ρ', e, t1, t2, t3, t4, t5, t6, t7, t8, t9, rfl, _, _, _, _, _, _, _, _, k9, _⟩ := for_ind step (rangeL 0 3) _ ⟨.un, .un, .un, .un, .un, .un, .un, .un, .un, rfl, fu, fu, fu, fu, fu, fu, fu, fu, fu, fun d hd => by
    obtain ⟨k, hk, rfl⟩ := List.mem_map.mp hd
    have := List.mem_range.mp hk
    exact ⟨_, rfl, by omega, by omega⟩⟩
  exact ⟨_, _, _, _, _, _, _, _, _, s_for hsrc rfl e, k9⟩
/-! the fixed values -/
theorem due_lc (n : Nat) {c : C} {vs : List D} {ρ : Ev} {S s1 s2 s3 s4 s5 s6 s7 s8 s9 s10 s11 : Slot} (hc : hides c = []) (hs : evSrc (GG (n + 9)) c ρ = .ok (vs, [S, s1, s2, s3, s4, s5, s6, s7, s8, s9, s10, s11, .un, .un, .un])) (h9 : Fr s9) (hv : ∀ v ∈ vs, GoodV v) (hl : vs.length ≤ 100) :
    ∃ t9, evE (GG (n + 9)) (.lc c (.nm 9) [12, 9] [] (.call "_law_judged" [(.var 9)] [0])) ρ = .ok (.list (vs.map fun _ => .bool true), .fr, [S, s1, s2, s3, s4, s5, s6, s7, s8, t9, s10, s11, .un, .un, .un]) ∧ Fr t9 := by
  have eL := lc_loop (ρ := [S, s1, s2, s3, s4, s5, s6, s7, s8, .un, s10, s11, .un, .un, .un]) (bd := fun x ρ => bindT (.nm 9) x .sh ρ) (test := fun ρ => evT (GG (n + 9)) [] ρ) (elt := fun ρ => evE (GG (n + 9)) (.call "_law_judged" [(.var 9)] [0]) ρ) (hs := [12, 9]) (p := fun _ => true) (q := fun _ => .bool true) (kk := fun _ => .fr) vs [] true (by
    intro v hvv
    refine ⟨[S, s1, s2, s3, s4, s5, s6, s7, s8, .vl .sh v, s10, s11, .un, .un, .un], [S, s1, s2, s3, s4, s5, s6, s7, s8, .vl .sh v, s10, s11, .un, .un, .un], rfl, evT_nil, (fun z => by cases z), fun _ => ⟨[S, s1, s2, s3, s4, s5, s6, s7, s8, .vl .sh v, s10, s11, .un, .un, .un], ?_, rfl⟩⟩
    refine ev_call (ds := [v]) (os := []) ?_ (fn_jd (n + 8)) rfl (judged_ok (n + 4) v (hv v hvv)) rfl rfl
    simp [ev_lit, ev_var, ev_mv, ev_op, ev_and, ev_or, ev_not, ev_ite, ev_chain, evL_nil, evL_pk, evL_pt, evT_nil, evT_cons, src_pt, src_sq, bind_ok, optR_some, noExc_ok, getS, setS, bound, peek, evL_lit, evA_lit, evL_var, evA_var, evL_mv, evA_mv, evL_con, evA_con, evL_op, evA_op, evL_and, evA_and, evL_or, evA_or, evL_not, evA_not, evL_ite, evA_ite, evL_chain, evA_chain, evL_call, evA_call, evL_lc, evA_lc, evL_mut, evA_mut, evA_nil, evA_io, imm, immL, immKids, topK, scalarP, truth, prim, okA, okN, okP, okT, okB, isType, seqOf, walkR, List.getElem?_cons_zero, List.getElem?_cons_succ, Option.getD_some, Option.bind_some, Option.bind_none, Option.map_some, isNoneD, isBoolD])
  have hb : (true && (vs.filter fun _ => true).all fun x => (Own.fr == Own.fr) || imm ((fun _ => PyData.bool true) x)) = true := by
    rw [Bool.true_and, List.all_eq_true]
    intro _ _; rfl
  have hf : (vs.filter fun _ => true) = vs := by simp
  rw [hb, hf, List.nil_append] at eL
  have hln : line (vs.map fun _ => PyData.bool true).length = true := line_ok (by rw [List.length_map]; omega)
  rcases h9 with rfl | ⟨k, d, rfl, hk⟩
  · refine ⟨.un, ?_, .inl rfl⟩
    rw [ev_lc hs (by rw [hc]; rfl) (by rw [hc]; exact eL) hln, hc]
    rfl
  · refine ⟨.vl .sh d, ?_, .sh (by decide)⟩
    rw [ev_lc hs (by rw [hc]; cases k <;> first | rfl | exact absurd rfl hk) (by rw [hc]; exact eL) hln, hc]
    rfl
def mstr (k : Nat) : D := .str (Str.ofString "n" ++ Str.ofString (toString (10 + (k : Int))))
def many : List D := (List.range 60).map mstr
theorem strD_ok {i : Int} (h : i.natAbs < 1000000000000000000000000000000000000000000000000000000000000) : strD (.int i) = some (.str (Str.ofString (toString i)), .fr) := by
  have := log2_small h
  show (if i.natAbs.log2 < 1920 then okA (.str (toString i)) else none) = _
  rw [if_pos (by omega)]; rfl
theorem ofString_lt (x : String) : ∀ c ∈ (Str.ofString x).cps.toList, c < 1114112 := by
  intro c hc
  rw [Str.ofString_eq_toList] at hc
  have hc : c ∈ ((x.toList.map Char.toNat).toArray).toList := hc
  rw [List.toList_toArray] at hc
  obtain ⟨d, _, rfl⟩ := List.mem_map.mp hc
  have := d.valid
  rcases this with h | h
  · have h : d.toNat < 0xd800 := h
    omega
  · exact h.2
theorem mstr_atom {k : Nat} (hk : k < 60) : atomG (mstr k) := by
  refine str_atom ⟨?_, ?_⟩
  · show ((Str.ofString "n").cps ++ (Str.ofString (toString (10 + (k : Int)))).cps).toList.length ≤ 250
    have h1 : (Str.ofString (toString (10 + (k : Int)))).length ≤ 2 := toString_length_le (by omega) (by decide) (by omega)
    have h2 : (Str.ofString (toString (10 + (k : Int)))).cps.size ≤ 2 := h1
    have h3 : (Str.ofString "n").cps.size = 1 := rfl
    rw [Array.length_toList, Array.size_append]
    omega
  · intro c hc
    have hc : c ∈ ((Str.ofString "n").cps ++ (Str.ofString (toString (10 + (k : Int)))).cps).toList := hc
    rw [Array.toList_append] at hc
    rcases List.mem_append.mp hc with hc | hc
    · exact ofString_lt _ c hc
    · exact ofString_lt _ c hc
theorem many_atom : ∀ d ∈ many, atomG d := fun d hd => by
  obtain ⟨k, hk, rfl⟩ := List.mem_map.mp hd
  exact mstr_atom (List.mem_range.mp hk)
theorem many_len : many.length = 60 := by unfold many; rw [List.length_map, List.length_range]
theorem many_ok (n : Nat) {S s1 s2 s3 s4 s5 s6 s7 s8 s9 : Slot} : evE (GG (n + 9)) (.lc (.sq .range1 [(.lit (.int 60))]) (.nm 13) [12, 13] [] (.op .add [(.lit (.str "n")), (.op .str [(.op .add [(.lit (.int 10)), (.pt 13)])])])) [S, s1, s2, s3, s4, s5, s6, s7, s8, s9, .un, .un, .un, .un, .un] = .ok (.list many, .fr, [S, s1, s2, s3, s4, s5, s6, s7, s8, s9, .un, .un, .un, .un, .un]) := by
  have hsrc : evSrc (GG (n + 9)) (.sq .range1 [(.lit (.int 60))]) [S, s1, s2, s3, s4, s5, s6, s7, s8, s9, .un, .un, .un, .un, .un] = .ok ((List.range 60).map fun (i : Nat) => PyData.int (i : Int), [S, s1, s2, s3, s4, s5, s6, s7, s8, s9, .un, .un, .un, .un, .un]) := by
    rw [← rangeL0]
    exact srcR1 (k2 := .fr) (by simp [ev_lit, ev_var, ev_mv, ev_op, ev_and, ev_or, ev_not, ev_ite, ev_chain, evL_nil, evL_pk, evL_pt, evT_nil, evT_cons, src_pt, src_sq, bind_ok, optR_some, noExc_ok, getS, setS, bound, peek, evL_lit, evA_lit, evL_var, evA_var, evL_mv, evA_mv, evL_con, evA_con, evL_op, evA_op, evL_and, evA_and, evL_or, evA_or, evL_not, evA_not, evL_ite, evA_ite, evL_chain, evA_chain, evL_call, evA_call, evL_lc, evA_lc, evL_mut, evA_mut, evA_nil, evA_io, imm, immL, immKids, topK, scalarP, truth, prim, okA, okN, okP, okT, okB, isType, seqOf, walkR, List.getElem?_cons_zero, List.getElem?_cons_succ, Option.getD_some, Option.bind_some, Option.bind_none, Option.map_some, isNoneD, isBoolD]) rfl (by decide) (by decide)
  let q : D → D := fun d => match d with | .int i => .str (Str.ofString "n" ++ Str.ofString (toString (10 + i))) | _ => .none
  have eL := lc_loop (ρ := [S, s1, s2, s3, s4, s5, s6, s7, s8, s9, .un, .un, .un, .un, .un]) (bd := fun x ρ => bindT (.nm 13) x .sh ρ) (test := fun ρ => evT (GG (n + 9)) [] ρ) (elt := fun ρ => evE (GG (n + 9)) (.op .add [(.lit (.str "n")), (.op .str [(.op .add [(.lit (.int 10)), (.pt 13)])])]) ρ) (hs := [12, 13]) (p := fun _ => true) (q := q) (kk := fun _ => .fr) ((List.range 60).map fun (i : Nat) => PyData.int (i : Int)) [] true (by
    intro v hvv
    obtain ⟨k, hk, rfl⟩ := List.mem_map.mp hvv
    have hk := List.mem_range.mp hk
    refine ⟨[S, s1, s2, s3, s4, s5, s6, s7, s8, s9, .un, .un, .un, .vl .sh (.int (k : Int)), .un], [S, s1, s2, s3, s4, s5, s6, s7, s8, s9, .un, .un, .un, .vl .sh (.int (k : Int)), .un], rfl, evT_nil, (fun z => by cases z), fun _ => ⟨[S, s1, s2, s3, s4, s5, s6, s7, s8, s9, .un, .un, .un, .vl .sh (.int (k : Int)), .un], ?_, rfl⟩⟩
    have a1 : addD (.int 10) (.int (k : Int)) = some (.int (10 + (k : Int)), .fr) := rfl
    have s1' : strD (.int (10 + (k : Int))) = some (.str (Str.ofString (toString (10 + (k : Int)))), .fr) := strD_ok (by omega)
    have a2 : addD (.str (Str.ofString "n")) (.str (Str.ofString (toString (10 + (k : Int))))) = some (mstr k, .fr) := by
      have h1 : (Str.ofString (toString (10 + (k : Int)))).length ≤ 2 := toString_length_le (by omega) (by decide) (by omega)
      have h3 : (Str.ofString "n").length = 1 := rfl
      have hl : line ((Str.ofString "n").length + (Str.ofString (toString (10 + (k : Int)))).length) = true := line_ok (by omega)
      show (if line _ then okA _ else none) = _
      rw [hl]; rfl
    show _ = Res.ok (mstr k, _, _)
    generalize mstr k = M at a2 ⊢
    generalize Str.ofString (toString (10 + (k : Int))) = T at s1' a2
    generalize (10 + (k : Int)) = u at a1 s1'
    simp [ev_lit, ev_var, ev_mv, ev_op, ev_and, ev_or, ev_not, ev_ite, ev_chain, evL_nil, evL_pk, evL_pt, evT_nil, evT_cons, src_pt, src_sq, bind_ok, optR_some, noExc_ok, getS, setS, bound, peek, evL_lit, evA_lit, evL_var, evA_var, evL_mv, evA_mv, evL_con, evA_con, evL_op, evA_op, evL_and, evA_and, evL_or, evA_or, evL_not, evA_not, evL_ite, evA_ite, evL_chain, evA_chain, evL_call, evA_call, evL_lc, evA_lc, evL_mut, evA_mut, evA_nil, evA_io, imm, immL, immKids, topK, scalarP, truth, prim, okA, okN, okP, okT, okB, isType, seqOf, walkR, List.getElem?_cons_zero, List.getElem?_cons_succ, Option.getD_some, Option.bind_some, Option.bind_none, Option.map_some, isNoneD, isBoolD, a1, s1', a2])
  have hb : (true && (((List.range 60).map fun (i : Nat) => PyData.int (i : Int)).filter fun _ => true).all fun x => (Own.fr == Own.fr) || imm (q x)) = true := by
    rw [Bool.true_and, List.all_eq_true]
    intro _ _; rfl
  have hf : (((List.range 60).map fun (i : Nat) => PyData.int (i : Int)).filter fun _ => true) = (List.range 60).map fun (i : Nat) => PyData.int (i : Int) := by simp
  have hm : ((List.range 60).map fun (i : Nat) => PyData.int (i : Int)).map q = many := by
    rw [List.map_map]; rfl
  rw [hb, hf, List.nil_append, hm] at eL
  rw [ev_lc hsrc rfl eL (line_ok (by rw [many_len]; decide))]
  rfl
end TH.Lk01
end
section
set_option Elab.async false
set_option linter.all false
set_option maxRecDepth 100000
namespace TH.Lk01
open PySem PySem.Spec PyProof.Rows L2
theorem d1_ok (n : Nat) {L : List D} (hL : L.length = 60) (ha : ∀ d ∈ L, atomG d) {S s1 s2 s3 s4 s5 s6 s7 s8 s9 : Slot} : ∃ V, evSrc (GG (n + 9)) (.op .lst [(.var 10), (.op .add [(.op (.slc false true) [(.pt 10), (.lit (.int 58))]), (.op .lst [(.op .idx [(.pt 10), (.lit (.int 59))]), (.op .idx [(.pt 10), (.lit (.int 58))])])]), (.op .add [(.op (.slc false true) [(.pt 10), (.lit (.int 59))]), (.op .lst [(.op .idx [(.pt 10), (.lit (.int 58))])])]), (.op .add [(.pt 10), (.op .lst [(.lit (.str "A"))])])]) [S, s1, s2, s3, s4, s5, s6, s7, s8, s9, .vl .fr (.list L), .un, .un, .un, .un] = .ok (V, [S, s1, s2, s3, s4, s5, s6, s7, s8, s9, .vl .sh (.list L), .un, .un, .un, .un]) ∧ (∀ v ∈ V, GoodV v) ∧ V.length ≤ 100 := by
  have h58 : 58 < L.length := by omega
  have h59 : 59 < L.length := by omega
  obtain ⟨a, ea⟩ : ∃ a, L[58]? = some a := ⟨_, List.getElem?_eq_getElem h58⟩
  obtain ⟨b, eb⟩ : ∃ b, L[59]? = some b := ⟨_, List.getElem?_eq_getElem h59⟩
  have aa : atomG a := ha a (List.mem_of_getElem? ea)
  have ab : atomG b := ha b (List.mem_of_getElem? eb)
  have ia := atom_imm aa
  have ib := atom_imm ab
  have i58 : idxD (.list L) (.int 58) = some (a, .sh) := idxD_list (k := 58) rfl ea
  have i59 : idxD (.list L) (.int 59) = some (b, .sh) := idxD_list (k := 59) rfl eb
  have hc : ∀ k : Nat, cutD (.list L) none (some (k : Int)) = some (.list (L.take k), .fr) := fun k => by
    show okN (.list (cut L none (some (k : Int)))) = _
    rw [cut_take]
    show some (_, mkK false (.list (L.take k))) = _
    rw [mkK_imm fun d hd => atom_imm (ha d (List.mem_of_mem_take hd))]
  have c58 : cutD (.list L) none (some 58) = some (.list (L.take 58), .fr) := hc 58
  have c59 : cutD (.list L) none (some 59) = some (.list (L.take 59), .fr) := hc 59
  have l58 : (L.take 58).length = 58 := by rw [List.length_take]; omega
  have l59 : (L.take 59).length = 59 := by rw [List.length_take]; omega
  have t58 : ∀ d ∈ L.take 58, atomG d := fun d hd => ha d (List.mem_of_mem_take hd)
  have t59 : ∀ d ∈ L.take 59, atomG d := fun d hd => ha d (List.mem_of_mem_take hd)
  have hA : atomG (St "A") := str_atom (by decide +kernel)
  have hadd : ∀ {x y : List D}, (∀ d ∈ x, atomG d) → (∀ d ∈ y, atomG d) → x.length + y.length ≤ 70 → addD (.list x) (.list y) = some (.list (x ++ y), .fr) ∧ GoodV (.list (x ++ y)) := by
    intro x y hx hy hl
    have hxy : ∀ d ∈ x ++ y, atomG d := fun d hd => (List.mem_append.mp hd).elim (hx d) (hy d)
    refine ⟨?_, list_good hxy (by rw [List.length_append]; omega)⟩
    show (if line _ then okN _ else none) = _
    rw [line_ok (by omega), if_pos rfl]
    show some (_, mkK false (.list (x ++ y))) = _
    rw [mkK_imm fun d hd => atom_imm (hxy d hd)]
  obtain ⟨a2, g2⟩ := hadd t58 (y := [b, a]) (by intro d hd; rcases List.mem_cons.mp hd with rfl | hd; exact ab; rcases List.mem_cons.mp hd with rfl | hd; exact aa; cases hd) (by simp; omega)
  obtain ⟨a3, g3⟩ := hadd t59 (y := [a]) (by intro d hd; rcases List.mem_cons.mp hd with rfl | hd; exact aa; cases hd) (by simp; omega)
  obtain ⟨a4, g4⟩ := hadd ha (y := [St "A"]) (by intro d hd; rcases List.mem_cons.mp hd with rfl | hd; exact hA; cases hd) (by simp; omega)
  refine ⟨[.list L, .list (L.take 58 ++ [b, a]), .list (L.take 59 ++ [a]), .list (L ++ [St "A"])], ?_, ?_, by simp⟩
  · have l4 : line 4 = true := by decide
    have l2 : line 2 = true := by decide
    have l1 : line 1 = true := by decide
    rw [src_v rfl]
    generalize L.take 58 = T58 at c58 a2
    generalize L.take 59 = T59 at c59 a3
    have a4' : addD (.list L) (.list [.str (Str.ofString "A")]) = some (.list (L ++ [.str (Str.ofString "A")]), .fr) := a4
    simp [ev_lit, ev_var, ev_mv, ev_op, ev_and, ev_or, ev_not, ev_ite, ev_chain, evL_nil, evL_pk, evL_pt, evT_nil, evT_cons, src_pt, src_sq, bind_ok, optR_some, noExc_ok, getS, setS, bound, peek, evL_lit, evA_lit, evL_var, evA_var, evL_mv, evA_mv, evL_con, evA_con, evL_op, evA_op, evL_and, evA_and, evL_or, evA_or, evL_not, evA_not, evL_ite, evA_ite, evL_chain, evA_chain, evL_call, evA_call, evL_lc, evA_lc, evL_mut, evA_mut, evA_nil, evA_io, imm, immL, immKids, topK, scalarP, truth, prim, okA, okN, okP, okT, okB, isType, seqOf, walkR, List.getElem?_cons_zero, List.getElem?_cons_succ, Option.getD_some, Option.bind_some, Option.bind_none, Option.map_some, isNoneD, isBoolD, St, a4', i58, i59, c58, c59, a2, a3, a4, l1, l2, l4, mkK, ia, ib]
  · intro v hv
    rcases List.mem_cons.mp hv with rfl | hv
    · exact list_good ha (by omega)
    rcases List.mem_cons.mp hv with rfl | hv
    · exact g2
    rcases List.mem_cons.mp hv with rfl | hv
    · exact g3
    rcases List.mem_cons.mp hv with rfl | hv
    · exact g4
    cases hv
def D2 : List D := [.list [.int 0, St "a"], .list [St "a", .int 0], .list [.none, .int 0], .list [.int 0, .list [.int 1]], .int 0, .int 1000000000000, .bool true, .int (-1), .str (rep (Str.ofString "a") 8), .str (rep (Str.ofString "a") 9), St "a0", St "0a", .list [], .list [.int 0], .list [.int 0, .int 1000000000000], .list [.bool true], .list [.int 1, .int 1], .list [.int 2, .int 1]]
theorem good_D2 : ∀ x ∈ D2, GoodV x := List.forall_mem_cons.mpr ⟨list_good (List.forall_mem_cons.mpr ⟨.inr (.inr (.inl ⟨_, rfl, by decide, by decide⟩)), List.forall_mem_cons.mpr ⟨str_atom (by decide +kernel), (fun _ z => absurd z List.not_mem_nil)⟩⟩) (by decide), List.forall_mem_cons.mpr ⟨list_good (List.forall_mem_cons.mpr ⟨str_atom (by decide +kernel), List.forall_mem_cons.mpr ⟨.inr (.inr (.inl ⟨_, rfl, by decide, by decide⟩)), (fun _ z => absurd z List.not_mem_nil)⟩⟩) (by decide), List.forall_mem_cons.mpr ⟨list_good (List.forall_mem_cons.mpr ⟨.inl rfl, List.forall_mem_cons.mpr ⟨.inr (.inr (.inl ⟨_, rfl, by decide, by decide⟩)), (fun _ z => absurd z List.not_mem_nil)⟩⟩) (by decide), List.forall_mem_cons.mpr ⟨nest_good (List.forall_mem_cons.mpr ⟨(atom_sv (.inr (.inr (.inl ⟨_, rfl, by decide, by decide⟩)))).mono (by decide) (by decide), List.forall_mem_cons.mpr ⟨(list_sv (w := 300) (k := 0) (n := 4) (List.forall_mem_cons.mpr ⟨atom_sv (.inr (.inr (.inl ⟨_, rfl, by decide, by decide⟩))), (fun _ z => absurd z List.not_mem_nil)⟩) (by decide)).mono (by decide) (by decide), (fun _ z => absurd z List.not_mem_nil)⟩⟩) (by decide) (by decide) (List.forall_mem_cons.mpr ⟨(atom_good (.inr (.inr (.inl ⟨_, rfl, by decide, by decide⟩)))).sm, List.forall_mem_cons.mpr ⟨trivial, (fun _ z => absurd z List.not_mem_nil)⟩⟩), List.forall_mem_cons.mpr ⟨atom_good (.inr (.inr (.inl ⟨_, rfl, by decide, by decide⟩))), List.forall_mem_cons.mpr ⟨atom_good (.inr (.inr (.inl ⟨_, rfl, by decide, by decide⟩))), List.forall_mem_cons.mpr ⟨atom_good (.inr (.inl ⟨_, rfl⟩)), List.forall_mem_cons.mpr ⟨atom_good (.inr (.inr (.inl ⟨_, rfl, by decide, by decide⟩))), List.forall_mem_cons.mpr ⟨atom_good (str_atom (by decide +kernel)), List.forall_mem_cons.mpr ⟨atom_good (str_atom (by decide +kernel)), List.forall_mem_cons.mpr ⟨atom_good (str_atom (by decide +kernel)), List.forall_mem_cons.mpr ⟨atom_good (str_atom (by decide +kernel)), List.forall_mem_cons.mpr ⟨list_good ((fun _ z => absurd z List.not_mem_nil)) (by decide), List.forall_mem_cons.mpr ⟨list_good (List.forall_mem_cons.mpr ⟨.inr (.inr (.inl ⟨_, rfl, by decide, by decide⟩)), (fun _ z => absurd z List.not_mem_nil)⟩) (by decide), List.forall_mem_cons.mpr ⟨list_good (List.forall_mem_cons.mpr ⟨.inr (.inr (.inl ⟨_, rfl, by decide, by decide⟩)), List.forall_mem_cons.mpr ⟨.inr (.inr (.inl ⟨_, rfl, by decide, by decide⟩)), (fun _ z => absurd z List.not_mem_nil)⟩⟩) (by decide), List.forall_mem_cons.mpr ⟨list_good (List.forall_mem_cons.mpr ⟨.inr (.inl ⟨_, rfl⟩), (fun _ z => absurd z List.not_mem_nil)⟩) (by decide), List.forall_mem_cons.mpr ⟨list_good (List.forall_mem_cons.mpr ⟨.inr (.inr (.inl ⟨_, rfl, by decide, by decide⟩)), List.forall_mem_cons.mpr ⟨.inr (.inr (.inl ⟨_, rfl, by decide, by decide⟩)), (fun _ z => absurd z List.not_mem_nil)⟩⟩) (by decide), List.forall_mem_cons.mpr ⟨list_good (List.forall_mem_cons.mpr ⟨.inr (.inr (.inl ⟨_, rfl, by decide, by decide⟩)), List.forall_mem_cons.mpr ⟨.inr (.inr (.inl ⟨_, rfl, by decide, by decide⟩)), (fun _ z => absurd z List.not_mem_nil)⟩⟩) (by decide), (fun _ z => absurd z List.not_mem_nil)⟩⟩⟩⟩⟩⟩⟩⟩⟩⟩⟩⟩⟩⟩⟩⟩⟩⟩
theorem d2_ok (n : Nat) {ρ : Ev} : evSrc (GG (n + 9)) (.op .lst [(.op .lst [(.lit (.int 0)), (.lit (.str "a"))]), (.op .lst [(.lit (.str "a")), (.lit (.int 0))]), (.op .lst [(.lit .none), (.lit (.int 0))]), (.op .lst [(.lit (.int 0)), (.op .lst [(.lit (.int 1))])]), (.lit (.int 0)), (.op .pow [(.lit (.int 10)), (.lit (.int 12))]), (.lit (.bool true)), (.op .neg [(.lit (.int 1))]), (.op .mul [(.lit (.str "a")), (.lit (.int 8))]), (.op .mul [(.lit (.str "a")), (.lit (.int 9))]), (.lit (.str "a0")), (.lit (.str "0a")), (.op .lst []), (.op .lst [(.lit (.int 0))]), (.op .lst [(.lit (.int 0)), (.op .pow [(.lit (.int 10)), (.lit (.int 12))])]), (.op .lst [(.lit (.bool true))]), (.op .lst [(.lit (.int 1)), (.lit (.int 1))]), (.op .lst [(.lit (.int 2)), (.lit (.int 1))])]) ρ = .ok (D2, ρ) := by
  have p12 : powD (.int 10) (.int 12) = some (.int 1000000000000, .fr) := rfl
  have a8 : mulD (.str (Str.ofString "a")) (.int 8) = some (.str (rep (Str.ofString "a") 8), .fr) := mulS (k := 8) (by decide) (by decide)
  have a9 : mulD (.str (Str.ofString "a")) (.int 9) = some (.str (rep (Str.ofString "a") 9), .fr) := mulS (k := 9) (by decide) (by decide)
  have l0 : line 0 = true := by decide
  have l1 : line 1 = true := by decide
  have l2 : line 2 = true := by decide
  have l18 : line 18 = true := by decide
  rw [src_v rfl]
  simp [ev_lit, ev_var, ev_mv, ev_op, ev_and, ev_or, ev_not, ev_ite, ev_chain, evL_nil, evL_pk, evL_pt, evT_nil, evT_cons, src_pt, src_sq, bind_ok, optR_some, noExc_ok, getS, setS, bound, peek, evL_lit, evA_lit, evL_var, evA_var, evL_mv, evA_mv, evL_con, evA_con, evL_op, evA_op, evL_and, evA_and, evL_or, evA_or, evL_not, evA_not, evL_ite, evA_ite, evL_chain, evA_chain, evL_call, evA_call, evL_lc, evA_lc, evL_mut, evA_mut, evA_nil, evA_io, imm, immL, immKids, topK, scalarP, truth, prim, okA, okN, okP, okT, okB, isType, seqOf, walkR, List.getElem?_cons_zero, List.getElem?_cons_succ, Option.getD_some, Option.bind_some, Option.bind_none, Option.map_some, isNoneD, isBoolD, negD, p12, a8, a9, l0, l1, l2, l18, mkK, D2]

theorem main_true (ns : List Int) (h : ns.length ≤ 63) : ∃ k, (runBody (globs con defs fuel lvl) [false] 15 fuel c_law) [.list (ns.map .int)] = .ok (.bool true, k, []) := by
  obtain ⟨t1, t2, t3, t4, t5, t6, t7, t8, t9, e1, h9⟩ := outer_ok 31 ns
  have e2 := many_ok 31 (S := .vl .sh (.list (ns.map .int))) (s1 := t1) (s2 := t2) (s3 := t3) (s4 := t4) (s5 := t5) (s6 := t6) (s7 := t7) (s8 := t8) (s9 := t9)
  obtain ⟨V, eV, gV, lV⟩ := d1_ok 31 many_len many_atom (S := .vl .sh (.list (ns.map .int))) (s1 := t1) (s2 := t2) (s3 := t3) (s4 := t4) (s5 := t5) (s6 := t6) (s7 := t7) (s8 := t8) (s9 := t9)
  obtain ⟨u9, e3, k9⟩ := due_lc 31 rfl eV h9 gV lV
  obtain ⟨v9, e4, j9⟩ := due_lc 31 (S := .vl .sh (.list (ns.map .int))) (s1 := t1) (s2 := t2) (s3 := t3) (s4 := t4) (s5 := t5) (s6 := t6) (s7 := t7) (s8 := t8) (s9 := u9) (s10 := .vl .sh (.list many)) (s11 := .vl .fr (.list (V.map fun _ => .bool true))) rfl (d2_ok 31) k9 good_D2 (by decide)
  have e5 : evE (GG (31 + 9)) (.op .add [(.pt 11), (.lc (.op .lst [(.op .lst [(.lit (.int 0)), (.lit (.str "a"))]), (.op .lst [(.lit (.str "a")), (.lit (.int 0))]), (.op .lst [(.lit .none), (.lit (.int 0))]), (.op .lst [(.lit (.int 0)), (.op .lst [(.lit (.int 1))])]), (.lit (.int 0)), (.op .pow [(.lit (.int 10)), (.lit (.int 12))]), (.lit (.bool true)), (.op .neg [(.lit (.int 1))]), (.op .mul [(.lit (.str "a")), (.lit (.int 8))]), (.op .mul [(.lit (.str "a")), (.lit (.int 9))]), (.lit (.str "a0")), (.lit (.str "0a")), (.op .lst []), (.op .lst [(.lit (.int 0))]), (.op .lst [(.lit (.int 0)), (.op .pow [(.lit (.int 10)), (.lit (.int 12))])]), (.op .lst [(.lit (.bool true))]), (.op .lst [(.lit (.int 1)), (.lit (.int 1))]), (.op .lst [(.lit (.int 2)), (.lit (.int 1))])]) (.nm 9) [12, 9] [] (.call "_law_judged" [(.var 9)] [0]))]) [.vl .sh (.list (ns.map .int)), t1, t2, t3, t4, t5, t6, t7, t8, u9, .vl .sh (.list many), .vl .fr (.list (V.map fun _ => .bool true)), .un, .un, .un] = .ok (.list ((V.map fun _ => .bool true) ++ (D2.map fun _ => .bool true)), .fr, [.vl .sh (.list (ns.map .int)), t1, t2, t3, t4, t5, t6, t7, t8, v9, .vl .sh (.list many), .vl .fr (.list (V.map fun _ => .bool true)), .un, .un, .un]) := by
    have ad : addD (.list (V.map fun _ => .bool true)) (.list (D2.map fun _ => .bool true)) = some (.list ((V.map fun _ => .bool true) ++ (D2.map fun _ => .bool true)), .fr) := by
      show (if line _ then okN _ else none) = _
      have : D2.length = 18 := rfl
      rw [line_ok (by rw [List.length_map, List.length_map]; omega), if_pos rfl]
      show some (_, mkK false _) = _
      rw [mkK_imm fun d hd => by
        rcases List.mem_append.mp hd with hd | hd <;> (obtain ⟨_, _, rfl⟩ := List.mem_map.mp hd; rfl)]
    have hX : peekOf ((.lc (.op .lst [(.op .lst [(.lit (.int 0)), (.lit (.str "a"))]), (.op .lst [(.lit (.str "a")), (.lit (.int 0))]), (.op .lst [(.lit .none), (.lit (.int 0))]), (.op .lst [(.lit (.int 0)), (.op .lst [(.lit (.int 1))])]), (.lit (.int 0)), (.op .pow [(.lit (.int 10)), (.lit (.int 12))]), (.lit (.bool true)), (.op .neg [(.lit (.int 1))]), (.op .mul [(.lit (.str "a")), (.lit (.int 8))]), (.op .mul [(.lit (.str "a")), (.lit (.int 9))]), (.lit (.str "a0")), (.lit (.str "0a")), (.op .lst []), (.op .lst [(.lit (.int 0))]), (.op .lst [(.lit (.int 0)), (.op .pow [(.lit (.int 10)), (.lit (.int 12))])]), (.op .lst [(.lit (.bool true))]), (.op .lst [(.lit (.int 1)), (.lit (.int 1))]), (.op .lst [(.lit (.int 2)), (.lit (.int 1))])]) (.nm 9) [12, 9] [] (.call "_law_judged" [(.var 9)] [0])) : C) = none := rfl
    generalize ((.lc (.op .lst [(.op .lst [(.lit (.int 0)), (.lit (.str "a"))]), (.op .lst [(.lit (.str "a")), (.lit (.int 0))]), (.op .lst [(.lit .none), (.lit (.int 0))]), (.op .lst [(.lit (.int 0)), (.op .lst [(.lit (.int 1))])]), (.lit (.int 0)), (.op .pow [(.lit (.int 10)), (.lit (.int 12))]), (.lit (.bool true)), (.op .neg [(.lit (.int 1))]), (.op .mul [(.lit (.str "a")), (.lit (.int 8))]), (.op .mul [(.lit (.str "a")), (.lit (.int 9))]), (.lit (.str "a0")), (.lit (.str "0a")), (.op .lst []), (.op .lst [(.lit (.int 0))]), (.op .lst [(.lit (.int 0)), (.op .pow [(.lit (.int 10)), (.lit (.int 12))])]), (.op .lst [(.lit (.bool true))]), (.op .lst [(.lit (.int 1)), (.lit (.int 1))]), (.op .lst [(.lit (.int 2)), (.lit (.int 1))])]) (.nm 9) [12, 9] [] (.call "_law_judged" [(.var 9)] [0])) : C) = X at e4 hX
    have hA : immL (V.map fun _ => PyData.bool true) = true := immL_all fun d hd => by obtain ⟨_, _, rfl⟩ := List.mem_map.mp hd; rfl
    generalize (V.map fun _ => PyData.bool true) = A at *
    generalize (D2.map fun _ => PyData.bool true) = B at *
    simp [ev_lit, ev_var, ev_mv, ev_op, ev_and, ev_or, ev_not, ev_ite, ev_chain, evL_nil, evL_pk, evL_pt, evT_nil, evT_cons, src_pt, src_sq, bind_ok, optR_some, noExc_ok, getS, setS, bound, peek, evL_lit, evA_lit, evL_var, evA_var, evL_mv, evA_mv, evL_con, evA_con, evL_op, evA_op, evL_and, evA_and, evL_or, evA_or, evL_not, evA_not, evL_ite, evA_ite, evL_chain, evA_chain, evL_call, evA_call, evL_lc, evA_lc, evL_mut, evA_mut, evA_nil, evA_io, imm, immL, immKids, topK, scalarP, truth, prim, okA, okN, okP, okT, okB, isType, seqOf, walkR, List.getElem?_cons_zero, List.getElem?_cons_succ, Option.getD_some, Option.bind_some, Option.bind_none, Option.map_some, isNoneD, isBoolD, evL_cons hX, e4, ad, hA]
  have hin : inD (.bool false) (.list ((V.map fun _ => .bool true) ++ (D2.map fun _ => .bool true))) = some false := by
    rw [inD_list rfl rfl (noDs_all fun d hd => by
        rcases List.mem_append.mp hd with hd | hd <;> (obtain ⟨_, _, rfl⟩ := List.mem_map.mp hd; rfl))]
    congr 1
    rw [List.any_eq_false]
    intro d hd
    rcases List.mem_append.mp hd with hd | hd <;> (obtain ⟨_, _, rfl⟩ := List.mem_map.mp hd; decide)
  have e6 : evE (GG (31 + 9)) (.op .notin [(.lit (.bool false)), (.pk 11)]) [.vl .sh (.list (ns.map .int)), t1, t2, t3, t4, t5, t6, t7, t8, v9, .vl .sh (.list many), .vl .fr (.list ((V.map fun _ => .bool true) ++ (D2.map fun _ => .bool true))), .un, .un, .un] = .ok (.bool true, .fr, [.vl .sh (.list (ns.map .int)), t1, t2, t3, t4, t5, t6, t7, t8, v9, .vl .sh (.list many), .vl .fr (.list ((V.map fun _ => .bool true) ++ (D2.map fun _ => .bool true))), .un, .un, .un]) := by
    generalize ((V.map fun _ => PyData.bool true) ++ (D2.map fun _ => .bool true)) = A at *
    simp [ev_lit, ev_var, ev_mv, ev_op, ev_and, ev_or, ev_not, ev_ite, ev_chain, evL_nil, evL_pk, evL_pt, evT_nil, evT_cons, src_pt, src_sq, bind_ok, optR_some, noExc_ok, getS, setS, bound, peek, evL_lit, evA_lit, evL_var, evA_var, evL_mv, evA_mv, evL_con, evA_con, evL_op, evA_op, evL_and, evA_and, evL_or, evA_or, evL_not, evA_not, evL_ite, evA_ite, evL_chain, evA_chain, evL_call, evA_call, evL_lc, evA_lc, evL_mut, evA_mut, evA_nil, evA_io, imm, immL, immKids, topK, scalarP, truth, prim, okA, okN, okP, okT, okB, isType, seqOf, walkR, List.getElem?_cons_zero, List.getElem?_cons_succ, Option.getD_some, Option.bind_some, Option.bind_none, Option.map_some, isNoneD, isBoolD, hin]
  have e7 : evSs (GG (31 + 9)) fuel c_law (startS [false] [.list (ns.map .int)] 15) = _ := (ss_next e1).trans ((ss_next (s_asg e2 rfl)).trans ((ss_next (s_asg e3 rfl)).trans ((ss_next (s_asg e5 rfl)).trans (ss_ret (s_ret e6)))))
  exact ⟨_, run_of rfl e7 rfl⟩
end TH.Lk01
end
open PySem PySem.W PyProof.Rows
set_option maxHeartbeats 0 in
theorem PySem.Challenge.cw_tanhall_k01_names_and_lots_of_names_holds : PySem.Challenge.rw_tanhall_k01_names_and_lots_of_names.Holds := by
  w_on; o_law; k_head; (case hw => w_witness2)
  k_fill
  refine TH.walkG (l := PySem.Challenge.rw_tanhall_k01_names_and_lots_of_names) (n := 63) (k := TH.Lk01.lvl + 1) (x := "script") (sp := fun w => TH.SpF w _ ⟨[false], TH.runBody (TH.globs TH.Lk01.con TH.Lk01.defs TH.Lk01.fuel TH.Lk01.lvl) [false] 15 TH.Lk01.fuel TH.Lk01.c_law⟩) rfl (by decide) rfl ⟨rfl, by decide, by decide⟩ (by rfl) (fun w h Y => PySem.W.kIn_of Y) ?F (fun w Hx a ns hl ho hS => TH.sp_law rfl ho hS (Nat.le_trans hl (by decide)) (TH.Lk01.main_true ns hl))
  case F =>
    intro w mg fa h KX G hmg
    refine' TH.Lk01.lawF KX G hmg ?a0 ?l0 ?d0 ?k0 ?a1 ?l1 ?d1 ?k1 ?a2 ?l2 ?d2 ?k2 ?a3 ?l3 ?d3 ?k3 ?a4 ?l4 ?d4 ?k4 ?a5 ?l5 ?d5 ?k5 ?a6 ?l6 ?d6 ?k6 ?a7 ?l7 ?d7 ?k7 ?a8 ?l8 ?d8 ?k8 ?a9 ?l9 ?d9 ?k9 ?a10 ?l10 ?d10 ?k10 ?a11 ?l11 ?d11 ?k11 ?a12 ?l12 ?d12 ?k12 ?a13 ?l13 ?d13 ?k13 ?a14 ?l14 ?d14 ?k14 ?a15 ?l15 ?d15 ?k15 ?a16 ?l16 ?d16 ?k16 ?a17 ?l17 ?d17 ?k17 ?a18 ?l18 ?d18 ?k18 ?cst0 ?cst1 ?cst2 ?z0 ?z1 ?z2 ?z3 ?z4 ?z5 ?z6 ?z7 ?z8 ?z9 ?z10 ?z11 ?z12 ?z13 ?z14 ?z15 ?z16 ?z17 ?z18 ?z19 ?y0
    (case a0 => k_is); (case l0 => k_is); (case d0 => k_is); (case k0 => k_is); (case a1 => k_is); (case l1 => k_is); (case d1 => k_is); (case k1 => k_is); (case a2 => k_is); (case l2 => k_is); (case d2 => k_is); (case k2 => k_is); (case a3 => k_is); (case l3 => k_is); (case d3 => k_is); (case k3 => k_is); (case a4 => k_is); (case l4 => k_is); (case d4 => k_is); (case k4 => k_is); (case a5 => k_is); (case l5 => k_is); (case d5 => k_is); (case k5 => k_is); (case a6 => k_is); (case l6 => k_is); (case d6 => k_is); (case k6 => k_is); (case a7 => k_is); (case l7 => k_is); (case d7 => k_is); (case k7 => k_is); (case a8 => k_is); (case l8 => k_is); (case d8 => k_is); (case k8 => k_is); (case a9 => k_is); (case l9 => k_is); (case d9 => k_is); (case k9 => k_is); (case a10 => k_is); (case l10 => k_is); (case d10 => k_is); (case k10 => k_is); (case a11 => k_is); (case l11 => k_is); (case d11 => k_is); (case k11 => k_is); (case a12 => k_is); (case l12 => k_is); (case d12 => k_is); (case k12 => k_is); (case a13 => k_is); (case l13 => k_is); (case d13 => k_is); (case k13 => k_is); (case a14 => k_is); (case l14 => k_is); (case d14 => k_is); (case k14 => k_is); (case a15 => k_is); (case l15 => k_is); (case d15 => k_is); (case k15 => k_is); (case a16 => k_is); (case l16 => k_is); (case d16 => k_is); (case k16 => k_is); (case a17 => k_is); (case l17 => k_is); (case d17 => k_is); (case k17 => k_is); (case a18 => k_is); (case l18 => k_is); (case d18 => k_is); (case k18 => k_is); (case cst0 => k_is); (case cst1 => k_is); (case cst2 => k_is); (case z0 => k_is); (case z1 => k_is); (case z2 => k_is); (case z3 => k_is); (case z4 => k_is); (case z5 => k_is); (case z6 => k_is); (case z7 => k_is); (case z8 => k_is); (case z9 => k_is); (case z10 => k_is); (case z11 => k_is); (case z12 => k_is); (case z13 => k_is); (case z14 => k_is); (case z15 => k_is); (case z16 => k_is); (case z17 => k_is); (case z18 => k_is); (case z19 => k_is); (case y0 => rfl)

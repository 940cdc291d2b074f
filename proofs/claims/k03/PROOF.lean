import PyProof.Rows.All
import Wide.All
import OpenK.AllK
import Wide.FinOn
import HandS.ForMost
import HandS.ForExc
import HandS.Flow
import HandS.Style
import HandS.IsInst
import HandS.Deep
import HandS.TupAny
import HandS.TupMul
import HandS.TupLe
import KE.SortData
import KE.SortKeyHeap
import KE.DatumOrd
import HandS.Text
import HandS.TupSets
import KE.KDictKeyed
import PySem.Challenge.RW_wishyard_k03_bounds
set_option Elab.async false
set_option linter.all false
set_option maxRecDepth 100000
/-! DLa: what statements do, over plain data: predicate transformers without a heap. -/
namespace DL
open PySem
/-- a slot: frozen data, or an own list or dict that may still be changed -/
inductive Sl where
  | dat (d : PyData)
  | own (d : PyData)
abbrev Rho := List (Option Sl)
abbrev WE := Rho → (PyData → Prop) → Prop
abbrev WT := Rho → (Bool → Prop) → Prop
abbrev WA := Rho → (List PyData → Prop) → Prop
abbrev W1 := PyData → (PyData → Prop) → Prop
abbrev W2 := PyData → PyData → (PyData → Prop) → Prop
abbrev WF := List PyData → (PyData → Prop) → Prop
abbrev WG := PyData → Rho → (Rho → Prop) → Prop
abbrev WGs := List PyData → Rho → (Rho → Prop) → Prop

def wVar (i : Nat) : WE := fun ρ P => match ρ[i]? with
  | some (some (.dat d)) => P d
  | _ => False
def wMut (i : Nat) : WE := fun ρ P => match ρ[i]? with
  | some (some (.own d)) => P d
  | _ => False
def wC (d : PyData) : WE := fun _ P => P d
def w1 (g : W1) (a : WE) : WE := fun ρ P => a ρ fun x => g x P
def w2 (g : W2) (a b : WE) : WE := fun ρ P => a ρ fun x => b ρ fun y => g x y P
def aNil : WA := fun _ P => P []
def aCons (a : WE) (r : WA) : WA := fun ρ P => a ρ fun x => r ρ fun xs => P (x :: xs)
def wApp (g : WF) (as : WA) : WE := fun ρ P => as ρ fun ds => g ds P
def fList : WF := fun ds P => P (.list ds)
def fTup : WF := fun ds P => P (.tuple ds)

/-! ### tests -/
def tVal (a : WE) : WT := fun ρ P => a ρ fun d => match d with
  | .bool b => P b
  | _ => False
def tAnd (a b : WT) : WT := fun ρ P => a ρ fun c => match c with
  | true => b ρ P
  | false => P false
def tOr (a b : WT) : WT := fun ρ P => a ρ fun c => match c with
  | true => P true
  | false => b ρ P
def tNot (a : WT) : WT := fun ρ P => a ρ fun c => P (!c)
def truD : PyData → (Bool → Prop) → Prop
  | .none, P => P false
  | .bool b, P => P b
  | .int i, P => P (i != 0)
  | .str x, P => P (x.length != 0)
  | .list xs, P => P (!xs.isEmpty)
  | .tuple xs, P => P (!xs.isEmpty)
  | .dict _, _ => False
def tTru (a : WE) : WT := fun ρ P => a ρ fun d => truD d P
def tYes : WT := fun _ P => P true
def wIf (t : WT) (a b : WE) : WE := fun ρ P => t ρ fun c => match c with
  | true => a ρ P
  | false => b ρ P
def wOr (a b : WE) : WE := fun ρ P => a ρ fun d => truD d fun c => match c with
  | true => P d
  | false => b ρ P
def wAnd (a b : WE) : WE := fun ρ P => a ρ fun d => truD d fun c => match c with
  | true => b ρ P
  | false => P d
def wNot (a : WE) : WE := fun ρ P => a ρ fun d => truD d fun c => P (.bool (!c))
def wChain (g g' : W2) (a b c : WE) : WE := fun ρ P => a ρ fun x => b ρ fun y => g x y fun z => match z with
  | .bool true => c ρ fun u => g' y u P
  | .bool false => P (.bool false)
  | _ => False

/-! ### operators -/
def noDict : PyData → Bool
  | .dict _ => false
  | .list xs => noDicts xs
  | .tuple xs => noDicts xs
  | _ => true
where noDicts : List PyData → Bool
  | [] => true
  | x :: xs => noDict x && noDicts xs
/-- may be compared -/
def Flat (d : PyData) : Prop := noDict d = true ∧ d.depth ≤ 64
def oEq : W2 := fun x y P => Flat x ∧ Flat y ∧ P (.bool (PyData.eqv x y))
def oNe : W2 := fun x y P => Flat x ∧ Flat y ∧ P (.bool (!PyData.eqv x y))
def oLt : W2 := fun x y P => match x, y with
  | .int i, .int j => P (.bool (decide (i < j)))
  | .str a, .str b => P (.bool (decide (a.cps.toList < b.cps.toList)))
  | x, y => PySem.W.alike x y = true ∧ x ≠ .none ∧ Flat x ∧ Flat y ∧ P (.bool (PySem.W.dataLt x y))
def oGt : W2 := fun x y P => match x, y with
  | .int i, .int j => P (.bool (decide (j < i)))
  | _, _ => False
def oLe : W2 := fun x y P => match x, y with
  | .int i, .int j => P (.bool (decide (i ≤ j)))
  | .tuple a, .tuple b => ∃ ns ms : List Int, a = ns.map .int ∧ b = ms.map .int ∧ P (.bool (!PySem.W.listLt ms ns))
  | _, _ => False
def oGe : W2 := fun x y P => match x, y with
  | .int i, .int j => P (.bool (decide (j ≤ i)))
  | _, _ => False
def isNone : PyData → Bool
  | .none => true
  | _ => false
def oIs : W2 := fun x y P => match y with
  | .none => P (.bool (isNone x))
  | .bool b => match x with
    | .bool a => P (.bool (decide (a = b)))
    | _ => False
  | _ => False
def oIsNot : W2 := fun x y P => match y with
  | .none => P (.bool (!isNone x))
  | .bool b => match x with
    | .bool a => P (.bool (!decide (a = b)))
    | _ => False
  | _ => False
def oIn : W2 := fun x y P => match y with
  | .list ds => Flat x ∧ Flat (.list ds) ∧ P (.bool (ds.any fun z => PyData.eqv z x))
  | .tuple ds => Flat x ∧ Flat (.list ds) ∧ P (.bool (ds.any fun z => PyData.eqv z x))
  | .str z => match x with
    | .str i => P (.bool (!(Builtin.Str.occurrences z i 0 z.length 1).isEmpty))
    | _ => False
  | _ => False
def oNotIn : W2 := fun x y P => oIn x y fun d => match d with
  | .bool b => P (.bool (!b))
  | _ => False
def oAdd : W2 := fun x y P => match x, y with
  | .int i, .int j => P (.int (i + j))
  | .str a, .str b => a.length + b.length ≤ sizeLine ∧ P (.str (a ++ b))
  | .tuple a, .tuple b => a.length + b.length ≤ sizeLine ∧ P (.tuple (a ++ b))
  | .list a, .list b => a.length + b.length ≤ sizeLine ∧ P (.list (a ++ b))
  | _, _ => False
def oSub : W2 := fun x y P => match x, y with
  | .int i, .int j => P (.int (i - j))
  | _, _ => False
def repS : Nat → Str → Str
  | 0, _ => Str.empty
  | n + 1, a => a ++ repS n a
def oMul : W2 := fun x y P => match x, y with
  | .int i, .int j => ((-(2 ^ 64) < i ∧ i < 2 ^ 64) ∨ (-(2 ^ 64) < j ∧ j < 2 ^ 64)) ∧ P (.int (i * j))
  | .tuple a, .int j => (a ≠ [] ∧ 1 ≤ j ∧ j ≤ 1000 ∧ a.length ≤ 1000) ∧ P (.tuple (List.replicate j.toNat a).flatten)
  | .str a, .int j => (0 ≤ j ∧ j ≤ 1000 ∧ a.length ≤ 1000) ∧ P (.str (repS j.toNat a))
  | .list a, .int j => (0 ≤ j ∧ j ≤ 1000 ∧ a.length ≤ 1000) ∧ P (.list (List.replicate j.toNat a).flatten)
  | _, _ => False
/-- .. a new list -/
def oMulL : W2 := fun x y P => match x, y with
  | .list a, .int j => (0 ≤ j ∧ j ≤ 1000 ∧ a.length ≤ 1000) ∧ P (.list (List.replicate j.toNat a).flatten)
  | _, _ => False
def oMod : W2 := fun x y P => match x, y with
  | .int i, .int j => 0 < j ∧ P (.int (i % j))
  | _, _ => False
def oDiv : W2 := fun x y P => match x, y with
  | .int i, .int j => (0 < j ∧ j < 1073741824) ∧ P (.int (i / j))
  | _, _ => False
def oNeg : W1 := fun x P => match x with
  | .int i => P (.int (-i))
  | _ => False
def oIx : W2 := fun x y P => match x, y with
  | .list ds, .int i => ∃ v, L2.atI ds i = some v ∧ P v
  | .tuple ds, .int i => ∃ v, L2.atI ds i = some v ∧ P v
  | .str z, .int i => ∃ c, L2.atI z.cps.toList i = some c ∧ P (.str ⟨#[c]⟩)
  | _, _ => False
def cutD {α : Type} (xs : List α) (lo hi : Option Int) : List α := (xs.drop (HT.sIx xs.length 0 lo)).take (HT.sIx xs.length xs.length hi - HT.sIx xs.length 0 lo)
/-- a part of a slice -/
abbrev WO := Rho → (Option Int → Prop) → Prop
def oNo : WO := fun _ P => P none
def oPart (a : WE) : WO := fun ρ P => a ρ fun d => match d with
  | .int i => P (some i)
  | _ => False
def sliceD : PyData → Option Int → Option Int → (PyData → Prop) → Prop
  | .list xs, lo, hi, P => P (.list (cutD xs lo hi))
  | .tuple xs, lo, hi, P => P (.tuple (cutD xs lo hi))
  | .str z, lo, hi, P => P (.str (L2.cutS z lo hi))
  | _, _, _, _ => False
def wSlice (a : WE) (lo hi : WO) : WE := fun ρ P => a ρ fun d => lo ρ fun l => hi ρ fun h => sliceD d l h P

/-! ### built-in functions -/
def fLen : WF := fun ds P => match ds with
  | [.list xs] => P (.int xs.length)
  | [.tuple xs] => P (.int xs.length)
  | [.str z] => P (.int z.length)

  | _ => False
def boolsOf : List PyData → Option (List Bool)
  | [] => some []
  | .bool b :: ds => (boolsOf ds).map (b :: ·)
  | _ :: _ => none
def fAll : WF := fun ds P => match ds with
  | [.list xs] => ∃ bs, boolsOf xs = some bs ∧ P (.bool (bs.all id))
  | _ => False
def fAny : WF := fun ds P => match ds with
  | [.list xs] => ∃ bs, boolsOf xs = some bs ∧ P (.bool (bs.any id))
  | _ => False
def fTupleOf : WF := fun ds P => match ds with
  | [.list xs] => P (.tuple xs)
  | [.tuple xs] => P (.tuple xs)
  | _ => False
def fListOf : WF := fun ds P => match ds with
  | [.list xs] => P (.list xs)
  | [.tuple xs] => P (.list xs)
  | _ => False
def fStrOf : WF := fun ds P => match ds with
  | [.int n] => (0 ≤ n ∧ n < 10 ^ 100) ∧ P (.str (Str.ofString (toString n)))
  | _ => False
def fIntOf : WF := fun ds P => match ds with
  | [.str a] => a.length ≤ 640 ∧ ∃ n, intText? a = some n ∧ P (.int n)
  | [.int n] => P (.int n)
  | _ => False
/-- may be sorted -/
def SortOk (ds : List PyData) : Prop := PySem.W.AllAlike ds ∧ PySem.W.Sortable ds ∧ ∀ d ∈ ds, noDict d = true ∧ d.depth ≤ 60
def sortD (ds : List PyData) : List PyData := ds.mergeSort (PySem.W.dataLe false id)
def fSorted : WF := fun ds P => match ds with
  | [.list xs] => SortOk xs ∧ P (.list (sortD xs))
  | _ => False
/-- a[::-1] -/
def oRev : W1 := fun x P => match x with
  | .list a => P (.list a.reverse)
  | .tuple a => P (.tuple a.reverse)
  | _ => False
def oRevL : W1 := fun x P => match x with
  | .list a => P (.list a.reverse)
  | _ => False
def oUpper : W1 := fun x P => match x with
  | .str a => (a.length ≤ 5592405 ∧ PyData.strOk (Txt.upper a) = true ∧ (Txt.upper a).length ≤ sizeLine) ∧ P (.str (Txt.upper a))
  | _ => False
/-- isinstance of a built-in type -/
def isTy : String → PyData → Bool
  | "int", .int _ => true
  | "int", .bool _ => true
  | "bool", .bool _ => true
  | "str", .str _ => true
  | "list", .list _ => true
  | "tuple", .tuple _ => true
  | "dict", .dict _ => true
  | _, _ => false
def oIsi (ts : List String) : W1 := fun x P => P (.bool (ts.any fun t => isTy t x))

def strsOf : List PyData → Option (List Str)
  | [] => some []
  | .str s :: ds => (strsOf ds).map (s :: ·)
  | _ :: _ => none
/-- a method of a text -/
def wMs (g : Str → W1) (a b : WE) : WE := fun ρ P => a ρ fun x => match x with
  | .str s => b ρ fun y => g s y P
  | _ => False
def oJoin (a : Str) : W1 := fun y P => match y with
  | .list ds => ∃ ys, strsOf ds = some ys ∧ (ys.map (·.length)).sum + ys.length * a.length ≤ 16777216 ∧ P (.str (Str.join a ys))
  | .tuple ds => ∃ ys, strsOf ds = some ys ∧ (ys.map (·.length)).sum + ys.length * a.length ≤ 16777216 ∧ P (.str (Str.join a ys))
  | _ => False
def strL (l : List Nat) : PyData := .str ⟨l.toArray⟩
def oSplit (a : Str) : W1 := fun y P => match y with
  | .str b => (TL.tl b ≠ [] ∧ b.cps.all (· < 256) = true) ∧ a.length + 2 ≤ sizeLine ∧ P (.list ((TL.spl (TL.tl b) 0 [] (TL.tl a)).map strL))
  | _ => False
/-! ### what a loop walks -/
def iSeq (a : WE) : WA := fun ρ P => a ρ fun d => match d with
  | .list xs => P xs
  | .tuple xs => P xs
  | _ => False
def iStr (a : WE) : WA := fun ρ P => a ρ fun d => match d with
  | .str z => P (z.cps.toList.map fun c => .str ⟨#[c]⟩)
  | _ => False
def rangeD (lo hi : Int) : List PyData := (List.range (hi - lo).toNat).map fun (k : Nat) => .int (lo + (k : Int))
def iRange1 (a : WE) : WA := fun ρ P => a ρ fun d => match d with
  | .int j => (-(2 ^ 62) ≤ j ∧ j ≤ 16777216) ∧ P (rangeD 0 j)
  | _ => False
def iRange2 (a b : WE) : WA := fun ρ P => a ρ fun d => b ρ fun e => match d, e with
  | .int i, .int j => (-(2 ^ 62) ≤ i ∧ i < 2 ^ 62 ∧ -(2 ^ 62) ≤ j ∧ j < 2 ^ 62 ∧ j - i ≤ 16777216) ∧ P (rangeD i j)
  | _, _ => False

/-! ### targets -/
def gNm (i : Nat) : WG := fun d ρ P => P (ρ.set i (some (.dat d)))
def gNl : WGs := fun ds ρ P => match ds with
  | [] => P ρ
  | _ => False
def gCn (g : WG) (r : WGs) : WGs := fun ds ρ P => match ds with
  | d :: ds => g d ρ fun ρ' => r ds ρ' P
  | [] => False
def gTp (n : Nat) (r : WGs) : WG := fun d ρ P => match d with
  | .tuple ds => ds.length = n ∧ r ds ρ P
  | _ => False

/-! ### comprehensions -/
def wipeD (ρ : Rho) : List Nat → Rho
  | [] => ρ
  | v :: vs => (wipeD ρ vs).set v none
def compD (g : WG) (t : WT) (e : WE) (ρ : Rho) : List PyData → (List PyData → Prop) → Prop
  | [], P => P []
  | x :: xs, P => g x ρ fun ρ' => t ρ' fun c => match c with
    | true => e ρ' fun y => compD g t e ρ xs fun ys => P (y :: ys)
    | false => compD g t e ρ xs P
def wComp (it : WA) (own : List Nat) (g : WG) (t : WT) (e : WE) : WE := fun ρ P => it ρ fun xs => compD g t e (wipeD ρ own) xs fun ys => P (.list ys)

/-! ### statements -/
structure DEnds where
  nx : Rho → Prop
  rt : PyData → Prop
  bk : Rho → Prop := fun _ => False
  ct : Rho → Prop := fun _ => False
abbrev DTS := DEnds → Rho → Prop
def dNext : DTS := fun D ρ => D.nx ρ
def dSeq (t u : DTS) : DTS := fun D ρ => t { D with nx := u D } ρ
def dAsg (i : Nat) (a : WE) : DTS := fun D ρ => a ρ fun d => D.nx (ρ.set i (some (.dat d)))
def dAsgM (i : Nat) (a : WE) : DTS := fun D ρ => a ρ fun d => D.nx (ρ.set i (some (.own d)))
def dAsgG (g : WG) (a : WE) : DTS := fun D ρ => a ρ fun d => g d ρ D.nx
def dPar (i j : Nat) (as : WA) : DTS := fun D ρ => as ρ fun ds => match ds with
  | [x, y] => D.nx ((ρ.set i (some (.dat x))).set j (some (.dat y)))
  | _ => False
def dExpr (a : WE) : DTS := fun D ρ => a ρ fun _ => D.nx ρ
def dRet (a : WE) : DTS := fun D ρ => a ρ D.rt
def dRetN : DTS := fun D _ => D.rt .none
def dBreak : DTS := fun D ρ => D.bk ρ
def dCont : DTS := fun D ρ => D.ct ρ
def dIf (t : WT) (a b : DTS) : DTS := fun D ρ => t ρ fun c => match c with
  | true => a D ρ
  | false => b D ρ
def forD (g : WG) (b : DTS) (D : DEnds) : List PyData → Rho → Prop
  | [], ρ => D.nx ρ
  | x :: xs, ρ => g x ρ fun ρ' => b { D with nx := forD g b D xs, ct := forD g b D xs, bk := D.nx } ρ'
def dFor (it : WA) (g : WG) (b : DTS) : DTS := fun D ρ => it ρ fun xs => forD g b D xs ρ
def whileD (t : WT) (b : DTS) (D : DEnds) : Nat → Rho → Prop
  | 0, _ => False
  | n + 1, ρ => t ρ fun c => match c with
    | true => b { D with nx := whileD t b D n, ct := whileD t b D n, bk := D.nx } ρ
    | false => D.nx ρ
def dWhile (t : WT) (b : DTS) : DTS := fun D ρ => ∃ n, whileD t b D n ρ
def dAppend (i : Nat) (a : WE) : DTS := fun D ρ => match ρ[i]? with
  | some (some (.own (.list xs))) => a ρ fun d => xs.length < sizeLine ∧ D.nx (ρ.set i (some (.own (.list (xs ++ [d])))))
  | _ => False
def dPop (i : Nat) : DTS := fun D ρ => match ρ[i]? with
  | some (some (.own (.list xs))) => xs ≠ [] ∧ D.nx (ρ.set i (some (.own (.list xs.dropLast))))
  | _ => False
/-- x[k] = e, x an own list -/
def dSetL (i : Nat) (k a : WE) : DTS := fun D ρ => a ρ fun d => match ρ[i]? with
  | some (some (.own (.list xs))) => k ρ fun j => match j with
    | .int j => ∃ n, L2.ixN xs.length j = some n ∧ D.nx (ρ.set i (some (.own (.list (xs.set n d)))))
    | _ => False
  | _ => False
/-- x += e, x an own list -/
def dExtL (i : Nat) (a : WE) : DTS := fun D ρ => match ρ[i]? with
  | some (some (.own (.list xs))) => a ρ fun d => match d with
    | .list ys => xs.length + ys.length ≤ sizeLine ∧ D.nx (ρ.set i (some (.own (.list (xs ++ ys)))))
    | _ => False
  | _ => False
def dAug (i : Nat) (g : W2) (a : WE) : DTS := fun D ρ => match ρ[i]? with
  | some (some (.dat x)) => a ρ fun y => g x y fun z => D.nx (ρ.set i (some (.dat z)))
  | _ => False
/-- an own list is changed no more -/
def frz (ρ : Rho) (i : Nat) : Rho := match ρ[i]? with
  | some (some (.own d)) => ρ.set i (some (.dat d))
  | _ => ρ
def dFrz (i : Nat) (t : DTS) : DTS := fun D ρ => t D (frz ρ i)

def startD (n : Nat) (ds : List PyData) : Rho := ds.map (fun d => some (.dat d)) ++ List.replicate (n - ds.length) none
/-- two lists: a new one -/
def oAddL : W2 := fun x y P => match x, y with
  | .list a, .list b => a.length + b.length ≤ sizeLine ∧ P (.list (a ++ b))
  | _, _ => False
def oIadd : W2 := fun x y P => match x, y with
  | .int i, .int j => P (.int (i + j))
  | _, _ => False
/-- what a def of m parameters and n names does -/
def wDefF (m n : Nat) (t : DTS) : WF := fun ds P => ds.length = m ∧ t ⟨fun _ => False, P, fun _ => False, fun _ => False⟩ (startD n ds)
def wDef (m n : Nat) (t : DTS) : WF := fun ds P => ds.length = m ∧ t ⟨fun _ => P .none, P, fun _ => False, fun _ => False⟩ (startD n ds)
end DL

set_option maxRecDepth 100000
/-! DLb: how plain data lie in the heap; the judgements; their rules. -/
namespace DL
open PySem PySem.Spec PyProof.Rows L2
structure Kit where
  K : PySem.W.Frag
  P : Program
  w : World
def keyD : Key → PyData
  | .inl i => .int i
  | .inr x => .str x
/-- a dict's keys and values -/
inductive DctO : HO → List PyData → List V → Prop
  | k (kvs : List (Key × V)) : DctO (.dK kvs) (kvs.map fun p => keyD p.1) (kvs.map Prod.snd)
  | t (kvs : List (List Key × V)) : DctO (.dT kvs) (kvs.map fun p => .tuple (p.1.map keyD)) (kvs.map Prod.snd)
mutual
/-- a value reads as a datum in a heap -/
inductive Rp (κ : Kit) (H : Hp) : V → PyData → Prop
  | non : Rp κ H .non .none
  | bl (b : Bool) : Rp κ H (.bl b) (.bool b)
  | int (i : Int) : Rp κ H (.int i) (.int i)
  | str (x : Str) : x.length ≤ sizeLine → PyData.strOk x = true → Rp κ H (.str x) (.str x)
  | lst {a : Addr} {xs : List V} {ds : List PyData} : SqL κ.K H a xs → xs.length ≤ sizeLine → RpAll κ H xs ds → Rp κ H (.ref a) (.list ds)
  | tup {a : Addr} {xs : List V} {ds : List PyData} : SqT κ.K H a xs → xs.length ≤ sizeLine → RpAll κ H xs ds → Rp κ H (.ref a) (.tuple ds)
  | dct {a : Addr} {o : HO} {ks : List PyData} {xs : List V} {ds : List PyData} : H a = some o → DctO o ks xs → RpAll κ H xs ds → Rp κ H (.ref a) (.dict (ks.zip ds))
inductive RpAll (κ : Kit) (H : Hp) : List V → List PyData → Prop
  | nil : RpAll κ H [] []
  | cons {v : V} {vs : List V} {d : PyData} {ds : List PyData} : Rp κ H v d → RpAll κ H vs ds → RpAll κ H (v :: vs) (d :: ds)
end
theorem sameT {K : PySem.W.Frag} {H H' : Hp} {a : Addr} {xs : List V} (e : Same H H') (h : SqT K H a xs) : SqT K H' a xs := by
  rcases h with (h | ⟨o, h⟩) | h
  · exact .inl (.inl (e _ _ h))
  · exact .inl (.inr ⟨o, e _ _ h⟩)
  · exact .inr h
section
variable {κ : Kit} {F F' H H' : Hp}
mutual
theorem Rp.mono (e : Same F F') : ∀ {d : PyData} {v : V}, Rp κ F v d → Rp κ F' v d
  | _, _, .non => .non
  | _, _, .bl b => .bl b
  | _, _, .int i => .int i
  | _, _, .str x h1 h2 => .str x h1 h2
  | _, _, .lst h1 h2 h3 => .lst (e.seq h1) h2 (RpAll.mono e h3)
  | _, _, .tup h1 h2 h3 => .tup (sameT e h1) h2 (RpAll.mono e h3)
  | _, _, .dct h1 h2 h3 => .dct (e _ _ h1) h2 (RpAll.mono e h3)
theorem RpAll.mono (e : Same F F') : ∀ {ds : List PyData} {vs : List V}, RpAll κ F vs ds → RpAll κ F' vs ds
  | _, _, .nil => .nil
  | _, _, .cons h1 h2 => .cons (Rp.mono e h1) (RpAll.mono e h2)
end
theorem RpAll.length : ∀ {vs : List V} {ds : List PyData}, RpAll κ F vs ds → vs.length = ds.length
  | _, _, .nil => rfl
  | _, _, .cons _ h => by rw [List.length_cons, List.length_cons, RpAll.length h]
theorem RpAll.get : ∀ {vs : List V} {ds : List PyData} {i : Nat} {d : PyData}, RpAll κ F vs ds → ds[i]? = some d → ∃ v, vs[i]? = some v ∧ Rp κ F v d
  | _, _, _, _, .nil, e => by simp at e
  | _, _, 0, _, .cons h _, e => by simp at e; subst e; exact ⟨_, rfl, h⟩
  | _, _, i + 1, d, .cons _ t, e => by
    obtain ⟨v, h1, h2⟩ := RpAll.get (i := i) (d := d) t (by simpa using e)
    exact ⟨v, by simpa using h1, h2⟩
theorem RpAll.getV : ∀ {vs : List V} {ds : List PyData} {i : Nat} {v : V}, RpAll κ F vs ds → vs[i]? = some v → ∃ d, ds[i]? = some d ∧ Rp κ F v d
  | _, _, _, _, .nil, e => by simp at e
  | _, _, 0, _, .cons h _, e => by simp at e; subst e; exact ⟨_, rfl, h⟩
  | _, _, i + 1, d, .cons _ t, e => by
    obtain ⟨v, h1, h2⟩ := RpAll.getV (i := i) (v := d) t (by simpa using e)
    exact ⟨v, by simpa using h1, h2⟩
theorem RpAll.append : ∀ {vs ws : List V} {ds es : List PyData}, RpAll κ F vs ds → RpAll κ F ws es → RpAll κ F (vs ++ ws) (ds ++ es)
  | _, _, _, _, .nil, s => s
  | _, _, _, _, .cons r t, s => .cons r (RpAll.append t s)
theorem RpAll.take : ∀ {vs : List V} {ds : List PyData} (n : Nat), RpAll κ F vs ds → RpAll κ F (vs.take n) (ds.take n)
  | _, _, 0, _ => .nil
  | _, _, _ + 1, .nil => .nil
  | _, _, n + 1, .cons r t => .cons r (RpAll.take n t)
theorem RpAll.drop : ∀ {vs : List V} {ds : List PyData} (n : Nat), RpAll κ F vs ds → RpAll κ F (vs.drop n) (ds.drop n)
  | _, _, 0, r => r
  | _, _, _ + 1, .nil => .nil
  | _, _, n + 1, .cons _ t => RpAll.drop n t
theorem RpAll.set {v : V} {d : PyData} (r : Rp κ F v d) : ∀ {vs : List V} {ds : List PyData} (n : Nat), RpAll κ F vs ds → RpAll κ F (vs.set n v) (ds.set n d)
  | _, _, _, .nil => .nil
  | _, _, 0, .cons _ t => .cons r t
  | _, _, n + 1, .cons q t => .cons q (RpAll.set r n t)
theorem RpAll.dropLast {vs : List V} {ds : List PyData} (h : RpAll κ F vs ds) : RpAll κ F vs.dropLast ds.dropLast := by
  rw [List.dropLast_eq_take, List.dropLast_eq_take, h.length]
  exact h.take _
theorem RpAll.rep {vs : List V} {ds : List PyData} (h : RpAll κ F vs ds) : ∀ n : Nat, RpAll κ F (List.replicate n vs).flatten (List.replicate n ds).flatten
  | 0 => .nil
  | n + 1 => by
    rw [List.replicate_succ, List.replicate_succ, List.flatten_cons, List.flatten_cons]
    exact h.append (RpAll.rep h n)
theorem RpAll.cut {vs : List V} {ds : List PyData} (h : RpAll κ F vs ds) (lo hi : Option Int) : RpAll κ F (cutV vs lo hi) (cutD ds lo hi) := by
  unfold cutV cutD
  rw [h.length]
  exact (h.drop _).take _
mutual
theorem Rp.dp : ∀ {d : PyData} {v : V}, noDict d = true → Rp κ F v d → Dp κ.K F v d
  | _, _, _, .non => .non
  | _, _, _, .bl b => .bl b
  | _, _, _, .int i => .int i
  | _, _, _, .str x h1 h2 => .str x
  | _, _, h, .lst h1 h2 h3 => .lst h1 (RpAll.dp (by simpa [noDict] using h) h3)
  | _, _, h, .tup h1 h2 h3 => .tup h1 (RpAll.dp (by simpa [noDict] using h) h3)
  | _, _, h, .dct h1 h2 h3 => by simp [noDict] at h
theorem RpAll.dp : ∀ {ds : List PyData} {vs : List V}, noDict.noDicts ds = true → RpAll κ F vs ds → DpAll κ.K F vs ds
  | _, _, _, .nil => .nil
  | _, _, h, .cons h1 h2 => by
    rw [noDict.noDicts, Bool.and_eq_true] at h
    exact .cons (Rp.dp h.1 h1) (RpAll.dp h.2 h2)
end
mutual
theorem Rp.lay : ∀ {d : PyData} {v : V}, noDict d = true → Rp κ F v d → d.canLay0 = true
  | _, _, _, .non => by simp [PyData.canLay0]
  | _, _, _, .bl b => by simp [PyData.canLay0]
  | _, _, _, .int i => by simp [PyData.canLay0]
  | _, _, _, .str x h1 h2 => by simpa [PyData.canLay0] using h2
  | _, _, h, .lst h1 h2 h3 => by
    simp only [PyData.canLay0]
    exact RpAll.lay (by simpa [noDict] using h) h3
  | _, _, h, .tup h1 h2 h3 => by
    simp only [PyData.canLay0]
    exact RpAll.lay (by simpa [noDict] using h) h3
  | _, _, h, .dct h1 h2 h3 => by simp [noDict] at h
theorem RpAll.lay : ∀ {ds : List PyData} {vs : List V}, noDict.noDicts ds = true → RpAll κ F vs ds → PyData.canLayAll0 ds = true
  | _, _, _, .nil => by simp [PyData.canLayAll0]
  | _, _, h, .cons h1 h2 => by
    rw [noDict.noDicts, Bool.and_eq_true] at h
    simp only [PyData.canLayAll0, Rp.lay h.1 h1, RpAll.lay h.2 h2, Bool.and_self]
end
theorem Rp.shaped {d : PyData} {v : V} (h : Flat d) (r : Rp κ F v d) : SeqAt.shaped d = true := by
  unfold SeqAt.shaped
  rw [Rp.lay h.1 r, Bool.true_and]
  exact decide_eq_true h.2
end

/-! ### how the heap goes on -/
structure Ext (F H F' H' : Hp) : Prop where
  ff : Same F F'
  hh : Same H H'
  sub : Same F' H'
  new : ∀ a o, F' a = some o → F a = none → H a = none ∨ ∃ xs, o = .tup xs
theorem Ext.refl {F H : Hp} (s : Same F H) : Ext F H F H := ⟨Same.refl _, Same.refl _, s, fun a o e n => by rw [n] at e; cases e⟩
theorem Ext.trans {F H F1 H1 F2 H2 : Hp} (a : Ext F H F1 H1) (b : Ext F1 H1 F2 H2) : Ext F H F2 H2 := by
  refine ⟨a.ff.trans b.ff, a.hh.trans b.hh, b.sub, fun c o e n => ?_⟩
  cases q : F1 c with
  | none =>
    rcases b.new c o e q with z | z
    · exact .inl (a.hh.free z)
    · exact .inr z
  | some o1 =>
    have e1 := b.ff c o1 q
    rw [e] at e1
    cases e1
    exact a.new c o q n
/-- what stands at a, its parts frozen -/
def Cell (κ : Kit) (F H : Hp) (a : Addr) (d : PyData) : Prop :=
  (∃ xs ds, d = .list ds ∧ H a = some (.lst xs) ∧ xs.length ≤ sizeLine ∧ RpAll κ F xs ds) ∨
    ∃ o ks xs ds, d = .dict (ks.zip ds) ∧ H a = some o ∧ DctO o ks xs ∧ RpAll κ F xs ds
def RpM (κ : Kit) (F H : Hp) (v : V) (d : PyData) : Prop := Rp κ F v d ∨ ∃ a, v = .ref a ∧ Cell κ F H a d
theorem dctO_tup {o : HO} {ks : List PyData} {xs ys : List V} (h : DctO o ks xs) : o ≠ .tup ys := by
  cases h <;> exact fun z => nomatch z
section
variable {κ : Kit} {F H F' H' F1 H1 : Hp} {a : Addr} {v : V} {d : PyData}
theorem Cell.ext (e : Ext F H F' H') (h : Cell κ F H a d) : Cell κ F' H' a d := by
  rcases h with ⟨xs, ds, h1, h2, h3, h4⟩ | ⟨o, ks, xs, ds, h1, h2, h3, h4⟩
  · exact .inl ⟨xs, ds, h1, e.hh _ _ h2, h3, h4.mono e.ff⟩
  · exact .inr ⟨o, ks, xs, ds, h1, e.hh _ _ h2, h3, h4.mono e.ff⟩
theorem Cell.there (h : Cell κ F H a d) : ∃ o, H a = some o ∧ ∀ xs, o ≠ .tup xs := by
  rcases h with ⟨xs, ds, h1, h2, h3, h4⟩ | ⟨o, ks, xs, ds, h1, h2, h3, h4⟩
  · exact ⟨_, h2, fun _ z => nomatch z⟩
  · exact ⟨_, h2, fun _ => dctO_tup h3⟩
theorem Cell.free (e : Ext F H F' H') (h : Cell κ F H a d) (n : F a = none) : F' a = none := by
  obtain ⟨o, h1, h2⟩ := h.there
  cases q : F' a with
  | none => rfl
  | some u =>
    have e1 := e.sub a u q
    rw [e.hh a o h1] at e1
    cases e1
    rcases e.new a o q n with z | ⟨xs, z⟩
    · rw [h1] at z; cases z
    · exact absurd z (h2 xs)
theorem Cell.toRp (s : Same F H) (h : Cell κ F H a d) : Rp κ H (.ref a) d := by
  rcases h with ⟨xs, ds, rfl, h2, h3, h4⟩ | ⟨o, ks, xs, ds, rfl, h2, h3, h4⟩
  · exact .lst (.inl (.inl h2)) h3 (h4.mono s)
  · exact .dct h2 h3 (h4.mono s)
theorem RpM.ext (e : Ext F H F' H') (h : RpM κ F H v d) : RpM κ F' H' v d := by
  rcases h with h | ⟨a, rfl, h⟩
  · exact .inl (h.mono e.ff)
  · exact .inr ⟨a, rfl, h.ext e⟩
theorem RpM.toRp (s : Same F H) (h : RpM κ F H v d) : Rp κ H v d := by
  rcases h with h | ⟨a, rfl, h⟩
  · exact h.mono s
  · exact h.toRp s
/-- a list or tuple that may be read, its items frozen -/
theorem RpM.list {ds : List PyData} (s : Same F H) (h : RpM κ F H v (.list ds)) : ∃ a xs, v = .ref a ∧ SqL κ.K H a xs ∧ xs.length ≤ sizeLine ∧ RpAll κ F xs ds := by
  rcases h with h | ⟨a, rfl, h⟩
  · cases h with
    | lst h1 h2 h3 => exact ⟨_, _, rfl, s.seq h1, h2, h3⟩
  · rcases h with ⟨xs, ds, h1, h2, h3, h4⟩ | ⟨o, ks, xs, ds, h1, h2, h3, h4⟩
    · cases h1
      exact ⟨a, xs, rfl, .inl (.inl h2), h3, h4⟩
    · cases h1
theorem RpM.tuple {ds : List PyData} (s : Same F H) (h : RpM κ F H v (.tuple ds)) : ∃ a xs, v = .ref a ∧ SqT κ.K H a xs ∧ xs.length ≤ sizeLine ∧ RpAll κ F xs ds ∧ Rp κ F v (.tuple ds) := by
  rcases h with h | ⟨a, rfl, h⟩
  · cases id h with
    | tup h1 h2 h3 => exact ⟨_, _, rfl, sameT s h1, h2, h3, h⟩
  · rcases h with ⟨xs, ds, h1, h2, h3, h4⟩ | ⟨o, ks, xs, ds, h1, h2, h3, h4⟩
    · cases h1
    · cases h1
theorem RpM.int {i : Int} (h : RpM κ F H v (.int i)) : v = .int i := by
  rcases h with h | ⟨a, rfl, h⟩
  · cases h; rfl
  · rcases h with ⟨xs, ds, h1, h2, h3, h4⟩ | ⟨o, ks, xs, ds, h1, h2, h3, h4⟩ <;> cases h1
theorem RpM.bool {i : Bool} (h : RpM κ F H v (.bool i)) : v = .bl i := by
  rcases h with h | ⟨a, rfl, h⟩
  · cases h; rfl
  · rcases h with ⟨xs, ds, h1, h2, h3, h4⟩ | ⟨o, ks, xs, ds, h1, h2, h3, h4⟩ <;> cases h1
theorem RpM.none (h : RpM κ F H v .none) : v = .non := by
  rcases h with h | ⟨a, rfl, h⟩
  · cases h; rfl
  · rcases h with ⟨xs, ds, h1, h2, h3, h4⟩ | ⟨o, ks, xs, ds, h1, h2, h3, h4⟩ <;> cases h1
theorem RpM.str {x : Str} (h : RpM κ F H v (.str x)) : v = .str x ∧ x.length ≤ sizeLine ∧ PyData.strOk x = true := by
  rcases h with h | ⟨a, rfl, h⟩
  · cases h with
    | str _ h1 h2 => exact ⟨rfl, h1, h2⟩
  · rcases h with ⟨xs, ds, h1, h2, h3, h4⟩ | ⟨o, ks, xs, ds, h1, h2, h3, h4⟩ <;> cases h1
theorem RpM.isNone (h : RpM κ F H v d) : decide (v = .non) = isNone d := by
  rcases h with h | ⟨a, rfl, h⟩
  · cases h <;> rfl
  · rcases h with ⟨xs, ds, rfl, h2, h3, h4⟩ | ⟨o, ks, xs, ds, rfl, h2, h3, h4⟩ <;> rfl
end

/-- what an expression hands back: frozen; readable; new -/
inductive Kd | E | M | F
def RK (k : Kd) (κ : Kit) (H F' H' : Hp) (v : V) (d : PyData) : Prop := match k with
  | .E => Rp κ F' v d
  | .M => RpM κ F' H' v d
  | .F => ∃ p, v = .ref p ∧ H p = none ∧ F' p = none ∧ Cell κ F' H' p d
theorem RK.start {k : Kd} {κ : Kit} {H H1 F' H' : Hp} {v : V} {d : PyData} (s : Same H H1) (h : RK k κ H1 F' H' v d) : RK k κ H F' H' v d := by
  cases k with
  | E => exact h
  | M => exact h
  | F => obtain ⟨p, h1, h2, h3⟩ := h; exact ⟨p, h1, s.free h2, h3⟩

/-! ### slots -/
def SlR (κ : Kit) (F H : Hp) : Sl → Option (Option V) → Prop
  | .dat d, o => ∃ v, o = some (some v) ∧ Rp κ F v d
  | .own d, o => ∃ a, o = some (some (.ref a)) ∧ F a = none ∧ Cell κ F H a d
structure EnvR (κ : Kit) (F H : Hp) (ρ : Rho) (σ : L2.St) : Prop where
  sub : Same F H
  len : ρ.length = σ.length
  slot : ∀ (i : Nat) (s : Sl), ρ[i]? = some (some s) → SlR κ F H s σ[i]?
  apart : ∀ (i j : Nat) (a : Addr) (d e : PyData), ρ[i]? = some (some (.own d)) → ρ[j]? = some (some (.own e)) → σ[i]? = some (some (.ref a)) → σ[j]? = some (some (.ref a)) → i = j
section
variable {κ : Kit} {F H F' H' : Hp} {ρ : Rho} {σ : L2.St}
theorem EnvR.ext (r : EnvR κ F H ρ σ) (e : Ext F H F' H') : EnvR κ F' H' ρ σ := by
  refine ⟨e.sub, r.len, fun i s h => ?_, r.apart⟩
  have q := r.slot i s h
  cases s with
  | dat d => obtain ⟨v, h1, h2⟩ := q; exact ⟨v, h1, h2.mono e.ff⟩
  | own d => obtain ⟨a, h1, h2, h3⟩ := q; exact ⟨a, h1, h3.free e h2, h3.ext e⟩
theorem EnvR.set {i : Nat} {s : Sl} {v : V} (r : EnvR κ F H ρ σ) (h : SlR κ F H s (some (some v))) (hm : ∀ (d : PyData) (a : Addr) (j : Nat) (e : PyData), s = .own d → v = .ref a → ρ[j]? = some (some (.own e)) → σ[j]? = some (some (.ref a)) → j = i) : EnvR κ F H (ρ.set i (some s)) (σ.set i (some v)) := by
  refine ⟨r.sub, by rw [List.length_set, List.length_set]; exact r.len, fun j s' hj => ?_, fun j k a d e hj hk sj sk => ?_⟩
  · by_cases e : i = j
    · subst e
      have hl : i < ρ.length := by
        have := (List.getElem?_eq_some_iff.mp hj).1
        rw [List.length_set] at this
        exact this
      rw [List.getElem?_set_self hl] at hj
      cases hj
      rw [List.getElem?_set_self (by rw [← r.len]; exact hl)]
      exact h
    · rw [List.getElem?_set_ne e] at hj ⊢
      exact r.slot j s' hj
  · by_cases ej : i = j
    · subst ej
      have hl : i < ρ.length := by
        have := (List.getElem?_eq_some_iff.mp hj).1
        rw [List.length_set] at this
        exact this
      rw [List.getElem?_set_self hl] at hj
      rw [List.getElem?_set_self (by rw [← r.len]; exact hl)] at sj
      cases hj
      cases sj
      by_cases ek : i = k
      · exact ek
      · rw [List.getElem?_set_ne ek] at hk sk
        exact (hm _ _ _ _ rfl rfl hk sk).symm
    · rw [List.getElem?_set_ne ej] at hj sj
      by_cases ek : i = k
      · subst ek
        have hl : i < ρ.length := by
          have := (List.getElem?_eq_some_iff.mp hk).1
          rw [List.length_set] at this
          exact this
        rw [List.getElem?_set_self hl] at hk
        rw [List.getElem?_set_self (by rw [← r.len]; exact hl)] at sk
        cases hk
        cases sk
        exact hm _ _ _ _ rfl rfl hj sj
      · rw [List.getElem?_set_ne ek] at hk sk
        exact r.apart j k a d e hj hk sj sk
theorem EnvR.setDat {i : Nat} {d : PyData} {v : V} (r : EnvR κ F H ρ σ) (h : Rp κ F v d) : EnvR κ F H (ρ.set i (some (.dat d))) (σ.set i (some v)) :=
  r.set ⟨v, rfl, h⟩ fun _ _ _ _ e => nomatch e
theorem EnvR.wipe (r : EnvR κ F H ρ σ) : ∀ vs : List Nat, EnvR κ F H (wipeD ρ vs) (L2.wipe σ vs)
  | [] => r
  | v :: vs => by
    have q := EnvR.wipe r vs
    show EnvR κ F H ((wipeD ρ vs).set v none) ((L2.wipe σ vs).set v none)
    have lo : ∀ {j : Nat} {s : Sl}, ((wipeD ρ vs).set v none)[j]? = some (some s) → v ≠ j ∧ (wipeD ρ vs)[j]? = some (some s) := fun {j s} hj => by
      by_cases e : v = j
      · subst e
        have hl : v < (wipeD ρ vs).length := by
          have := (List.getElem?_eq_some_iff.mp hj).1
          rw [List.length_set] at this
          exact this
        rw [List.getElem?_set_self hl] at hj
        cases hj
      · rw [List.getElem?_set_ne e] at hj
        exact ⟨e, hj⟩
    refine ⟨q.sub, by rw [List.length_set, List.length_set]; exact q.len, fun j s hj => ?_, fun j k a d e hj hk sj sk => ?_⟩
    · obtain ⟨n, h⟩ := lo hj
      rw [List.getElem?_set_ne n]
      exact q.slot j s h
    · obtain ⟨n, h⟩ := lo hj
      obtain ⟨m, h'⟩ := lo hk
      rw [List.getElem?_set_ne n] at sj
      rw [List.getElem?_set_ne m] at sk
      exact q.apart j k a d e h h' sj sk
end
end DL

set_option maxRecDepth 100000
set_option maxHeartbeats 1000000
/-! DLc: the judgements and their rules: expressions. -/
namespace DL
open PySem PySem.Spec PyProof.Rows L2
abbrev kitOf (X : Cx) : Kit := ⟨X.K, X.prog, X.w⟩
def Kd.safe : Kd → Bool
  | .M => false
  | _ => true
inductive RmAll (κ : Kit) (F H : Hp) : List V → List PyData → Prop
  | nil : RmAll κ F H [] []
  | cons {v : V} {vs : List V} {d : PyData} {ds : List PyData} : RpM κ F H v d → RmAll κ F H vs ds → RmAll κ F H (v :: vs) (d :: ds)
section
variable {κ : Kit} {F H F' H' : Hp}
theorem RmAll.ext (e : Ext F H F' H') : ∀ {vs : List V} {ds : List PyData}, RmAll κ F H vs ds → RmAll κ F' H' vs ds
  | _, _, .nil => .nil
  | _, _, .cons h t => .cons (h.ext e) (RmAll.ext e t)
theorem RpAll.toM : ∀ {vs : List V} {ds : List PyData}, RpAll κ F vs ds → RmAll κ F H vs ds
  | _, _, .nil => .nil
  | _, _, .cons h t => .cons (.inl h) (RpAll.toM t)
end
def SemE (κ : Kit) (k : Kd) (t : TE) (f : WE) : Prop := ∀ (ρ : Rho) (σ : L2.St) (F H : Hp) (P : PyData → Prop) (Q : VK), EnvR κ F H ρ σ → f ρ P →
  (∀ d F' H' v, P d → Ext F H F' H' → RK k κ H F' H' v d → Q v H') → t σ H Q
def SemT (κ : Kit) (t : TT) (f : WT) : Prop := ∀ (ρ : Rho) (σ : L2.St) (F H : Hp) (P : Bool → Prop) (Q : Bool → Hp → Prop), EnvR κ F H ρ σ → f ρ P →
  (∀ b F' H', P b → Ext F H F' H' → Q b H') → t σ H Q
/-- arguments: frozen -/
def SemA (κ : Kit) (n : Nat) (t : TA) (f : WA) : Prop := ∀ (ρ : Rho) (σ : L2.St) (F H : Hp) (P : List PyData → Prop) (Q : List V → Hp → Prop), EnvR κ F H ρ σ → f ρ P →
  (∀ ds F' H' vs, P ds → ds.length = n → Ext F H F' H' → RpAll κ F' vs ds → Q vs H') → t σ H Q
/-- arguments: readable -/
def SemB (κ : Kit) (t : TA) (f : WA) : Prop := ∀ (ρ : Rho) (σ : L2.St) (F H : Hp) (P : List PyData → Prop) (Q : List V → Hp → Prop), EnvR κ F H ρ σ → f ρ P →
  (∀ ds F' H' vs, P ds → Ext F H F' H' → RmAll κ F' H' vs ds → Q vs H') → t σ H Q
/-! the readings, as the plain data tell them -/
def canE (κ : Kit) (k : Kd) (f : WE) : TE := fun σ H Q => ∃ (ρ : Rho) (F : Hp) (P : PyData → Prop), EnvR κ F H ρ σ ∧ f ρ P ∧ ∀ d F' H' v, P d → Ext F H F' H' → RK k κ H F' H' v d → Q v H'
def canT (κ : Kit) (f : WT) : TT := fun σ H Q => ∃ (ρ : Rho) (F : Hp) (P : Bool → Prop), EnvR κ F H ρ σ ∧ f ρ P ∧ ∀ b F' H', P b → Ext F H F' H' → Q b H'
def canA (κ : Kit) (n : Nat) (f : WA) : TA := fun σ H Q => ∃ (ρ : Rho) (F : Hp) (P : List PyData → Prop), EnvR κ F H ρ σ ∧ f ρ P ∧ ∀ ds F' H' vs, P ds → ds.length = n → Ext F H F' H' → RpAll κ F' vs ds → Q vs H'
def canB (κ : Kit) (f : WA) : TA := fun σ H Q => ∃ (ρ : Rho) (F : Hp) (P : List PyData → Prop), EnvR κ F H ρ σ ∧ f ρ P ∧ ∀ ds F' H' vs, P ds → Ext F H F' H' → RmAll κ F' H' vs ds → Q vs H'
structure DX (k : Kd) (X : Cx) (e : Expr) (f : WE) : Prop where
  pe : PE X e (canE (kitOf X) k f)
structure DT (X : Cx) (e : Expr) (f : WT) : Prop where
  pt : PT X e (canT (kitOf X) f)
structure DW (X : Cx) (e : Expr) (f : WT) : Prop where
  pw : PW X e (canT (kitOf X) f)
structure DA (n : Nat) (X : Cx) (es : List Expr) (f : WA) : Prop where
  pa : PA X es (canA (kitOf X) n f)
structure DB (X : Cx) (es : List Expr) (f : WA) : Prop where
  pa : PA X es (canB (kitOf X) f)
theorem can_semE {κ : Kit} {k : Kd} {f : WE} : SemE κ k (canE κ k f) f := fun ρ σ F H P Q r p q => ⟨ρ, F, P, r, p, q⟩
theorem can_semT {κ : Kit} {f : WT} : SemT κ (canT κ f) f := fun ρ σ F H P Q r p q => ⟨ρ, F, P, r, p, q⟩
theorem can_semA {κ : Kit} {n : Nat} {f : WA} : SemA κ n (canA κ n f) f := fun ρ σ F H P Q r p q => ⟨ρ, F, P, r, p, q⟩
theorem can_semB {κ : Kit} {f : WA} : SemB κ (canB κ f) f := fun ρ σ F H P Q r p q => ⟨ρ, F, P, r, p, q⟩
section
variable {X : Cx} {k : Kd} {n : Nat} {e : Expr} {es : List Expr} {f : WE} {ft : WT} {fa : WA}
theorem DX.of {t : TE} (h : PE X e t) (s : SemE (kitOf X) k t f) : DX k X e f := ⟨⟨fun pins s0 σ H Q I ⟨ρ, F, P, r, p, q⟩ => h.run pins s0 σ H Q I (s ρ σ F H P Q r p q)⟩⟩
theorem DX.sem (h : DX k X e f) : SemE (kitOf X) k (canE (kitOf X) k f) f := can_semE
theorem DT.of {t : TT} (h : PT X e t) (s : SemT (kitOf X) t ft) : DT X e ft := ⟨⟨fun pins s0 σ H Q I ⟨ρ, F, P, r, p, q⟩ => h.run pins s0 σ H Q I (s ρ σ F H P Q r p q)⟩⟩
theorem DT.sem (h : DT X e ft) : SemT (kitOf X) (canT (kitOf X) ft) ft := can_semT
theorem DW.of {t : TT} (h : PW X e t) (s : SemT (kitOf X) t ft) : DW X e ft := ⟨⟨fun wh pins s0 σ H Q I ⟨ρ, F, P, r, p, q⟩ => h.run wh pins s0 σ H Q I (s ρ σ F H P Q r p q)⟩⟩
theorem DW.sem (h : DW X e ft) : SemT (kitOf X) (canT (kitOf X) ft) ft := can_semT
theorem DA.of {t : TA} (h : PA X es t) (s : SemA (kitOf X) n t fa) : DA n X es fa := ⟨⟨fun pos pins s0 σ H Q I ⟨ρ, F, P, r, p, q⟩ => h.run pos pins s0 σ H Q I (s ρ σ F H P Q r p q)⟩⟩
theorem DA.sem (h : DA n X es fa) : SemA (kitOf X) n (canA (kitOf X) n fa) fa := can_semA
theorem DB.of {t : TA} (h : PA X es t) (s : SemB (kitOf X) t fa) : DB X es fa := ⟨⟨fun pos pins s0 σ H Q I ⟨ρ, F, P, r, p, q⟩ => h.run pos pins s0 σ H Q I (s ρ σ F H P Q r p q)⟩⟩
theorem DB.sem (h : DB X es fa) : SemB (kitOf X) (canB (kitOf X) fa) fa := can_semB
end
/-- a new object is frozen -/
theorem frzQ {κ : Kit} {F H : Hp} {P : PyData → Prop} {Q : VK} (q : ∀ d F' H' v, P d → Ext F H F' H' → RK .E κ H F' H' v d → Q v H') :
    ∀ d F' H' v, P d → Ext F H F' H' → RK .F κ H F' H' v d → Q v H' := fun d F' H' v p e z => by
  obtain ⟨a, hv, n1, n2, hc⟩ := z
  subst hv
  obtain ⟨o, ho, hno⟩ := hc.there
  have s1 : Same F' (upd F' a o) := fun b u z => by rw [upd_ne (ne_of_none z n2)]; exact z
  have s2 : Same (upd F' a o) H' := fun b u z => by
    by_cases hb : b = a
    · subst hb; rw [upd_same] at z; cases z; exact ho
    · rw [upd_ne hb] at z; exact e.sub b u z
  refine q d (upd F' a o) H' (.ref a) p ⟨e.ff.trans s1, e.hh, s2, fun b u z n => ?_⟩ ?_
  · by_cases hb : b = a
    · subst hb; exact .inl n1
    · rw [upd_ne hb] at z; exact e.new b u z n
  · show Rp κ (upd F' a o) (.ref a) d
    have hc2 : Cell κ (upd F' a o) (upd F' a o) a d := by
      rcases hc with ⟨xs, ds, h1, h2, h3, h4⟩ | ⟨u, ks, xs, ds, h1, h2, h3, h4⟩
      · rw [ho] at h2; cases h2
        exact .inl ⟨xs, ds, h1, upd_same, h3, h4.mono s1⟩
      · rw [ho] at h2; cases h2
        exact .inr ⟨_, ks, xs, ds, h1, upd_same, h3, h4.mono s1⟩
    exact hc2.toRp (Same.refl _)
theorem SemE.toE {κ : Kit} {k : Kd} {t : TE} {f : WE} (h : SemE κ k t f) (hk : k.safe = true) : SemE κ .E t f := by
  cases k with
  | E => exact h
  | M => cases hk
  | F => exact fun ρ σ F H P Q r hp q => h ρ σ F H P Q r hp (frzQ q)
theorem SemE.toM {κ : Kit} {k : Kd} {t : TE} {f : WE} (h : SemE κ k t f) : SemE κ .M t f := by
  cases k with
  | E => exact fun ρ σ F H P Q r hp q => h ρ σ F H P Q r hp fun d F' H' v p e z => q d F' H' v p e (.inl z)
  | M => exact h
  | F => exact fun ρ σ F H P Q r hp q => h ρ σ F H P Q r hp fun d F' H' v p e ⟨a, hv, n1, n2, hc⟩ => q d F' H' v p e (.inr ⟨a, hv, hc⟩)
theorem DX.toE {k : Kd} {X : Cx} {e : Expr} {f : WE} (h : DX k X e f) (hk : k.safe = true) : DX .E X e f := .of h.pe (h.sem.toE hk)
theorem DX.toM {k : Kd} {X : Cx} {e : Expr} {f : WE} (h : DX k X e f) : DX .M X e f := .of h.pe h.sem.toM

/-! ### names, constants -/
section
variable {X : Cx}
theorem sem_var {κ : Kit} (i : Nat) : SemE κ .E (tVar i) (wVar i) := fun ρ σ F H P Q r h q => by
  unfold wVar at h
  split at h
  · rename_i d e
    obtain ⟨v, h1, h2⟩ := r.slot i _ e
    exact ⟨v, h1, q d F H v h (.refl r.sub) h2⟩
  · exact h.elim
theorem sem_mut {κ : Kit} (i : Nat) : SemE κ .M (tVar i) (wMut i) := fun ρ σ F H P Q r h q => by
  unfold wMut at h
  split at h
  · rename_i d e
    obtain ⟨a, h1, h2, h3⟩ := r.slot i _ e
    exact ⟨.ref a, h1, q d F H (.ref a) h (.refl r.sub) (.inr ⟨a, rfl, h3⟩)⟩
  · exact h.elim
theorem dv (i : Nat) {x : Str} {pos : Pos} (hN : X.N[i]? = some x := by rfl) (hv : Vis X.env.scope x := by first | exact Or.inl rfl | exact Or.inr (Or.inl rfl) | exact Or.inr (Or.inr rfl)) (hd : (x == ("__debug__" : Str)) = false := by decide)
    (hcd : (x == ("__classdict__" : Str)) = false := by decide) : DX .E X (.Name x pos) (wVar i) := (.of (pe_var hN hv hd hcd) (sem_var i))
theorem dvm (i : Nat) {x : Str} {pos : Pos} (hN : X.N[i]? = some x := by rfl) (hv : Vis X.env.scope x := by first | exact Or.inl rfl | exact Or.inr (Or.inl rfl) | exact Or.inr (Or.inr rfl)) (hd : (x == ("__debug__" : Str)) = false := by decide)
    (hcd : (x == ("__classdict__" : Str)) = false := by decide) : DX .M X (.Name x pos) (wMut i) := (.of (pe_var hN hv hd hcd) (sem_mut i))
theorem sem_c {κ : Kit} {v : V} {d : PyData} (h : ∀ F, Rp κ F v d) : SemE κ .E (tC v) (wC d) := fun ρ σ F H P Q r hp q => q d F H v hp (.refl r.sub) (h F)
theorem dx_int {i j pos} : DX .E X (.Constant (.int i) j pos) (wC (.int i)) := (.of (pe_int) (sem_c fun _ => .int i))
theorem dx_bl {b j pos} : DX .E X (.Constant (.bool b) j pos) (wC (.bool b)) := (.of (pe_bl) (sem_c fun _ => .bl b))
theorem dx_non {j pos} : DX .E X (.Constant .none j pos) (wC .none) := (.of (pe_non) (sem_c fun _ => .non))
theorem dx_str {x j pos} (h1 : x.length ≤ sizeLine := by first | decide | decide +kernel) (h2 : PyData.strOk x = true := by first | rfl | decide +kernel) : DX .E X (.Constant (.str x) j pos) (wC (.str x)) := (.of (pe_str) (sem_c fun _ => .str x h1 h2))
/-- a constant of the module -/
theorem dx_glob {x : Str} {v : V} {d : PyData} {u : Value} {pos : Pos} (hg : Gl X x) (hm : X.mg x = some u) (r : RelV v u) (h : ∀ F, Rp (kitOf X) F v d) (hd : (x == ("__debug__" : Str)) = false := by decide) : DX .E X (.Name x pos) (wC d) :=
  (.of (pe_glob hg hm r hd) (sem_c h))
end

/-! ### operators, by values -/
def Op2 (κ : Kit) (k : Kd) (r : R2) (g : W2) : Prop := ∀ (x y : V) (dx dy : PyData) (F H : Hp) (P : PyData → Prop) (Q : VK), Same F H → RpM κ F H x dx → RpM κ F H y dy → g dx dy P →
  (∀ d F' H' v, P d → Ext F H F' H' → RK k κ H F' H' v d → Q v H') → r x y H Q
def Op1 (κ : Kit) (k : Kd) (r : V → Hp → VK → Prop) (g : W1) : Prop := ∀ (x : V) (dx : PyData) (F H : Hp) (P : PyData → Prop) (Q : VK), Same F H → RpM κ F H x dx → g dx P →
  (∀ d F' H' v, P d → Ext F H F' H' → RK k κ H F' H' v d → Q v H') → r x H Q
def OpN (κ : Kit) (k : Kd) (r : List V → Hp → VK → Prop) (g : WF) : Prop := ∀ (xs : List V) (ds : List PyData) (F H : Hp) (P : PyData → Prop) (Q : VK), Same F H → RmAll κ F H xs ds → g ds P →
  (∀ d F' H' v, P d → Ext F H F' H' → RK k κ H F' H' v d → Q v H') → r xs H Q
theorem sem_op2 {κ : Kit} {k ka kb : Kd} {r : R2} {g : W2} {ta tb : TE} {fa fb : WE} (h : Op2 κ k r g) (ha : SemE κ ka ta fa) (hb : SemE κ kb tb fb) : SemE κ k (tOp r ta tb) (w2 g fa fb) := by
  intro ρ σ F H P Q rr hp q
  refine ha.toM ρ σ F H _ _ rr hp fun d1 F1 H1 v1 p1 e1 r1 => ?_
  refine hb.toM ρ σ F1 H1 _ _ (rr.ext e1) p1 fun d2 F2 H2 v2 p2 e2 r2 => ?_
  exact h v1 v2 d1 d2 F2 H2 P Q e2.sub (RpM.ext e2 r1) r2 p2 fun d F' H' v p e z => q d F' H' v p ((e1.trans e2).trans e) (z.start ((e1.trans e2).hh))
theorem sem_op1 {κ : Kit} {k ka : Kd} {r : V → Hp → VK → Prop} {g : W1} {ta : TE} {fa : WE} (h : Op1 κ k r g) (ha : SemE κ ka ta fa) : SemE κ k (tUn r ta) (w1 g fa) := by
  intro ρ σ F H P Q rr hp q
  refine ha.toM ρ σ F H _ _ rr hp fun d1 F1 H1 v1 p1 e1 r1 => ?_
  exact h v1 d1 F1 H1 P Q e1.sub r1 p1 fun d F' H' v p e z => q d F' H' v p (e1.trans e) (z.start e1.hh)
theorem sem_opN {κ : Kit} {k : Kd} {r : List V → Hp → VK → Prop} {g : WF} {t : TA} {f : WA} (h : OpN κ k r g) (ha : SemB κ t f) : SemE κ k (tCB r t) (wApp g f) := by
  intro ρ σ F H P Q rr hp q
  refine ha ρ σ F H _ _ rr hp fun ds F1 H1 vs p1 e1 r1 => ?_
  exact h vs ds F1 H1 P Q e1.sub r1 p1 fun d F' H' v p e z => q d F' H' v p (e1.trans e) (z.start e1.hh)
section
variable {X : Cx} {k ka kb kc : Kd} {a b c : Expr} {fa fb fc : WE} {pos : Pos}
theorem dx_bin {op : Operator} {r : R2} {g : W2} (h : OpR X (binaryOp op) r ∧ Op2 (kitOf X) k r g) (ha : DX ka X a fa) (hb : DX kb X b fb) : DX k X (.BinOp a op b pos) (w2 g fa fb) :=
  (.of (pe_op h.1 ha.pe hb.pe) (sem_op2 h.2 ha.sem hb.sem))
theorem dx_un {op : UnaryOp} {r : V → Hp → VK → Prop} {g : W1} (h : UnR X (unaryOp op) r ∧ Op1 (kitOf X) k r g) (ha : DX ka X a fa) : DX k X (.UnaryOp op a pos) (w1 g fa) :=
  (.of (pe_un h.1 ha.pe) (sem_op1 h.2 ha.sem))
theorem dx_cmp {op : CmpOp} {r : R2} {g : W2} (h : OpR X (compareOp op) r ∧ Op2 (kitOf X) k r g) (ha : DX ka X a fa) (hb : DX kb X b fb) (hm : behindInMarks op b = false := by first | exact nomark _ | rfl) : DX k X (.Compare a [op] [b] pos) (w2 g fa fb) :=
  (.of (pe_cmpR h.1 ha.pe hb.pe hm) (sem_op2 h.2 ha.sem hb.sem))
theorem sem_val {κ : Kit} {t : TE} {f : WE} (h : SemE κ ka t f) : SemT κ (tTest t) (tVal f) := by
  intro ρ σ F H P Q rr hp q
  refine h.toM ρ σ F H _ _ rr hp fun d F' H' v p e z => ?_
  cases d with
  | bool b => exact ⟨b, RpM.bool z, q b F' H' p e⟩
  | _ => exact p.elim
theorem dt_cmp {op : CmpOp} {r : R2} {g : W2} (h : OpR X (compareOp op) r ∧ Op2 (kitOf X) k r g) (ha : DX ka X a fa) (hb : DX kb X b fb) (hm : behindInMarks op b = false := by first | exact nomark _ | rfl) : DT X (.Compare a [op] [b] pos) (tVal (w2 g fa fb)) :=
  (.of (pt_cmpR h.1 ha.pe hb.pe hm) (sem_val (sem_op2 h.2 ha.sem hb.sem)))
theorem sem_chain {κ : Kit} {k k' : Kd} {r r' : R2} {g g' : W2} (h : Op2 κ k r g) (h' : Op2 κ k' r' g') (ha : SemE κ ka ta fa) (hb : SemE κ kb tb fb) (hc : SemE κ kc tc fc) (hk' : k' = .E := by rfl) :
    SemE κ .E (tChain r r' ta tb tc) (wChain g g' fa fb fc) := by
  subst hk'
  intro ρ σ F H P Q rr hp q
  refine ha.toM ρ σ F H _ _ rr hp fun d1 F1 H1 v1 p1 e1 r1 => ?_
  refine hb.toM ρ σ F1 H1 _ _ (rr.ext e1) p1 fun d2 F2 H2 v2 p2 e2 r2 => ?_
  refine h v1 v2 d1 d2 F2 H2 _ _ e2.sub (RpM.ext e2 r1) r2 p2 fun d F3 H3 v p e z => ?_
  have z' : RpM κ F3 H3 v d := by
    cases k with
    | E => exact .inl z
    | M => exact z
    | F => obtain ⟨a, hv, n1, n2, hc⟩ := z; exact .inr ⟨a, hv, hc⟩
  have e3 := (e1.trans e2).trans e
  cases d with
  | bool y =>
    refine ⟨y, RpM.bool z', ?_⟩
    cases y with
    | true =>
      simp only [if_true]
      refine hc.toM ρ σ F3 H3 _ _ (rr.ext e3) p fun d4 F4 H4 v4 p4 e4 r4 => ?_
      exact h' v2 v4 d2 d4 F4 H4 P Q e4.sub (RpM.ext (e.trans e4) r2) r4 p4 fun d F' H' v p e z => q d F' H' v p ((e3.trans e4).trans e) z
    | false =>
      simp only [Bool.false_eq_true, if_false]
      exact q (.bool false) F3 H3 (.bl false) p e3 (.bl false)
  | _ => exact p.elim
end
end DL

set_option maxRecDepth 100000
set_option maxHeartbeats 1000000
/-! DLd: further rules of expressions: chains, truth, lists, tuples, slices, built-in functions. -/
namespace DL
open PySem PySem.Spec PyProof.Rows L2
section
variable {X : Cx} {k ka kb kc : Kd} {a b c : Expr} {ta tb tc : TE} {fa fb fc : WE} {pos : Pos} {rest : List Expr}
theorem dx_chain {op op' : CmpOp} {k' : Kd} {r r' : R2} {g g' : W2} (h : OpR X (compareOp op) r ∧ Op2 (kitOf X) k r g) (h' : OpR X (compareOp op') r' ∧ Op2 (kitOf X) k' r' g') (ha : DX ka X a fa) (hb : DX kb X b fb) (hc : DX kc X c fc)
    (hk' : k' = .E := by rfl) (hm : lastMarks [op, op'] [b, c] = false := by with_unfolding_all rfl) : DX .E X (.Compare a [op, op'] [b, c] pos) (wChain g g' fa fb fc) :=
  (.of (pe_chain h.1 h'.1 ha.pe hb.pe hc.pe hm) (sem_chain h.2 h'.2 ha.sem hb.sem hc.sem hk'))
theorem dt_chain {op op' : CmpOp} {k' : Kd} {r r' : R2} {g g' : W2} (h : OpR X (compareOp op) r ∧ Op2 (kitOf X) k r g) (h' : OpR X (compareOp op') r' ∧ Op2 (kitOf X) k' r' g') (ha : DX ka X a fa) (hb : DX kb X b fb) (hc : DX kc X c fc)
    (hk' : k' = .E := by rfl) (hm : lastMarks [op, op'] [b, c] = false := by with_unfolding_all rfl) : DT X (.Compare a [op, op'] [b, c] pos) (tVal (wChain g g' fa fb fc)) :=
  (.of (pt_chain h.1 h'.1 ha.pe hb.pe hc.pe hm) (sem_val (sem_chain h.2 h'.2 ha.sem hb.sem hc.sem hk')))

/-! ### truth -/
theorem tru_of {κ : Kit} {F H : Hp} {v : V} {d : PyData} {P : Bool → Prop} (s : Same F H) (h : RpM κ F H v d) (p : truD d P) : ∃ b, TruV κ.K v H b ∧ P b := by
  cases d with
  | none => rw [RpM.none h]; exact ⟨false, rfl, p⟩
  | bool b => rw [RpM.bool h]; exact ⟨b, rfl, p⟩
  | int i => rw [RpM.int h]; exact ⟨_, rfl, p⟩
  | str x =>
    obtain ⟨rfl, h1, h2⟩ := RpM.str h
    refine ⟨_, ⟨h1, rfl⟩, ?_⟩
    have e : (((x.length : Nat) : Int) != 0) = (x.length != 0) := by
      by_cases q : x.length = 0
      · rw [q]; rfl
      · rw [bne_iff_ne.mpr q, bne_iff_ne]
        omega
    rw [e]
    exact p
  | list ds =>
    obtain ⟨a, xs, rfl, h1, h2, h3⟩ := RpM.list s h
    refine ⟨_, .inl ⟨xs, h1, rfl⟩, ?_⟩
    have e : xs.isEmpty = ds.isEmpty := by
      cases h3 <;> rfl
    rw [e]
    exact p
  | tuple ds =>
    obtain ⟨a, xs, rfl, h1, h2, h3, _⟩ := RpM.tuple s h
    refine ⟨_, .inr (.inl ⟨xs, h1, rfl⟩), ?_⟩
    have e : xs.isEmpty = ds.isEmpty := by
      cases h3 <;> rfl
    rw [e]
    exact p
  | dict kvs => exact p.elim
theorem dt_tru (ha : DX ka X a fa) (he : ∀ whole, isTrue a X.env whole = (do let v ← whole; standAt a.pos; holding [v] (truthy v)) := by intro _; rfl) :
    DT X a (tTru fa) := by
  refine (.of (pt_truth ha.pe he) (fun ρ σ F H P Q rr hp q => ?_))
  refine ha.sem.toM ρ σ F H _ _ rr hp fun d F' H' v p e z => ?_
  obtain ⟨b, h1, h2⟩ := tru_of e.sub z p
  exact ⟨b, h1, q b F' H' h2 e⟩
theorem dt_not {f : WT} (ha : DT X a f) : DT X (.UnaryOp .Not a pos) (tNot f) :=
  (.of (pt_not ha.pt) (fun ρ σ F H P Q rr hp q => ha.sem ρ σ F H _ _ rr hp fun b F' H' p e => q (!b) F' H' p e))
theorem DW.dt {f : WT} (h : DW X a f) : DT X a f := (.of (h.pw.pt) (h.sem))
theorem dw_and1 {f : WT} (ha : DT X a f) : DW X (.BoolOp .And [a] pos) f := (.of (pw_and1 ha.pt) (ha.sem))
theorem dw_or1 {f : WT} (ha : DT X a f) : DW X (.BoolOp .Or [a] pos) f := (.of (pw_or1 ha.pt) (ha.sem))
theorem dw_and {f g : WT} (ha : DT X a f) (hb : DW X (.BoolOp .And (b :: rest) pos) g) : DW X (.BoolOp .And (a :: b :: rest) pos) (tAnd f g) := by
  refine (.of (pw_and ha.pt hb.pw) (fun ρ σ F H P Q rr hp q => ?_))
  refine ha.sem ρ σ F H _ _ rr hp fun b F' H' p e => ?_
  cases b with
  | true => exact iteT (hb.sem ρ σ F' H' _ _ (rr.ext e) p fun b F2 H2 p2 e2 => q b F2 H2 p2 (e.trans e2))
  | false => exact iteF (q false F' H' p e)
theorem dw_or {f g : WT} (ha : DT X a f) (hb : DW X (.BoolOp .Or (b :: rest) pos) g) : DW X (.BoolOp .Or (a :: b :: rest) pos) (tOr f g) := by
  refine (.of (pw_or ha.pt hb.pw) (fun ρ σ F H P Q rr hp q => ?_))
  refine ha.sem ρ σ F H _ _ rr hp fun b F' H' p e => ?_
  cases b with
  | true => exact iteT (q true F' H' p e)
  | false => exact iteF (hb.sem ρ σ F' H' _ _ (rr.ext e) p fun b F2 H2 p2 e2 => q b F2 H2 p2 (e.trans e2))
/-- .. as values -/
theorem dx_one {op} (h : DX ka X a fa) : DX ka X (.BoolOp op [a] pos) fa := (.of (pe_one h.pe) (h.sem))
theorem dx_or (ha : DX ka X a fa) (hb : DX kb X (.BoolOp .Or (b :: rest) pos) fb) (hka : ka.safe = true := by rfl) (hkb : kb.safe = true := by rfl) : DX .E X (.BoolOp .Or (a :: b :: rest) pos) (wOr fa fb) := by
  refine (.of (pe_orT ha.pe hb.pe) (fun ρ σ F H P Q rr hp q => ?_))
  refine (ha.sem.toE hka) ρ σ F H _ _ rr hp fun d F' H' v p e z => ?_
  obtain ⟨c, h1, h2⟩ := tru_of e.sub (.inl z) p
  refine ⟨c, h1, ?_⟩
  cases c with
  | true => exact iteT (q d F' H' v h2 e z)
  | false => exact iteF ((hb.sem.toE hkb) ρ σ F' H' _ _ (rr.ext e) h2 fun d F2 H2 v p2 e2 z => q d F2 H2 v p2 (e.trans e2) z)
theorem dx_and (ha : DX ka X a fa) (hb : DX kb X (.BoolOp .And (b :: rest) pos) fb) (hka : ka.safe = true := by rfl) (hkb : kb.safe = true := by rfl) : DX .E X (.BoolOp .And (a :: b :: rest) pos) (wAnd fa fb) := by
  refine (.of (pe_andT ha.pe hb.pe) (fun ρ σ F H P Q rr hp q => ?_))
  refine (ha.sem.toE hka) ρ σ F H _ _ rr hp fun d F' H' v p e z => ?_
  obtain ⟨c, h1, h2⟩ := tru_of e.sub (.inl z) p
  refine ⟨c, h1, ?_⟩
  cases c with
  | true => exact iteT ((hb.sem.toE hkb) ρ σ F' H' _ _ (rr.ext e) h2 fun d F2 H2 v p2 e2 z => q d F2 H2 v p2 (e.trans e2) z)
  | false => exact iteF (q d F' H' v h2 e z)
theorem dx_not (ha : DX ka X a fa) : DX .E X (.UnaryOp .Not a pos) (wNot fa) := by
  refine (.of (pe_notT ha.pe) (fun ρ σ F H P Q rr hp q => ?_))
  refine ha.sem.toM ρ σ F H _ _ rr hp fun d F' H' v p e z => ?_
  obtain ⟨c, h1, h2⟩ := tru_of e.sub z p
  exact ⟨c, h1, q _ F' H' _ h2 e (.bl _)⟩
theorem dx_if {f : WT} (hc : DT X c f) (ha : DX ka X a fa) (hb : DX kb X b fb) (hka : ka.safe = true := by rfl) (hkb : kb.safe = true := by rfl) : DX .E X (.IfExp c a b pos) (wIf f fa fb) := by
  refine (.of (pe_ifExp hc.pt ha.pe hb.pe) (fun ρ σ F H P Q rr hp q => ?_))
  refine hc.sem ρ σ F H _ _ rr hp fun c F' H' p e => ?_
  cases c with
  | true => exact iteT ((ha.sem.toE hka) ρ σ F' H' _ _ (rr.ext e) p fun d F2 H2 v p2 e2 z => q d F2 H2 v p2 (e.trans e2) z)
  | false => exact iteF ((hb.sem.toE hkb) ρ σ F' H' _ _ (rr.ext e) p fun d F2 H2 v p2 e2 z => q d F2 H2 v p2 (e.trans e2) z)

/-! ### arguments, displays -/
theorem da_nil : DA 0 X [] aNil := (.of (pa_nil) (fun ρ σ F H P Q rr hp q => q [] F H [] hp rfl (.refl rr.sub) .nil))
theorem da_cons {n : Nat} {e : Expr} {es : List Expr} {fe : WE} {f : WA} (ha : DX ka X e fe) (hr : DA n X es f) (hk : ka.safe = true := by rfl)
    (hs : starEach (e :: es) X.env = (false, eval e X.env) :: starEach es X.env := by rfl) : DA (n + 1) X (e :: es) (aCons fe f) := by
  refine (.of (pa_cons ha.pe hr.pa hs) (fun ρ σ F H P Q rr hp q => ?_))
  refine (ha.sem.toE hk) ρ σ F H _ _ rr hp fun d F1 H1 v p1 e1 z1 => ?_
  refine hr.sem ρ σ F1 H1 _ _ (rr.ext e1) p1 fun ds F2 H2 vs p2 l2 e2 z2 => ?_
  exact q (d :: ds) F2 H2 (v :: vs) p2 (by rw [List.length_cons, l2]) (e1.trans e2) (.cons (Rp.mono e2.ff z1) z2)
theorem db_nil : DB X [] aNil := (.of (pa_nil) (fun ρ σ F H P Q rr hp q => q [] F H [] hp (.refl rr.sub) .nil))
theorem db_cons {e : Expr} {es : List Expr} {fe : WE} {f : WA} (ha : DX ka X e fe) (hr : DB X es f)
    (hs : starEach (e :: es) X.env = (false, eval e X.env) :: starEach es X.env := by rfl) : DB X (e :: es) (aCons fe f) := by
  refine (.of (pa_cons ha.pe hr.pa hs) (fun ρ σ F H P Q rr hp q => ?_))
  refine ha.sem.toM ρ σ F H _ _ rr hp fun d F1 H1 v p1 e1 z1 => ?_
  refine hr.sem ρ σ F1 H1 _ _ (rr.ext e1) p1 fun ds F2 H2 vs p2 e2 z2 => ?_
  exact q (d :: ds) F2 H2 (v :: vs) p2 (e1.trans e2) (.cons (RpM.ext e2 z1) z2)
/-- a new tuple is laid, frozen at once -/
theorem ext_tup {κ : Kit} {F H : Hp} {p : Addr} {xs : List V} {ds : List PyData} (s : Same F H) (hp : H p = none) (hl : xs.length ≤ sizeLine) (h : RpAll κ F xs ds) :
    Ext F H (upd F p (.tup xs)) (upd H p (.tup xs)) ∧ Rp κ (upd F p (.tup xs)) (.ref p) (.tuple ds) := by
  have fp : F p = none := s.free hp
  have s1 : Same F (upd F p (.tup xs)) := fun b u z => by rw [upd_ne (ne_of_none z fp)]; exact z
  have s2 : Same H (upd H p (.tup xs)) := fun b u z => by rw [upd_ne (ne_of_none z hp)]; exact z
  refine ⟨⟨s1, s2, fun b u z => ?_, fun b u z n => ?_⟩, .tup (.inl (.inl upd_same)) hl (h.mono s1)⟩
  · by_cases hb : b = p
    · subst hb; rw [upd_same] at z ⊢; exact z
    · rw [upd_ne hb] at z ⊢; exact s b u z
  · by_cases hb : b = p
    · subst hb; exact .inl hp
    · rw [upd_ne hb] at z; rw [z] at n; cases n
/-- a new list is laid -/
theorem ext_lst {κ : Kit} {F H : Hp} {p : Addr} {xs : List V} {ds : List PyData} (s : Same F H) (hp : H p = none) (hl : xs.length ≤ sizeLine) (h : RpAll κ F xs ds) :
    Ext F H F (upd H p (.lst xs)) ∧ RK .F κ H F (upd H p (.lst xs)) (.ref p) (.list ds) := by
  have fp : F p = none := s.free hp
  have s2 : Same H (upd H p (.lst xs)) := fun b u z => by rw [upd_ne (ne_of_none z hp)]; exact z
  exact ⟨⟨Same.refl _, s2, s.trans s2, fun b u z n => by rw [z] at n; cases n⟩, p, rfl, hp, fp, .inl ⟨xs, ds, rfl, upd_same, hl, h⟩⟩
theorem dx_tup {n : Nat} {es : List Expr} {f : WA} {x1} (h : DA n X es f) (hn : n ≤ 1000 := by decide) : DX .E X (.Tuple es x1 pos) (wApp fTup f) := by
  refine (.of (pe_tup h.pa) (fun ρ σ F H P Q rr hp q => ?_))
  refine h.sem ρ σ F H _ _ rr hp fun ds F1 H1 vs p1 l1 e1 z1 => ?_
  have hl : vs.length ≤ sizeLine := by
    rw [z1.length, l1]
    exact Nat.le_of_lt (small1000 hn)
  refine ⟨hl, fun p hp => ?_⟩
  obtain ⟨e2, z2⟩ := ext_tup (κ := kitOf X) e1.sub hp hl z1
  exact q _ _ _ _ p1 (e1.trans e2) z2
theorem dx_lst {n : Nat} {es : List Expr} {f : WA} (h : DA n X es f) (hn : n ≤ 1000 := by decide) : DX .F X (.List es pos) (wApp fList f) := by
  refine (.of (pe_lst h.pa) (fun ρ σ F H P Q rr hp q => ?_))
  refine h.sem ρ σ F H _ _ rr hp fun ds F1 H1 vs p1 l1 e1 z1 => ?_
  have hl : vs.length ≤ sizeLine := by
    rw [z1.length, l1]
    exact Nat.le_of_lt (small1000 hn)
  refine ⟨hl, fun p hp => ?_⟩
  obtain ⟨e2, z2⟩ := ext_lst (κ := kitOf X) e1.sub hp hl z1
  exact q _ _ _ _ p1 (e1.trans e2) (z2.start e1.hh)

/-! ### the operators -/
variable {κ : Kit}
theorem pure_ {F H : Hp} {P : PyData → Prop} {Q : VK} {v : V} {d : PyData} (s : Same F H) (q : ∀ d F' H' v, P d → Ext F H F' H' → RK .E κ H F' H' v d → Q v H') (p : P d) (z : Rp κ F v d) : Q v H := q d F H v p (.refl s) z
theorem dpF {F H : Hp} {v : V} {d : PyData} (s : Same F H) (h : RpM κ F H v d) (f : Flat d) : Dp κ.K H v d ∧ SeqAt.shaped d = true := ⟨Rp.dp f.1 (h.toRp s), Rp.shaped f (h.toRp s)⟩
theorem bool_ {F H : Hp} {P : PyData → Prop} {Q : VK} {b : Bool} (s : Same F H) (q : ∀ d F' H' v, P d → Ext F H F' H' → RK .E κ H F' H' v d → Q v H') (p : P (.bool b)) : Q (.bl b) H := q _ F H _ p (.refl s) (.bl b)
theorem int_ {F H : Hp} {P : PyData → Prop} {Q : VK} {b : Int} (s : Same F H) (q : ∀ d F' H' v, P d → Ext F H F' H' → RK .E κ H F' H' v d → Q v H') (p : P (.int b)) : Q (.int b) H := q _ F H _ p (.refl s) (.int b)
theorem x_eq (hu : X.A.units + 64 < cLine) : OpR X (compareOp .Eq) (rEqD X.K) ∧ Op2 (kitOf X) .E (rEqD X.K) oEq :=
  ⟨op_eqD hu, fun x y dx dy F H P Q s hx hy ⟨f1, f2, p⟩ q => ⟨dx, dy, (dpF s hx f1).1, (dpF s hy f2).1, (dpF s hx f1).2, (dpF s hy f2).2, bool_ s q p⟩⟩
theorem x_ne (hu : X.A.units + 64 < cLine) : OpR X (compareOp .NotEq) (rNeD X.K) ∧ Op2 (kitOf X) .E (rNeD X.K) oNe :=
  ⟨op_neD hu, fun x y dx dy F H P Q s hx hy ⟨f1, f2, p⟩ q => ⟨dx, dy, (dpF s hx f1).1, (dpF s hy f2).1, (dpF s hx f1).2, (dpF s hy f2).2, bool_ s q p⟩⟩
def rLtD (K : PySem.W.Frag) : R2 := fun x y H Q => ∃ d e, Dp K H x d ∧ Dp K H y e ∧ PySem.W.alike d e = true ∧ d ≠ .none ∧ d.depth ≤ 64 ∧ Q (.bl (PySem.W.dataLt d e)) H
theorem op_ltD (hu : X.A.units + 64 < cLine) : OpR X (compareOp .Lt) (rLtD X.K) := by
  intro pins s σ H x y v u Q I rx ry h
  obtain ⟨d, e, hd, he, ha, hn, hz, q⟩ := h
  obtain ⟨as, r1⟩ := Dp.reads I d x v hd rx
  obtain ⟨bs, r2⟩ := Dp.reads I e y u he ry
  exact PySem.W.rcLt_alike d e X.A s v u as bs r1 r2 ha hn (by omega) X.prog X.w _ _ ⟨.bl _, H, I, rfl, q⟩
theorem x_lt (hu : X.A.units + 64 < cLine) : OpR X (compareOp .Lt) (rLtD X.K) ∧ Op2 (kitOf X) .E (rLtD X.K) oLt := by
  refine ⟨op_ltD hu, fun x y dx dy F H P Q s hx hy p q => ?_⟩
  have gen : PySem.W.alike dx dy = true ∧ dx ≠ .none ∧ Flat dx ∧ Flat dy ∧ P (.bool (PySem.W.dataLt dx dy)) → rLtD X.K x y H Q := fun ⟨h1, h2, f1, f2, p⟩ =>
    ⟨dx, dy, (dpF (κ := kitOf X) s hx f1).1, (dpF (κ := kitOf X) s hy f2).1, h1, h2, f1.2, bool_ s q p⟩
  unfold oLt at p
  split at p
  · rename_i i j
    exact gen ⟨by simp [PySem.W.alike], fun z => (nomatch z), ⟨rfl, by simp [PyData.depth]⟩, ⟨rfl, by simp [PyData.depth]⟩, by rw [PySem.W.dataLt_int]; exact p⟩
  · rename_i i j
    exact gen ⟨by simp [PySem.W.alike], fun z => (nomatch z), ⟨rfl, by simp [PyData.depth]⟩, ⟨rfl, by simp [PyData.depth]⟩, by rw [PySem.W.dataLt_str]; exact p⟩
  · exact gen p
theorem ints2 {g : Int → Int → V} {h : W2} {G : Int → Int → PyData} (hG : ∀ i j F, Rp κ F (g i j) (G i j)) (hh : ∀ x y P, h x y P → ∃ i j, x = .int i ∧ y = .int j ∧ P (G i j)) : Op2 κ .E (rI0 g) h := by
  intro x y dx dy F H P Q s hx hy p q
  obtain ⟨i, j, rfl, rfl, p2⟩ := hh dx dy P p
  exact ⟨i, j, RpM.int hx, RpM.int hy, q _ F H _ p2 (.refl s) (hG i j F)⟩
theorem ints2C {C : Int → Int → Prop} {g : Int → Int → V} {h : W2} {G : Int → Int → PyData} (hG : ∀ i j F, Rp κ F (g i j) (G i j)) (hh : ∀ x y P, h x y P → ∃ i j, x = .int i ∧ y = .int j ∧ C i j ∧ P (G i j)) : Op2 κ .E (rI C g) h := by
  intro x y dx dy F H P Q s hx hy p q
  obtain ⟨i, j, rfl, rfl, c, p2⟩ := hh dx dy P p
  exact ⟨i, j, RpM.int hx, RpM.int hy, c, q _ F H _ p2 (.refl s) (hG i j F)⟩
theorem x_gt : OpR X (compareOp .Gt) (rI0 fun i j => .bl (decide (j < i))) ∧ Op2 (kitOf X) .E (rI0 fun i j => .bl (decide (j < i))) oGt :=
  ⟨op_gt, ints2 (G := fun i j => .bool (decide (j < i))) (fun _ _ _ => .bl _) fun x y P p => by
    unfold oGt at p
    split at p
    · exact ⟨_, _, rfl, rfl, p⟩
    · exact p.elim⟩
theorem x_ge : OpR X (compareOp .GtE) (rI0 fun i j => .bl (decide (j ≤ i))) ∧ Op2 (kitOf X) .E (rI0 fun i j => .bl (decide (j ≤ i))) oGe :=
  ⟨op_ge, ints2 (G := fun i j => .bool (decide (j ≤ i))) (fun _ _ _ => .bl _) fun x y P p => by
    unfold oGe at p
    split at p
    · exact ⟨_, _, rfl, rfl, p⟩
    · exact p.elim⟩
theorem x_sub : OpR X (binaryOp .Sub) (rI0 fun i j => .int (i - j)) ∧ Op2 (kitOf X) .E (rI0 fun i j => .int (i - j)) oSub :=
  ⟨op_sub, ints2 (G := fun i j => .int (i - j)) (fun _ _ _ => .int _) fun x y P p => by
    unfold oSub at p
    split at p
    · exact ⟨_, _, rfl, rfl, p⟩
    · exact p.elim⟩
theorem x_mod : OpR X (binaryOp .Mod) (rI (fun _ j => 0 < j) fun i j => .int (i % j)) ∧ Op2 (kitOf X) .E (rI (fun _ j => 0 < j) fun i j => .int (i % j)) oMod :=
  ⟨op_mod, ints2C (G := fun i j => .int (i % j)) (fun _ _ _ => .int _) fun x y P p => by
    unfold oMod at p
    split at p
    · exact ⟨_, _, rfl, rfl, p⟩
    · exact p.elim⟩
theorem x_div : OpR X (binaryOp .FloorDiv) (rI CDiv fun i j => .int (i / j)) ∧ Op2 (kitOf X) .E (rI CDiv fun i j => .int (i / j)) oDiv :=
  ⟨op_fdiv, ints2C (G := fun i j => .int (i / j)) (fun _ _ _ => .int _) fun x y P p => by
    unfold oDiv at p
    split at p
    · exact ⟨_, _, rfl, rfl, p⟩
    · exact p.elim⟩
theorem x_neg : UnR X (unaryOp .USub) (rU fun i => .int (-i)) ∧ Op1 (kitOf X) .E (rU fun i => .int (-i)) oNeg := by
  refine ⟨un_neg, fun x dx F H P Q s hx p q => ?_⟩
  unfold oNeg at p
  split at p
  · exact ⟨_, RpM.int hx, int_ s q p⟩
  · exact p.elim
def rIsX : R2 := fun x y H Q => (y = .non ∧ Q (.bl (decide (x = .non))) H) ∨ rIsB x y H Q
def rNotX : R2 := fun x y H Q => (y = .non ∧ Q (.bl (!decide (x = .non))) H) ∨ rNotB x y H Q
theorem x_is : OpR X (compareOp .Is) rIsX ∧ Op2 (kitOf X) .E rIsX oIs := by
  refine ⟨op_isN.or op_isBl, fun x y dx dy F H P Q s hx hy p q => ?_⟩
  unfold oIs at p
  split at p
  · refine .inl ⟨RpM.none hy, ?_⟩
    rw [RpM.isNone hx]
    exact bool_ s q p
  · split at p
    · exact .inr ⟨_, _, RpM.bool hx, RpM.bool hy, bool_ s q p⟩
    · exact p.elim
  · exact p.elim
theorem x_isNot : OpR X (compareOp .IsNot) rNotX ∧ Op2 (kitOf X) .E rNotX oIsNot := by
  refine ⟨op_notN.or op_notBl, fun x y dx dy F H P Q s hx hy p q => ?_⟩
  unfold oIsNot at p
  split at p
  · refine .inl ⟨RpM.none hy, ?_⟩
    rw [RpM.isNone hx]
    exact bool_ s q p
  · split at p
    · exact .inr ⟨_, _, RpM.bool hx, RpM.bool hy, bool_ s q p⟩
    · exact p.elim
  · exact p.elim
/-- x in a list or tuple of data -/
def rInT (K : PySem.W.Frag) : R2 := fun x y H Q => ∃ d ds, Dp K H x d ∧ Dp K H y (.tuple ds) ∧ SeqAt.shaped d = true ∧ SeqAt.shaped (.list ds) = true ∧ Q (.bl (ds.any fun z => PyData.eqv z d)) H
def rNotInT (K : PySem.W.Frag) : R2 := fun x y H Q => ∃ d ds, Dp K H x d ∧ Dp K H y (.tuple ds) ∧ SeqAt.shaped d = true ∧ SeqAt.shaped (.list ds) = true ∧ Q (.bl (!ds.any fun z => PyData.eqv z d)) H
theorem op_inT (hu : X.A.units + 65 < cLine) : OpR X (compareOp .In) (rInT X.K) := by
  intro pins s σ H x y v u Q I rx ry h
  obtain ⟨d, ds, hd, he, sd, se, q⟩ := h
  obtain ⟨as, r1⟩ := Dp.reads I d x v hd rx
  obtain ⟨bs, r2⟩ := Dp.reads I (.tuple ds) y u he ry
  exact SeqAt.in_tuple_reads r2 r1 (SeqAt.canLay_of_shaped se) (SeqAt.canLay_of_shaped sd) (room_in_shaped sd hu) ⟨.bl _, H, I, rfl, q⟩
theorem op_notInT (hu : X.A.units + 65 < cLine) : OpR X (compareOp .NotIn) (rNotInT X.K) := by
  intro pins s σ H x y v u Q I rx ry h
  obtain ⟨d, ds, hd, he, sd, se, q⟩ := h
  obtain ⟨as, r1⟩ := Dp.reads I d x v hd rx
  obtain ⟨bs, r2⟩ := Dp.reads I (.tuple ds) y u he ry
  exact SeqAt.notIn_tuple_reads r2 r1 (SeqAt.canLay_of_shaped se) (SeqAt.canLay_of_shaped sd) (room_in_shaped sd hu) ⟨.bl _, H, I, rfl, q⟩
def rInX (K : PySem.W.Frag) : R2 := fun x y H Q => rInD K x y H Q ∨ (rInT K x y H Q ∨ ∃ i j, x = .str i ∧ y = .str j ∧ Q (.bl (!(Builtin.Str.occurrences j i 0 j.length 1).isEmpty)) H)
def rNotInX (K : PySem.W.Frag) : R2 := fun x y H Q => rNotInD K x y H Q ∨ (rNotInT K x y H Q ∨ ∃ i j, x = .str i ∧ y = .str j ∧ Q (.bl (!(!(Builtin.Str.occurrences j i 0 j.length 1).isEmpty))) H)
theorem flat_list {ds : List PyData} (h : Flat (.list ds)) : Flat (.tuple ds) := ⟨by simpa [noDict] using h.1, by simpa [PyData.depth] using h.2⟩
theorem inX {x y : V} {dx dy : PyData} {F H : Hp} {P : PyData → Prop} (s : Same F H) (hx : RpM κ F H x dx) (hy : RpM κ F H y dy) (p : oIn dx dy P) :
    (∃ ds, Dp κ.K H x dx ∧ Dp κ.K H y (.list ds) ∧ SeqAt.shaped dx = true ∧ SeqAt.shaped (.list ds) = true ∧ P (.bool (ds.any fun z => PyData.eqv z dx))) ∨
    (∃ ds, Dp κ.K H x dx ∧ Dp κ.K H y (.tuple ds) ∧ SeqAt.shaped dx = true ∧ SeqAt.shaped (.list ds) = true ∧ P (.bool (ds.any fun z => PyData.eqv z dx))) ∨
    ∃ i j, x = .str i ∧ y = .str j ∧ P (.bool (!(Builtin.Str.occurrences j i 0 j.length 1).isEmpty)) := by
  unfold oIn at p
  split at p
  · obtain ⟨f1, f2, p⟩ := p
    exact .inl ⟨_, (dpF s hx f1).1, (dpF s hy f2).1, (dpF s hx f1).2, (dpF s hy f2).2, p⟩
  · obtain ⟨f1, f2, p⟩ := p
    refine .inr (.inl ⟨_, (dpF s hx f1).1, (dpF s hy (flat_list f2)).1, (dpF s hx f1).2, ?_, p⟩)
    have z := (dpF s hy (flat_list f2)).2
    unfold SeqAt.shaped at z ⊢
    simpa [PyData.canLay0, PyData.depth] using z
  · split at p
    · obtain ⟨e1, _⟩ := RpM.str hx
      obtain ⟨e2, _⟩ := RpM.str hy
      exact .inr (.inr ⟨_, _, e1, e2, p⟩)
    · exact p.elim
  · exact p.elim
theorem x_in (hu : X.A.units + 65 < cLine) : OpR X (compareOp .In) (rInX X.K) ∧ Op2 (kitOf X) .E (rInX X.K) oIn := by
  refine ⟨(op_inD hu).or ((op_inT hu).or op_in_str), fun x y dx dy F H P Q s hx hy p q => ?_⟩
  rcases inX s hx hy p with ⟨ds, h1, h2, h3, h4, p⟩ | ⟨ds, h1, h2, h3, h4, p⟩ | ⟨i, j, h1, h2, p⟩
  · exact .inl ⟨_, _, h1, h2, h3, h4, bool_ s q p⟩
  · exact .inr (.inl ⟨_, _, h1, h2, h3, h4, bool_ s q p⟩)
  · exact .inr (.inr ⟨_, _, h1, h2, bool_ s q p⟩)
theorem x_notIn (hu : X.A.units + 65 < cLine) : OpR X (compareOp .NotIn) (rNotInX X.K) ∧ Op2 (kitOf X) .E (rNotInX X.K) oNotIn := by
  refine ⟨(op_notInD hu).or ((op_notInT hu).or op_notIn_str), fun x y dx dy F H P Q s hx hy p q => ?_⟩
  rcases inX s hx hy p with ⟨ds, h1, h2, h3, h4, p⟩ | ⟨ds, h1, h2, h3, h4, p⟩ | ⟨i, j, h1, h2, p⟩
  · exact .inl ⟨_, _, h1, h2, h3, h4, bool_ s q p⟩
  · exact .inr (.inl ⟨_, _, h1, h2, h3, h4, bool_ s q p⟩)
  · exact .inr (.inr ⟨_, _, h1, h2, bool_ s q p⟩)
end
end DL

set_option maxRecDepth 100000
set_option maxHeartbeats 2000000
namespace L2
open PySem PySem.Spec PyProof.Rows
theorem tuple_mul1 (l : Addr) (items : Array Value) (n : Nat) (dd : Option Addr) (sl : Array (Option Value)) (u : Tok) :
    Meets (Builtin.«tuple.__mul__» ⟨[.ref l, .int 1 u], []⟩) (fun _ R s => s.heap.get? l = some { cls := .type "tuple", dict := dd, data := .seq items n, slots := sl } ∧
      R (.ok (.ret (Value.ref l))) s) :=
  .of_wp fun prog w A R s h => by
    obtain ⟨hp, g, d, tk, os⟩ := s
    obtain ⟨hl, h⟩ := h
    have f1 := AutoSeq1.idx_int
    wp_walk using wpAny_loadPart' hl
    repeat (first
      | (refine wpAny_ite_false (decide_eq_false (by decide)) ?_; wp_walk using wpAny_loadPart' hl)
      | (refine wpAny_ite_true (decide_eq_true (by simp)) ?_; wp_walk using wpAny_loadPart' hl))
    exact ⟨_, rfl, h⟩
def rRep1 (K : PySem.W.Frag) : R2 := fun x y H Q => ∃ l xs, x = .ref l ∧ y = .int 1 ∧ SqT K H l xs ∧ Q (.ref l) H
theorem op_rep1 {X : Cx} : OpR X (binaryOp .Mult) (rRep1 X.K) := by
  intro pins s σ H x y v u Q I rx ry h
  obtain ⟨l, xs, rfl, rfl, hT, q⟩ := h
  cases rx
  obtain ⟨t, rfl⟩ := ry
  obtain ⟨its, r, ⟨⟨cls, dd, data, sl⟩, ho, hc, n, hd⟩, hs⟩ := I.tuple hT
  simp only at hc hd
  subst hc hd
  exact wpAny_binaryOp_repeat_ref (T := "tuple") (U := "int") (by decide) ⟨_, ho, rfl⟩ (fun s' => typeIs_int s' 1 t) noFill_tuple_mul F.fills_int_mul F.slot_int_rmul repeat_tuple F.slot_int_index.lookup
    (call_meets F.slot_int_rmul (typeIs_int s 1 t) F.entry_int_rmul (F.args_int_rmul_2 _ _) (int_rmul_tuple 1 t l its.toArray n dd sl)
      ⟨ho, rfl, ⟨_, ho, rfl⟩, call_meets F.slot_tuple_mul ⟨_, ho, rfl⟩ F.entry_tuple_mul (F.args_tuple_mul_2 _ _) (tuple_mul1 l its.toArray n dd sl t) ⟨ho, ⟨.ref l, H, I, rfl, q⟩⟩⟩)
theorem list_mulW (l : Addr) (items : Array Value) (n : Nat) (dd : Option Addr) (sl : Array (Option Value)) (x : Int) (u : Tok) (hc0 : ¬(!Builtin.List.listFitsIndex x) = true) (hc1 : ¬items.size * x.toNat > (2 ^ 63 - 1) / 8) (hc2 : ¬Builtin.List.listTooLong (items.size * x.toNat) = true) :
    Meets (Builtin.«list.__mul__» ⟨[.ref l, .int x u], []⟩) (fun _ R s => s.heap.get? l = some { cls := .type "list", dict := dd, data := .seq items n, slots := sl } ∧
      R (.ok (.ret (Value.ref s.heap.objs.size))) { s with heap := s.heap.push { cls := Value.type "list", data := Data.seq (List.foldl (fun x1 x2 => x1 ++ x2) #[] (List.replicate (if items.isEmpty = true then 0 else x.toNat) items)) }, toks := s.toks }) :=
  .of_wp fun prog w A R s h => by
    obtain ⟨hp, g, d, tk, os⟩ := s
    obtain ⟨hl, h⟩ := h
    have hsz := AutoListH.joined_fits hc2
    wp_walk using wpAny_loadPart' hl
    refine wpAny_ite_false (decide_eq_false (Nat.not_lt.mpr hsz)) ?_
    wp_walk using wpAny_loadPart' hl
    exact ⟨_, rfl, h⟩
theorem int_rmul_listW (a : Int) (t : Tok) (l : Addr) (items : Array Value) (n : Nat) (dd : Option Addr) (sl : Array (Option Value)) :
    Meets (Builtin.«int.__rmul__» ⟨[.int a t, .ref l], []⟩) (fun _ R s => s.heap.get? l = some { cls := .type "list", dict := dd, data := .seq items n, slots := sl } ∧ R (.ok (.ret Value.notImplemented)) s) :=
  .of_wp fun prog w A R s h => by obtain ⟨hp, g, d, tk, os⟩ := s; obtain ⟨hl, h⟩ := h; wp_walk using wpAny_loadPart' hl; exact ⟨_, rfl, h⟩
def rRepL (K : PySem.W.Frag) : R2 := fun x y H Q => ∃ l k xs, x = .ref l ∧ y = .int k ∧ SqL K H l xs ∧ 0 ≤ k ∧ k ≤ 1000 ∧ xs.length ≤ 1000 ∧ ∀ p, H p = none → Q (.ref p) (upd H p (.lst (List.replicate k.toNat xs).flatten))
theorem op_repL {X : Cx} : OpR X (binaryOp .Mult) (rRepL X.K) := by
  intro pins s σ H x y v u Q I rx ry h
  obtain ⟨l, k, xs, rfl, rfl, hT, h1, h2, hz, q⟩ := h
  cases rx
  obtain ⟨t, rfl⟩ := ry
  obtain ⟨its, r, p1, z1⟩ := I.list hT
  obtain ⟨⟨cls, dd, data, sl⟩, ho, hc, n, hd⟩ := p1.isList
  simp only at hc hd
  subst hc hd
  have hle : its.length = xs.length := r.length.symm
  have hb : its.length * k.toNat ≤ 1000 * 1000 := Nat.mul_le_mul (by omega) (by omega)
  have hlen : its.toArray.size * k.toNat ≤ sizeLine := by rw [List.size_toArray, sizeLine_eq]; omega
  have hcap : ¬ its.toArray.size * k.toNat > (2 ^ 63 - 1) / 8 := by
    have : (sizeLine : Nat) ≤ (2 ^ 63 - 1) / 8 := by decide
    omega
  have hfit : ¬ (!Builtin.List.listFitsIndex k) = true := by
    rw [fitsIndex_both (by omega) (by omega)]
    exact Bool.false_ne_true
  have hlong : ¬ Builtin.List.listTooLong (its.toArray.size * k.toNat) = true := by
    rw [notLongL hlen]
    exact Bool.false_ne_true
  have hnew : List.foldl (fun x1 x2 => x1 ++ x2) #[] (List.replicate (if its.toArray.isEmpty = true then 0 else k.toNat) its.toArray) = (List.replicate k.toNat its).flatten.toArray := by
    rw [size_rep]
    cases its with
    | nil => simp
    | cons a r' => rw [if_neg (by simp)]
  refine wpAny_binaryOp_repeat_ref (T := "list") (U := "int") (by decide) ⟨_, ho, rfl⟩ (fun s' => typeIs_int s' k t) noFill_list_mul PySem.F.fills_int_mul PySem.F.slot_int_rmul repeat_list PySem.F.slot_int_index.lookup
    (call_meets PySem.F.slot_int_rmul (typeIs_int s k t) PySem.F.entry_int_rmul (PySem.F.args_int_rmul_2 _ _) (int_rmul_listW k t l its.toArray n dd sl)
      ⟨ho, rfl, ⟨_, ho, rfl⟩, call_meets PySem.F.slot_list_mul ⟨_, ho, rfl⟩ PySem.F.entry_list_mul (PySem.F.args_list_mul_2 _ _) (list_mulW l its.toArray n dd sl k t hfit hcap hlong) ⟨ho, ?_⟩⟩)
  rw [hnew]
  exact ⟨.ref _, _, I.lnew (t' := s.toks) (r.rep k.toNat) (by rw [PyProof.Rows.lm_len_rep_flat, sizeLine_eq, ← hle]; have := Nat.mul_comm its.length k.toNat; omega), rfl, q _ I.fresh⟩
/-- a text times a number -/
def rRepS : R2 := fun x y H Q => ∃ a k, x = .str a ∧ y = .int k ∧ 0 ≤ k ∧ k ≤ 1000 ∧ a.length ≤ 1000 ∧ Q (.str (DL.repS k.toNat a)) H
theorem mul_repS (a : Str) (k : Int) (h : 0 ≤ k) : Txt.mul a k = DL.repS k.toNat a := by
  have f : ∀ (n : Nat) (c : Array Nat), (List.replicate n a.cps).foldl (· ++ ·) c = c ++ (DL.repS n a).cps := by
    intro n
    induction n with
    | zero => intro c; show c = c ++ #[]; simp
    | succ n ih =>
      intro c
      rw [List.replicate_succ, List.foldl_cons, ih]
      show _ = c ++ (a.cps ++ (DL.repS n a).cps)
      rw [Array.append_assoc]
  unfold Txt.mul
  by_cases h1 : k < 1
  · have e : k = 0 := by omega
    subst e
    rw [if_pos h1]
    rfl
  · rw [if_neg h1]
    by_cases h2 : (k == 1 || a.length == 0) = true
    · rw [if_pos h2]
      rcases Bool.or_eq_true _ _ |>.mp h2 with e | e
      · have e : k = 1 := by simpa using e
        subst e
        show a = ⟨a.cps ++ #[]⟩
        rw [Array.append_empty]
      · have e : a.cps = #[] := by
          have : a.cps.size = 0 := by simpa [Str.length] using e
          exact Array.eq_empty_of_size_eq_zero this
        have z : ∀ n, DL.repS n ⟨#[]⟩ = ⟨#[]⟩ := fun n => by
          induction n with
          | zero => rfl
          | succ n ih => rw [DL.repS, ih]; rfl
        cases a
        simp only at e
        subst e
        rw [z]
    · rw [if_neg h2, f]
      simp
theorem repS_len (a : Str) (n : Nat) : (DL.repS n a).length = n * a.length := by
  induction n with
  | zero => simp [DL.repS, Str.empty, Str.length]
  | succ n ih =>
    have : (DL.repS (n + 1) a).length = a.length + (DL.repS n a).length := by
      show (a.cps ++ (DL.repS n a).cps).size = _
      rw [Array.size_append]
      rfl
    rw [this, ih, Nat.succ_mul, Nat.add_comm]
theorem op_repS {X : Cx} : OpR X (binaryOp .Mult) rRepS := by
  intro pins s σ H x y v u Q I rx ry h
  obtain ⟨a, k, rfl, rfl, h1, h2, hz, q⟩ := h
  obtain ⟨t, rfl⟩ := rx
  obtain ⟨t', rfl⟩ := ry
  refine SB.mul ⟨by rw [decide_eq_false (by omega), decide_eq_false (by omega)] <;> rfl, fun h3 _ h4 => ?_, fun _ _ => ?_⟩ fun t2 k2 => ?_
  · have : (1000 : Int) ≤ (2 ^ 63 - 1) / k := by
      rw [Int.le_ediv_iff_mul_le (by omega)]
      omega
    omega
  · unfold Builtin.Str.tooLong
    have : a.length * k.toNat ≤ 1000 * 1000 := Nat.mul_le_mul (by omega) (by omega)
    rw [sizeLine_eq]
    exact decide_eq_false (by omega)
  · rw [mul_repS a k h1]
    exact ⟨.str _, H, I.kept (t' := k2) fun b o e => e, ⟨t2, rfl⟩, q⟩
end L2

set_option maxRecDepth 100000
set_option maxHeartbeats 1000000
/-! DLe: sums, products, places, slices, built-in functions, calls of own defs. -/
namespace DL
open PySem PySem.Spec PyProof.Rows L2
section
variable {X : Cx} {κ : Kit}
/-! ### + -/
def rCatL (K : PySem.W.Frag) : R2 := fun x y H Q => ∃ l b xs zs, x = .ref l ∧ y = .ref b ∧ SqL K H l xs ∧ SqL K H b zs ∧ xs.length + zs.length ≤ sizeLine ∧ ∀ p, H p = none → Q (.ref p) (upd H p (.lst (xs ++ zs)))
theorem op_catL : OpR X (binaryOp .Add) (rCatL X.K) := by
  intro pins s σ H x y v u Q I rx ry h
  obtain ⟨l, b, xs, zs, rfl, rfl, hH, hB, hz, q⟩ := h
  cases rx
  cases ry
  obtain ⟨its, r, p1, z1⟩ := I.list hH
  obtain ⟨its2, r2, p2, z2⟩ := I.list hB
  obtain ⟨⟨cls, dd, data, sl⟩, ho, hc, n, hd⟩ := p1.isList
  obtain ⟨⟨cls2, dd2, data2, sl2⟩, ho2, hc2, n2, hd2⟩ := p2.isList
  simp only at hc hd hc2 hd2
  subst hc hd hc2 hd2
  have l1 := r.length
  have l2 := r2.length
  have e : its.toArray ++ its2.toArray = (its ++ its2).toArray := by simp
  refine concat_meets ⟨_, ho, rfl⟩ ⟨_, ho2, rfl⟩ noFill_list_add seq_list_add PySem.F.slot_list_add PySem.F.entry_list_add (PySem.F.args_list_add_2 _ _) (list_addW l b its.toArray its2.toArray n n2 dd dd2 sl sl2 (by rw [List.size_toArray, List.size_toArray]; omega)) ⟨ho, ho2, ?_⟩
  rw [e]
  exact ⟨.ref _, _, I.lnew (t' := s.toks) (r.append r2) (by rw [List.length_append]; omega), rfl, q _ I.fresh⟩
theorem strOk_append {a b : Str} (ha : PyData.strOk a = true) (hb : PyData.strOk b = true) : PyData.strOk (a ++ b) = true := by
  unfold PyData.strOk at *
  show (a.cps ++ b.cps).all _ = true
  rw [Array.all_append, ha, hb]
  rfl
theorem Str.length_append (a b : Str) : (a ++ b).length = a.length + b.length := by
  show (a.cps ++ b.cps).size = _
  rw [Array.size_append]
  rfl
def rAdd (K : PySem.W.Frag) : R2 := fun x y H Q => rI0 (fun i j => .int (i + j)) x y H Q ∨ ((∃ i j, x = .str i ∧ y = .str j ∧ i.length + j.length ≤ sizeLine ∧ Q (.str (i ++ j)) H) ∨ (rCatA K x y H Q ∨ rCatL K x y H Q))
theorem rp_tup {F H : Hp} {v : V} {ds : List PyData} (s : Same F H) (h : RpM κ F H v (.tuple ds)) : Rp κ F v (.tuple ds) := by
  obtain ⟨_, _, _, _, _, _, h⟩ := RpM.tuple s h
  exact h
theorem nil_of {F : Hp} {xs : List V} {ds : List PyData} (h : RpAll κ F xs ds) : xs = [] ↔ ds = [] := by
  cases h <;> simp
theorem x_add : OpR X (binaryOp .Add) (rAdd X.K) ∧ Op2 (kitOf X) .E (rAdd X.K) oAdd := by
  refine ⟨op_add.or (op_add_str.or (op_catA.or op_catL)), fun x y dx dy F H P Q s hx hy p q => ?_⟩
  unfold oAdd at p
  split at p
  · exact .inl ⟨_, _, RpM.int hx, RpM.int hy, int_ s q p⟩
  · obtain ⟨e1, l1, o1⟩ := RpM.str hx
    obtain ⟨e2, l2, o2⟩ := RpM.str hy
    exact .inr (.inl ⟨_, _, e1, e2, p.1, q _ F H _ p.2 (.refl s) (.str _ (by rw [Str.length_append]; exact p.1) (strOk_append o1 o2))⟩)
  · rename_i a b
    obtain ⟨a1, xs, e1, h1, l1, r1, R1⟩ := RpM.tuple s hx
    obtain ⟨a2, ys, e2, h2, l2, r2, R2⟩ := RpM.tuple s hy
    subst e1 e2
    have hl : xs.length + ys.length ≤ sizeLine := by rw [r1.length, r2.length]; exact p.1
    refine .inr (.inr (.inl ⟨a1, a2, xs, ys, rfl, rfl, h1, h2, hl, fun e => ?_, fun e e' => ?_, fun e e' p0 hp => ?_⟩))
    · have : a = [] := (nil_of r1).mp e
      subst this
      exact q _ F H _ p.2 (.refl s) R2
    · have : b = [] := (nil_of r2).mp e'
      subst this
      have q' := p.2
      rw [List.append_nil] at q'
      exact q _ F H _ q' (.refl s) R1
    · obtain ⟨e2, z2⟩ := ext_tup (κ := kitOf X) s hp (by rw [List.length_append]; exact hl) (r1.append r2)
      exact q _ _ _ _ p.2 e2 z2
  · obtain ⟨a1, xs, e1, h1, l1, r1⟩ := RpM.list s hx
    obtain ⟨a2, ys, e2, h2, l2, r2⟩ := RpM.list s hy
    subst e1 e2
    have hl : xs.length + ys.length ≤ sizeLine := by rw [r1.length, r2.length]; exact p.1
    refine .inr (.inr (.inr ⟨a1, a2, xs, ys, rfl, rfl, h1, h2, hl, fun p0 hp => ?_⟩))
    obtain ⟨e2, z2⟩ := ext_lst (κ := kitOf X) s hp (by rw [List.length_append]; exact hl) (r1.append r2)
    exact frzQ q _ _ _ _ p.2 e2 z2
  · exact p.elim
theorem x_addL : OpR X (binaryOp .Add) (rCatL X.K) ∧ Op2 (kitOf X) .F (rCatL X.K) oAddL := by
  refine ⟨op_catL, fun x y dx dy F H P Q s hx hy p q => ?_⟩
  unfold oAddL at p
  split at p
  · obtain ⟨a1, xs, e1, h1, l1, r1⟩ := RpM.list s hx
    obtain ⟨a2, ys, e2, h2, l2, r2⟩ := RpM.list s hy
    subst e1 e2
    have hl : xs.length + ys.length ≤ sizeLine := by rw [r1.length, r2.length]; exact p.1
    refine ⟨a1, a2, xs, ys, rfl, rfl, h1, h2, hl, fun p0 hp => ?_⟩
    obtain ⟨e2, z2⟩ := ext_lst (κ := kitOf X) s hp (by rw [List.length_append]; exact hl) (r1.append r2)
    exact q _ _ _ _ p.2 e2 z2
  · exact p.elim
/-! ### * -/
def rMul (K : PySem.W.Frag) : R2 := fun x y H Q => rI CMul (fun i j => .int (i * j)) x y H Q ∨ (rRepT K x y H Q ∨ (rRep1 K x y H Q ∨ (rRepS x y H Q ∨ rRepL K x y H Q)))
theorem x_mul : OpR X (binaryOp .Mult) (rMul X.K) ∧ Op2 (kitOf X) .E (rMul X.K) oMul := by
  refine ⟨op_mul.or (op_repT.or (op_rep1.or (op_repS.or op_repL))), fun x y dx dy F H P Q s hx hy p q => ?_⟩
  unfold oMul at p
  split at p
  · exact .inl ⟨_, _, RpM.int hx, RpM.int hy, p.1, int_ s q p.2⟩
  · obtain ⟨a1, xs, e1, h1, l1, r1, R1⟩ := RpM.tuple s hx
    subst e1
    obtain ⟨⟨c1, c2, c3, c4⟩, p⟩ := p
    have hl := r1.length
    rename_i a j
    by_cases hj : j = 1
    · subst hj
      have e : (List.replicate (1 : Int).toNat a).flatten = a := by
        show (List.replicate 1 a).flatten = a
        simp
      rw [e] at p
      exact .inr (.inr (.inl ⟨a1, xs, rfl, RpM.int hy, h1, q _ F H _ p (.refl s) R1⟩))
    · refine .inr (.inl ⟨a1, _, xs, rfl, RpM.int hy, h1, fun z => c1 ((nil_of r1).mp z), by omega, c3, by omega, fun p0 hp => ?_⟩)
      have l2 : ∀ (n : Nat), (List.replicate n xs).flatten.length = n * xs.length := fun n => by
        induction n with
        | zero => simp
        | succ n ih => rw [List.replicate_succ, List.flatten_cons, List.length_append, ih, Nat.succ_mul, Nat.add_comm]
      obtain ⟨e2, z2⟩ := ext_tup (κ := kitOf X) s hp (by
        rw [l2, sizeLine_eq]
        have : j.toNat * xs.length ≤ 1000 * 1000 := Nat.mul_le_mul (by omega) (by omega)
        omega) (r1.rep j.toNat)
      exact q _ _ _ _ p e2 z2
  · obtain ⟨e1, l1, o1⟩ := RpM.str hx
    obtain ⟨⟨c1, c2, c3⟩, p⟩ := p
    rename_i a j
    refine .inr (.inr (.inr (.inl ⟨_, _, e1, RpM.int hy, c1, c2, c3, q _ F H _ p (.refl s) (.str _ ?_ ?_)⟩)))
    · rw [repS_len, sizeLine_eq]
      have : j.toNat * a.length ≤ 1000 * 1000 := Nat.mul_le_mul (by omega) c3
      omega
    · generalize j.toNat = n
      induction n with
      | zero => simp [repS, PyData.strOk, Str.empty]
      | succ n ih => exact strOk_append o1 ih
  · obtain ⟨a1, xs, e1, h1, l1, r1⟩ := RpM.list s hx
    subst e1
    obtain ⟨⟨c1, c2, c3⟩, p⟩ := p
    rename_i a j
    have hl := r1.length
    refine .inr (.inr (.inr (.inr ⟨a1, _, xs, rfl, RpM.int hy, h1, c1, c2, by omega, fun p0 hp => ?_⟩)))
    obtain ⟨e2, z2⟩ := ext_lst (κ := kitOf X) s hp (by
      rw [PyProof.Rows.lm_len_rep_flat, sizeLine_eq]
      have : j.toNat * xs.length ≤ 1000 * 1000 := Nat.mul_le_mul (by omega) (by omega)
      omega) (r1.rep j.toNat)
    exact frzQ q _ _ _ _ p e2 z2
  · exact p.elim
theorem x_mulL : OpR X (binaryOp .Mult) (rRepL X.K) ∧ Op2 (kitOf X) .F (rRepL X.K) oMulL := by
  refine ⟨op_repL, fun x y dx dy F H P Q s hx hy p q => ?_⟩
  unfold oMulL at p
  split at p
  · obtain ⟨a1, xs, e1, h1, l1, r1⟩ := RpM.list s hx
    subst e1
    obtain ⟨⟨c1, c2, c3⟩, p⟩ := p
    rename_i a j
    have hl := r1.length
    refine ⟨a1, _, xs, rfl, RpM.int hy, h1, c1, c2, by omega, fun p0 hp => ?_⟩
    obtain ⟨e2, z2⟩ := ext_lst (κ := kitOf X) s hp (by
      rw [PyProof.Rows.lm_len_rep_flat, sizeLine_eq]
      have : j.toNat * xs.length ≤ 1000 * 1000 := Nat.mul_le_mul (by omega) (by omega)
      omega) (r1.rep j.toNat)
    exact q _ _ _ _ p e2 z2
  · exact p.elim
/-! ### a place -/
theorem atI_rp {F : Hp} {xs : List V} {ds : List PyData} {i : Int} {d : PyData} (h : RpAll κ F xs ds) (e : atI ds i = some d) : ∃ v, atI xs i = some v ∧ Rp κ F v d := by
  unfold atI at e ⊢
  rw [h.length]
  cases q : ixN ds.length i with
  | none => rw [q] at e; cases e
  | some j => rw [q] at e; exact h.get (i := j) e
theorem strOk_one {z : Str} {c : Nat} (h : PyData.strOk z = true) (hc : c ∈ z.cps.toList) : PyData.strOk ⟨#[c]⟩ = true := by
  unfold PyData.strOk at *
  have h1 := Array.all_eq_true'.mp h c (by simpa using hc)
  simpa using h1
theorem atI_mem {α : Type} {xs : List α} {i : Int} {d : α} (e : atI xs i = some d) : d ∈ xs := by
  obtain ⟨j, _, h, _⟩ := atI_get e
  exact List.mem_of_getElem? h
theorem x_ix : IxR X (rIx X.K) ∧ Op2 (kitOf X) .E (rIx X.K) oIx := by
  refine ⟨ix_seq, fun x y dx dy F H P Q s hx hy p q => ?_⟩
  unfold oIx at p
  split at p
  · obtain ⟨a1, xs, e1, h1, l1, r1⟩ := RpM.list s hx
    obtain ⟨d, hd, p⟩ := p
    obtain ⟨v, hv, r⟩ := atI_rp r1 hd
    exact .inl ⟨a1, xs, _, v, e1, RpM.int hy, h1, hv, q _ F H _ p (.refl s) r⟩
  · obtain ⟨a1, xs, e1, h1, l1, r1, _⟩ := RpM.tuple s hx
    obtain ⟨d, hd, p⟩ := p
    obtain ⟨v, hv, r⟩ := atI_rp r1 hd
    exact .inr (.inl ⟨a1, xs, _, v, e1, RpM.int hy, h1, hv, q _ F H _ p (.refl s) r⟩)
  · obtain ⟨e1, l1, o1⟩ := RpM.str hx
    obtain ⟨c, hc, p⟩ := p
    exact .inr (.inr ⟨_, _, c, e1, RpM.int hy, l1, hc, q _ F H _ p (.refl s) (.str _ (by show 1 ≤ sizeLine; decide) (strOk_one o1 (atI_mem hc)))⟩)
  · exact p.elim
variable {k ka kb kc : Kd} {a b c : Expr} {fa fb fc : WE} {pos p2 : Pos}
theorem dx_ix (ha : DX ka X a fa) (hb : DX kb X b fb) (hs : PlainIx b := by exact fun _ _ => rfl) : DX .E X (.Subscript a b pos) (w2 oIx fa fb) :=
  (.of (pe_ix x_ix.1 ha.pe hb.pe hs) (sem_op2 x_ix.2 ha.sem hb.sem))
/-! ### slices -/
def SemO (κ : Kit) (t : TO) (f : WO) : Prop := ∀ (ρ : Rho) (σ : L2.St) (F H : Hp) (P : Option Int → Prop) (Q : Option Int → Hp → Prop), EnvR κ F H ρ σ → f ρ P →
  (∀ o F' H', P o → Ext F H F' H' → Q o H') → t σ H Q
def canO (κ : Kit) (f : WO) : TO := fun σ H Q => ∃ (ρ : Rho) (F : Hp) (P : Option Int → Prop), EnvR κ F H ρ σ ∧ f ρ P ∧ ∀ o F' H', P o → Ext F H F' H' → Q o H'
structure DO (X : Cx) (e : Option Expr) (f : WO) : Prop where
  po : PO X e (canO (kitOf X) f)
theorem DO.of {e : Option Expr} {t : TO} {f : WO} (h : PO X e t) (s : SemO (kitOf X) t f) : DO X e f := ⟨⟨fun pins s0 σ H Q I ⟨ρ, F, P, r, p, q⟩ => h.run pins s0 σ H Q I (s ρ σ F H P Q r p q)⟩⟩
theorem DO.sem {e : Option Expr} {f : WO} (h : DO X e f) : SemO (kitOf X) (canO (kitOf X) f) f := fun ρ σ F H P Q r p q => ⟨ρ, F, P, r, p, q⟩
theorem do_no : DO X none oNo := (.of (po_none) (fun ρ σ F H P Q rr hp q => q none F H hp (.refl rr.sub)))
theorem do_some (ha : DX ka X a fa) : DO X (some a) (oPart fa) := by
  refine (.of (po_some ha.pe) (fun ρ σ F H P Q rr hp q => ?_))
  refine ha.sem.toM ρ σ F H _ _ rr hp fun d F' H' v p e z => ?_
  unfold oPart at hp
  cases d with
  | int i => exact ⟨i, RpM.int z, q _ F' H' p e⟩
  | _ => exact p.elim
def rSlX (K : PySem.W.Frag) : V → Option Int → Option Int → Hp → VK → Prop := fun x lo hi H Q => rSlL K x lo hi H Q ∨ (rSlA K x lo hi H Q ∨ rSlS x lo hi H Q)
theorem strOk_of {z : Str} {l : List Nat} (h : PyData.strOk z = true) (hs : ∀ c ∈ l, c ∈ z.cps.toList) : PyData.strOk ⟨l.toArray⟩ = true := by
  unfold PyData.strOk at *
  rw [List.all_toArray]
  exact List.all_eq_true.mpr fun c hc => Array.all_eq_true'.mp h c (by simpa using hs c hc)
theorem strOk_cut {z : Str} {lo hi : Option Int} (h : PyData.strOk z = true) : PyData.strOk (cutS z lo hi) = true :=
  strOk_of h fun c hc => List.mem_of_mem_drop (List.mem_of_mem_take hc)
theorem cutV_eq {ds : List V} {lo hi : Option Int} (h : HT.sIx ds.length 0 lo = 0 ∧ HT.sIx ds.length ds.length hi = ds.length) : cutV ds lo hi = ds := by
  unfold cutV
  rw [h.1, h.2, Nat.sub_zero, List.drop_zero, List.take_length]
theorem dx_slice {lo hi : Option Expr} {fl fh : WO} (ha : DX ka X a fa) (hl : DO X lo fl) (hh : DO X hi fh) : DX .E X (.Subscript a (.Slice lo hi none p2) pos) (wSlice fa fl fh) := by
  refine (.of (pe_slice (sl_list.or (sl_tupA.or sl_str)) ha.pe hl.po hh.po) (fun ρ σ F H P Q rr hp q => ?_))
  refine ha.sem.toM ρ σ F H _ _ rr hp fun d F1 H1 v p1 e1 z1 => ?_
  refine hl.sem ρ σ F1 H1 _ _ (rr.ext e1) p1 fun l F2 H2 p2 e2 => ?_
  refine hh.sem ρ σ F2 H2 _ _ (rr.ext (e1.trans e2)) p2 fun h F3 H3 p3 e3 => ?_
  have e := (e1.trans e2).trans e3
  have z := RpM.ext (e2.trans e3) z1
  have s := e3.sub
  have q' : ∀ d F' H' v, P d → Ext F3 H3 F' H' → RK .E (kitOf X) H3 F' H' v d → Q v H' := fun d F' H' v p e' z' => q d F' H' v p (e.trans e') z'
  cases d with
  | list ds =>
    obtain ⟨a1, xs, ev, h1, l1, r1⟩ := RpM.list s z
    refine .inl ⟨a1, xs, ev, h1, fun p hp => ?_⟩
    obtain ⟨e4, z4⟩ := ext_lst (κ := kitOf X) s hp (Nat.le_trans (cutV_length _ _ _) l1) (r1.cut l h)
    exact frzQ q' _ _ _ _ p3 e4 z4
  | tuple ds =>
    obtain ⟨a1, xs, ev, h1, l1, r1, R1⟩ := RpM.tuple s z
    refine .inr (.inl ⟨a1, xs, ev, h1, fun hw => ?_, fun hw p hp => ?_⟩)
    · have hd : cutD ds l h = ds := by
        rw [r1.length] at hw
        unfold cutD
        rw [hw.1, hw.2, Nat.sub_zero, List.drop_zero, List.take_length]
      have p3' : P (.tuple (cutD ds l h)) := p3
      rw [hd] at p3'
      subst ev
      exact q' _ F3 H3 _ p3' (.refl s) R1
    · obtain ⟨e4, z4⟩ := ext_tup (κ := kitOf X) s hp (Nat.le_trans (cutV_length _ _ _) l1) (r1.cut l h)
      exact q' _ _ _ _ p3 e4 z4
  | str y =>
    obtain ⟨ev, l1, o1⟩ := RpM.str z
    exact .inr (.inr ⟨y, ev, l1, q' _ F3 H3 _ p3 (.refl s) (.str _ (Nat.le_trans (cutS_length _ _ _) l1) (strOk_cut o1))⟩)
  | _ => exact p3.elim
end
end DL

set_option maxRecDepth 100000
set_option maxHeartbeats 1000000
/-! DLf: built-in functions, calls of own defs, iterators, comprehensions. -/
namespace DL
open PySem PySem.Spec PyProof.Rows L2
section
variable {X : Cx} {κ : Kit}
theorem rm1 {F H : Hp} {vs : List V} {d : PyData} (h : RmAll κ F H vs [d]) : ∃ v, vs = [v] ∧ RpM κ F H v d := by
  cases h with
  | cons h1 h2 => cases h2; exact ⟨_, rfl, h1⟩
theorem rm2 {F H : Hp} {vs : List V} {d e : PyData} (h : RmAll κ F H vs [d, e]) : ∃ v u, vs = [v, u] ∧ RpM κ F H v d ∧ RpM κ F H u e := by
  cases h with
  | cons h1 h2 =>
    obtain ⟨u, rfl, h3⟩ := rm1 h2
    exact ⟨_, u, rfl, h1, h3⟩
def rLenX (K : PySem.W.Frag) : List V → Hp → VK → Prop := fun xs H Q => (∃ p ys, xs = [.ref p] ∧ (SqL K H p ys ∨ SqT K H p ys) ∧ Q (.int ys.length) H) ∨ ∃ z, xs = [.str z] ∧ z.length ≤ sizeLine ∧ Q (.int z.length) H
theorem x_len : CallR X (.builtin "len") (rLenX X.K) ∧ OpN (kitOf X) .E (rLenX X.K) fLen := by
  refine ⟨call_len_seq.or call_len_str, fun vs ds F H P Q s hx p q => ?_⟩
  unfold fLen at p
  split at p
  · obtain ⟨v, rfl, h⟩ := rm1 hx
    obtain ⟨a, xs, rfl, h1, h2, h3⟩ := RpM.list s h
    exact .inl ⟨a, xs, rfl, .inl h1, by rw [h3.length]; exact int_ s q p⟩
  · obtain ⟨v, rfl, h⟩ := rm1 hx
    obtain ⟨a, xs, rfl, h1, h2, h3, _⟩ := RpM.tuple s h
    exact .inl ⟨a, xs, rfl, .inr h1, by rw [h3.length]; exact int_ s q p⟩
  · obtain ⟨v, rfl, h⟩ := rm1 hx
    obtain ⟨rfl, h1, h2⟩ := RpM.str h
    exact .inr ⟨_, rfl, h1, int_ s q p⟩
  · exact p.elim
theorem bools_rp {F : Hp} : ∀ {ds : List PyData} {xs : List V} {bs : List Bool}, RpAll κ F xs ds → boolsOf ds = some bs → xs = bs.map V.bl
  | [], _, bs, .nil, e => by cases e; rfl
  | d :: ds, _, bs, .cons h t, e => by
    cases h with
    | bl b =>
      rw [boolsOf] at e
      cases q : boolsOf ds with
      | none => rw [q] at e; cases e
      | some cs =>
        rw [q] at e
        cases e
        rw [List.map_cons, bools_rp t q]
    | _ => simp [boolsOf] at e
theorem x_all (hc : X.calm = true) : CallR X (.builtin "all") (rAll X.K) ∧ OpN (kitOf X) .E (rAll X.K) fAll := by
  refine ⟨cr_all hc, fun vs ds F H P Q s hx p q => ?_⟩
  unfold fAll at p
  split at p
  · obtain ⟨v, rfl, h⟩ := rm1 hx
    obtain ⟨a, xs, rfl, h1, h2, h3⟩ := RpM.list s h
    obtain ⟨bs, e, p⟩ := p
    exact ⟨a, bs, rfl, by rw [← bools_rp h3 e]; exact h1, bool_ s q p⟩
  · exact p.elim
theorem x_any (hc : X.calm = true) : CallR X (.builtin "any") (rAny X.K) ∧ OpN (kitOf X) .E (rAny X.K) fAny := by
  refine ⟨cr_any hc, fun vs ds F H P Q s hx p q => ?_⟩
  unfold fAny at p
  split at p
  · obtain ⟨v, rfl, h⟩ := rm1 hx
    obtain ⟨a, xs, rfl, h1, h2, h3⟩ := RpM.list s h
    obtain ⟨bs, e, p⟩ := p
    exact ⟨a, bs, rfl, by rw [← bools_rp h3 e]; exact h1, bool_ s q p⟩
  · exact p.elim
abbrev rTupOf (K : PySem.W.Frag) : List V → Hp → VK → Prop := fun xs H Q => ∃ p ys, xs = [.ref p] ∧ ((SqL K H p ys ∧ ∀ l, H l = none → Q (.ref l) (upd H l (.tup ys))) ∨ (SqT K H p ys ∧ Q (.ref p) H))
theorem x_tupleOf : CallR X (.type "tuple") (rTupOf X.K) ∧ OpN (kitOf X) .E (rTupOf X.K) fTupleOf := by
  refine ⟨call_tuple_of, fun vs ds F H P Q s hx p q => ?_⟩
  unfold fTupleOf at p
  split at p
  · obtain ⟨v, rfl, h⟩ := rm1 hx
    obtain ⟨a, xs, rfl, h1, h2, h3⟩ := RpM.list s h
    refine ⟨a, xs, rfl, .inl ⟨h1, fun l hl => ?_⟩⟩
    obtain ⟨e2, z2⟩ := ext_tup (κ := kitOf X) s hl h2 h3
    exact q _ _ _ _ p e2 z2
  · obtain ⟨v, rfl, h⟩ := rm1 hx
    obtain ⟨a, xs, rfl, h1, h2, h3, h4⟩ := RpM.tuple s h
    exact ⟨a, xs, rfl, .inr ⟨h1, q _ F H _ p (.refl s) h4⟩⟩
  · exact p.elim
abbrev rLstOf (K : PySem.W.Frag) : List V → Hp → VK → Prop := fun xs H Q => ∃ p ys, xs = [.ref p] ∧ (SqL K H p ys ∨ SqT K H p ys) ∧ ∀ l, H l = none → Q (.ref l) (upd H l (.lst ys))
theorem x_listOf : CallR X (.type "list") (rLstOf X.K) ∧ OpN (kitOf X) .F (rLstOf X.K) fListOf := by
  refine ⟨call_list_of, fun vs ds F H P Q s hx p q => ?_⟩
  unfold fListOf at p
  split at p
  · obtain ⟨v, rfl, h⟩ := rm1 hx
    obtain ⟨a, xs, rfl, h1, h2, h3⟩ := RpM.list s h
    refine ⟨a, xs, rfl, .inl h1, fun l hl => ?_⟩
    obtain ⟨e2, z2⟩ := ext_lst (κ := kitOf X) s hl h2 h3
    exact q _ _ _ _ p e2 z2
  · obtain ⟨v, rfl, h⟩ := rm1 hx
    obtain ⟨a, xs, rfl, h1, h2, h3, _⟩ := RpM.tuple s h
    refine ⟨a, xs, rfl, .inr h1, fun l hl => ?_⟩
    obtain ⟨e2, z2⟩ := ext_lst (κ := kitOf X) s hl h2 h3
    exact q _ _ _ _ p e2 z2
  · exact p.elim
theorem num_str {n : Int} (h0 : 0 ≤ n) (h1 : n < 10 ^ 100) : n.natAbs.log2 < 1920 ∧ (Str.ofString (toString n)).length ≤ sizeLine ∧ PyData.strOk (Str.ofString (toString n)) = true := by
  obtain ⟨m, rfl⟩ : ∃ m : Nat, n = m := ⟨n.toNat, by omega⟩
  have hm : m < 10 ^ 100 := by exact_mod_cast h1
  have e := TL.tl_num m
  refine ⟨?_, ?_, ?_⟩
  · rw [Int.natAbs_natCast]
    by_cases z : m = 0
    · subst z; decide
    · exact (Nat.log2_lt z).mpr (Nat.lt_trans hm (by decide))
  · rw [TL.len_tl, e, sizeLine_eq]
    have := TL.numL_len (n := m) (k := 100) (by decide) hm
    omega
  · unfold PyData.strOk
    rw [Array.all_eq_true']
    intro c hc
    have hc2 : c ∈ TL.numL m := by
      rw [← e]
      simpa [TL.tl] using hc
    have hz : ¬ (c < 48 ∨ 57 < c) := fun q => TL.numL_free q hc2
    exact decide_eq_true (by omega)
abbrev rStrOf : List V → Hp → VK → Prop := fun xs H Q => ∃ i : Int, xs = [.int i] ∧ i.natAbs.log2 < 1920 ∧ Q (.str (toString i)) H
theorem x_strOf : CallR X (.type "str") rStrOf ∧ OpN (kitOf X) .E rStrOf fStrOf := by
  refine ⟨call_str_int, fun vs ds F H P Q s hx p q => ?_⟩
  unfold fStrOf at p
  split at p
  · obtain ⟨v, rfl, h⟩ := rm1 hx
    have e := RpM.int h
    subst e
    obtain ⟨⟨h0, h1⟩, p⟩ := p
    obtain ⟨z1, z2, z3⟩ := num_str h0 h1
    exact ⟨_, rfl, z1, q _ F H _ p (.refl s) (.str _ z2 z3)⟩
  · exact p.elim
abbrev rIntOf : List V → Hp → VK → Prop := fun xs H Q => (∃ a n, xs = [.str a] ∧ PySem.intText? a = some n ∧ a.length ≤ 640 ∧ Q (.int n) H) ∨ ((∃ i, xs = [.int i] ∧ Q (.int i) H) ∨ ∃ k, xs = [.bl k] ∧ Q (.int (if k then 1 else 0)) H)
theorem x_intOf : CallR X (.type "int") rIntOf ∧ OpN (kitOf X) .E rIntOf fIntOf := by
  refine ⟨call_int_str.or call_int1, fun vs ds F H P Q s hx p q => ?_⟩
  unfold fIntOf at p
  split at p
  · obtain ⟨v, rfl, h⟩ := rm1 hx
    obtain ⟨rfl, h1, h2⟩ := RpM.str h
    obtain ⟨hl, n, e, p⟩ := p
    exact .inl ⟨_, n, rfl, e, hl, int_ s q p⟩
  · obtain ⟨v, rfl, h⟩ := rm1 hx
    have e := RpM.int h
    subst e
    exact .inr (.inl ⟨_, rfl, int_ s q p⟩)
  · exact p.elim
variable {k ka kb kc : Kd} {a b c e : Expr} {es : List Expr} {fa fb fc : WE} {f : WA} {pos p p2 p3 : Pos} {x : Str} {id T : String}
theorem dx_callB {r : List V → Hp → VK → Prop} {g : WF} (h : CallR X (.builtin id) r ∧ OpN (kitOf X) k r g) (hm : X.mg x = none) (ha : DB X (e :: es) f) (hg : Gl X x := by rfl) (hv : bootBuiltins x = some (.builtin id) := by decide +kernel) (hn : x ≠ "__name__" := by decide) (hdb : (x == ("__debug__" : Str)) = false := by decide)
    (he : starEach (e :: es) X.env = (false, eval e X.env) :: starEach es X.env := by rfl) (hpl : (backTo pos (starEach es X.env)).any (·.1) = false := by rfl) : DX k X (.Call (.Name x p) (e :: es) [] pos) (wApp g f) :=
  (.of (pe_callB h.1 hg hm hv ha.pa hn hdb he hpl) (sem_opN h.2 ha.sem))
theorem dx_callTy {r : List V → Hp → VK → Prop} {g : WF} (h : CallR X (.type T) r ∧ OpN (kitOf X) k r g) (hm : X.mg x = none) (ha : DB X (e :: es) f) (hg : Gl X x := by rfl) (hv : bootBuiltins x = some (.type T) := by decide +kernel) (hn : x ≠ "__name__" := by decide) (hdb : (x == ("__debug__" : Str)) = false := by decide)
    (he : starEach (e :: es) X.env = (false, eval e X.env) :: starEach es X.env := by rfl) (hpl : (backTo pos (starEach es X.env)).any (·.1) = false := by rfl) : DX k X (.Call (.Name x p) (e :: es) [] pos) (wApp g f) :=
  (.of (pe_callTy h.1 hg hm hv ha.pa hn hdb he hpl) (sem_opN h.2 ha.sem))

/-! ### isinstance -/
def tyOf : PyData → String
  | .none => "NoneType"
  | .bool _ => "bool"
  | .int _ => "int"
  | .str _ => "str"
  | .list _ => "list"
  | .tuple _ => "tuple"
  | .dict _ => "dict"
def tyNames : List String := ["int", "bool", "str", "list", "tuple", "dict"]
theorem kit_all : (["NoneType", "bool", "int", "str", "list", "tuple", "dict"].all fun a => tyNames.all fun b => decide (kitB a b = some (a == b || (a == "bool" && b == "int")))) = true := by decide +kernel
theorem isTy_eq (d : PyData) (b : String) (h : b ∈ tyNames) : isTy b d = (tyOf d == b || (tyOf d == "bool" && b == "int")) := by
  simp only [tyNames, List.mem_cons, List.not_mem_nil, or_false] at h
  rcases h with rfl | rfl | rfl | rfl | rfl | rfl <;> cases d <;> rfl
theorem kitB_ty (d : PyData) (b : String) (h : b ∈ tyNames) : kitB (tyOf d) b = some (isTy b d) := by
  rw [isTy_eq d b h]
  have h1 : tyOf d ∈ ["NoneType", "bool", "int", "str", "list", "tuple", "dict"] := by cases d <;> simp [tyOf]
  have h2 := List.all_eq_true.mp kit_all _ h1
  have h3 := List.all_eq_true.mp h2 _ h
  exact of_decide_eq_true h3
theorem tyX_of {F H : Hp} {v : V} {d : PyData} (h : Rp κ H v d) : TyX κ.K H v (.type (tyOf d)) := by
  cases h with
  | non => exact .base .non
  | bl b => exact .base (.bl b)
  | int i => exact .base (.int i)
  | str x _ _ => exact .base (.str x)
  | lst h1 h2 h3 =>
    rcases h1 with (h1 | ⟨o, h1⟩) | ⟨o, its, n, h1, h4, _⟩
    · exact .base (.lst h1)
    · exact .base (.frz h1)
    · exact .kList h1 h4
  | tup h1 h2 h3 =>
    rcases h1 with (h1 | ⟨o, h1⟩) | ⟨o, its, n, h1, h4, _⟩
    · exact .base (.tup h1)
    · exact .fTuple h1
    · exact .kTuple h1 h4
  | dct h1 h2 h3 =>
    cases h2 with
    | k kvs => exact .base (.dK h1)
    | t kvs => exact .base (.dT h1)
theorem dx_isi (ha : DX ka X a fa) (hm : X.mg "isinstance" = none) (hm2 : X.mg x = none) (ht : T ∈ tyNames := by decide) (hg : Gl X "isinstance" := by rfl) (hg2 : Gl X x := by rfl) (hv2 : bootBuiltins x = some (.type T) := by decide +kernel)
    (hn : x ≠ "__name__" := by decide) (hdb : (x == ("__debug__" : Str)) = false := by decide)
    (s1 : starEach [a, .Name x p2] X.env = (false, eval a X.env) :: starEach [.Name x p2] X.env := by rfl) (s2 : starEach [.Name x p2] X.env = (false, eval (.Name x p2) X.env) :: starEach [] X.env := by rfl)
    (hpl : (backTo pos (starEach [.Name x p2] X.env)).any (·.1) = false := by rfl) :
    DX .E X (.Call (.Name "isinstance" p) [a, .Name x p2] [] pos) (w1 (oIsi [T]) fa) := by
  refine (.of (pe_callB call_isi hg hm (by decide +kernel) (pa_cons ha.pe (pa_cons (pe_bltn (v := .ty T) hg2 hm2 hv2 rfl hn hdb) pa_nil s2) s1) (by decide) (by decide) s1 hpl) (fun ρ σ F H P Q rr hp q => ?_))
  refine ha.sem.toM ρ σ F H _ _ rr hp fun d F' H' v pp e z => ?_
  refine ⟨v, .ty T, .type (tyOf d), .type T, isTy T d, rfl, .ty T, tyX_of (F := F') (κ := kitOf X) (RpM.toRp e.sub z), kit_ty (kitB_ty d T ht), ?_⟩
  have p' : P (.bool (isTy T d)) := by
    have z : oIsi [T] d P := pp
    simpa [oIsi] using z
  exact q _ F' H' _ p' e (.bl _)
/-- isinstance(x, (T, U)) -/
theorem dx_isi2 {U : String} {y : Str} {p4 : Pos} {kk : Nat} (ha : DX ka X a fa) (hm : X.mg "isinstance" = none) (hm2 : X.mg x = none) (hm3 : X.mg y = none) (ht : T ∈ tyNames := by decide) (hu : U ∈ tyNames := by decide) (hg : Gl X "isinstance" := by rfl) (hg2 : Gl X x := by rfl) (hg3 : Gl X y := by rfl)
    (hv2 : bootBuiltins x = some (.type T) := by decide +kernel) (hv3 : bootBuiltins y = some (.type U) := by decide +kernel)
    (hn : x ≠ "__name__" := by decide) (hdb : (x == ("__debug__" : Str)) = false := by decide) (hn3 : y ≠ "__name__" := by decide) (hdb3 : (y == ("__debug__" : Str)) = false := by decide)
    (s1 : starEach [a, .Tuple [.Name x p2, .Name y p3] kk p4] X.env = (false, eval a X.env) :: starEach [.Tuple [.Name x p2, .Name y p3] kk p4] X.env := by rfl)
    (s2 : starEach [.Tuple [.Name x p2, .Name y p3] kk p4] X.env = (false, eval (.Tuple [.Name x p2, .Name y p3] kk p4) X.env) :: starEach [] X.env := by rfl)
    (s3 : starEach [.Name x p2, .Name y p3] X.env = (false, eval (.Name x p2) X.env) :: starEach [.Name y p3] X.env := by rfl)
    (s4 : starEach [.Name y p3] X.env = (false, eval (.Name y p3) X.env) :: starEach [] X.env := by rfl)
    (hpl : (backTo pos (starEach [.Tuple [.Name x p2, .Name y p3] kk p4] X.env)).any (·.1) = false := by rfl) :
    DX .E X (.Call (.Name "isinstance" p) [a, .Tuple [.Name x p2, .Name y p3] kk p4] [] pos) (w1 (oIsi [T, U]) fa) := by
  refine (.of (pe_callB call_isiT hg hm (by decide +kernel) (pa_cons ha.pe (pa_cons (pe_tup (pa_cons (pe_bltn (v := .ty T) hg2 hm2 hv2 rfl hn hdb) (pa_cons (pe_bltn (v := .ty U) hg3 hm3 hv3 rfl hn3 hdb3) pa_nil s4) s3)) pa_nil s2) s1) (by decide) (by decide) s1 hpl) (fun ρ σ F H P Q rr hp q => ?_))
  refine ha.sem.toM ρ σ F H _ _ rr hp fun d F' H' v pp e z => ?_
  refine ⟨by show 2 ≤ sizeLine; decide, fun tp htp => ?_⟩
  have s2 : Same H' (upd H' tp (.tup [.ty T, .ty U])) := fun b u z => by rw [upd_ne (ne_of_none z htp)]; exact z
  refine ⟨v, tp, [.ty T, .ty U], .type (tyOf d), [.type T, .type U], (isTy T d || isTy U d), rfl, upd_same, .cons (.ty T) (.cons (.ty U) .nil), tyX_of (F := F') (κ := kitOf X) (Rp.mono s2 (RpM.toRp e.sub z)), ?_, ?_⟩
  · refine kitAny_cons (kit_ty (kitB_ty d T ht)) (fun h => kitAny_cons (kit_ty (kitB_ty d U hu)) (fun h2 => ?_) fun h2 => ?_) fun h => ?_
    · rw [h, h2]; exact kitAny_nil
    · rw [h2, Bool.or_true]
    · rw [h, Bool.true_or]
  · have p' : P (.bool (isTy T d || isTy U d)) := by
      have z : oIsi [T, U] d P := pp
      simpa [oIsi] using z
    exact q _ F' _ _ p' ⟨e.ff, e.hh.trans s2, e.sub.trans s2, e.new⟩ (.bl _)
end
end DL

set_option maxRecDepth 100000
set_option maxHeartbeats 1000000
/-! DLg: calls of own defs, iterators, targets, comprehensions. -/
namespace DL
open PySem PySem.Spec PyProof.Rows L2
/-! ### a def's contract -/
def spW (κ : Kit) (k : Kd) (n : Nat) (W : WF) : Sp := fun vs H Q _ => vs.length = n ∧ ∃ (F : Hp) (ds : List PyData) (P : PyData → Prop), Same F H ∧ RpAll κ F vs ds ∧ W ds P ∧
  ∀ d F' H' v, P d → Ext F H F' H' → RK k κ H F' H' v d → Q v H'
/-- the module's def x does W: at a level -/
def Own (P : Program) (w : World) (K : PySem.W.Frag) (mg : Str → Option Value) (base : Heap) (x : Str) (k : Kd) (n j : Nat) (W : WF) : Prop :=
  ∃ (f : Addr) (fd : FuncData) (ps : List Str), FnOk P w K mg base CX0 j f fd ps (spW ⟨K, P, w⟩ k n W) ∧ mg x = some (.ref f) ∧ PySem.W.keepIn K (.ref f) = true ∧ Binds K fd ps []
section
variable {X : Cx} {κ : Kit} {k ka kb kc : Kd} {a b c e : Expr} {es : List Expr} {ta tb tc : TE} {fa fb fc : WE} {t : TA} {f : WA} {pos p p2 p3 : Pos} {x : Str}
theorem dx_call {n j : Nat} {W : WF} (G : Own X.prog X.w X.K X.mg X.base x k n j W) (hr : Room j X.A) (ha : DA n X (e :: es) f) (hg : Gl X x := by rfl) (hdb : (x == ("__debug__" : Str)) = false := by decide)
    (he : starEach (e :: es) X.env = (false, eval e X.env) :: starEach es X.env := by rfl) (hpl : (backTo pos (starEach es X.env)).any (·.1) = false := by rfl) :
    DX k X (.Call (.Name x p) (e :: es) [] pos) (wApp W f) := by
  obtain ⟨g, fd, ps, F, hm, hk, hb⟩ := G
  refine (.of (pe_call F hr hg hm hk hb .nil pass0 ha.pa hdb he hpl) (fun ρ σ F H P Q rr hp q => ?_))
  refine ha.sem ρ σ F H _ _ rr hp fun ds F1 H1 vs p1 l1 e1 z1 => ?_
  show spW (kitOf X) k n W (vs ++ []) H1 Q E0
  rw [List.append_nil]
  exact ⟨by rw [z1.length, l1], F1, ds, P, e1.sub, z1, p1, fun d F' H' v p e z => q d F' H' v p (e1.trans e) (z.start e1.hh)⟩
theorem dx_call0 {j : Nat} {W : WF} (G : Own X.prog X.w X.K X.mg X.base x k 0 j W) (hr : Room j X.A) (hg : Gl X x := by rfl) (hdb : (x == ("__debug__" : Str)) = false := by decide) :
    DX k X (.Call (.Name x p) [] [] pos) (wApp W aNil) := by
  obtain ⟨g, fd, ps, F, hm, hk, hb⟩ := G
  refine (.of (pe_call0 F hr hg hm hk hb .nil pass0 hdb) (fun ρ σ F H P Q rr hp q => ?_))
  exact ⟨rfl, F, [], P, rr.sub, .nil, hp, q⟩

/-! ### iterators -/
def WalkD (κ : Kit) (F : Hp) (J : It) (ds : List PyData) : Prop := ∀ F2 H2, Same F F2 → Same F2 H2 →
  (∀ i d, ds[i]? = some d → J.go i H2 ∧ ∀ x H', J.yld i H2 x H' → ∃ F', Ext F2 H2 F' H' ∧ Rp κ F' x d) ∧ J.stop ds.length H2
def SemI (κ : Kit) (t : TI) (f : WA) : Prop := ∀ (ρ : Rho) (σ : L2.St) (F H : Hp) (P : List PyData → Prop) (R : It → Hp → Prop), EnvR κ F H ρ σ → f ρ P →
  (∀ ds F' H' J, P ds → ds.length ≤ sizeLine → Ext F H F' H' → WalkD κ F' J ds → R J H') → t σ H R
def canI (κ : Kit) (f : WA) : TI := fun σ H R => ∃ (ρ : Rho) (F : Hp) (P : List PyData → Prop), EnvR κ F H ρ σ ∧ f ρ P ∧ ∀ ds F' H' J, P ds → ds.length ≤ sizeLine → Ext F H F' H' → WalkD κ F' J ds → R J H'
structure DI (X : Cx) (tg e : Expr) (f : WA) : Prop where
  pi : PI X tg e (canI (kitOf X) f)
theorem DI.of {tg e : Expr} {t : TI} {f : WA} (h : PI X tg e t) (s : SemI (kitOf X) t f) : DI X tg e f := ⟨⟨fun pins s0 σ H Q I ⟨ρ, F, P, r, p, q⟩ => h.run pins s0 σ H Q I (s ρ σ F H P Q r p q)⟩⟩
theorem DI.sem {tg e : Expr} {f : WA} (h : DI X tg e f) : SemI (kitOf X) (canI (kitOf X) f) f := fun ρ σ F H P Q r p q => ⟨ρ, F, P, r, p, q⟩
def iLT (K : PySem.W.Frag) (tl : TE) : TI := fun σ H R => tl σ H fun x H1 => ∃ a, x = .ref a ∧ ((∃ xs, SqL K H1 a xs ∧ R (Itl K a) H1) ∨ ∃ xs, SqT K H1 a xs ∧ R (Itt K a) H1)
theorem pi_lt {tg : Expr} {l : Expr} {tl : TE} (hl : PE X l tl) : PI X tg l (iLT X.K tl) := by
  refine ⟨fun pins s σ H R I h => ?_⟩
  refine thn (hl.run pins s σ H _ I h) fun v s1 ⟨x, H1, I1, r1, q1⟩ => ?_
  obtain ⟨a, e, q1⟩ := q1
  subst e
  cases r1
  rcases q1 with ⟨xs, hq, q⟩ | ⟨xs, hq, q⟩
  · obtain ⟨its, rv, p, hz⟩ := I1.list hq
    refine wpAny_pyIter_list p.isList ?_
    refine ⟨s1.heap.objs.size, [s1.heap.objs.size], _, _, H1, rfl, I1.kept (t' := s1.toks) fun b o e => Heap.get?_push_of_some _ e, turn_list a _, ⟨_, Heap.get?_push_size _ rfl, rfl, rfl⟩, fun b hb => ?_, q⟩
    have e : b = s1.heap.objs.size := by simpa using hb
    subst e
    exact I1.fpOk (Nat.le_refl _) (I1.hok.fresh (Nat.le_refl _))
  · obtain ⟨its, rv, p, hz⟩ := I1.tuple hq
    refine wpAny_pyIter_tuple (show s1.heap.IsTuple a its.toArray from p) ?_
    refine ⟨s1.heap.objs.size, [s1.heap.objs.size], _, _, H1, rfl, I1.kept (t' := s1.toks) fun b o e => Heap.get?_push_of_some _ e, turn_tuple a _, ⟨_, Heap.get?_push_size _ rfl, rfl, rfl⟩, fun b hb => ?_, q⟩
    have e : b = s1.heap.objs.size := by simpa using hb
    subst e
    exact I1.fpOk (Nat.le_refl _) (I1.hok.fresh (Nat.le_refl _))
theorem walk_l {F : Hp} {a : Addr} {xs : List V} {ds : List PyData} (h1 : SqL κ.K F a xs) (h2 : RpAll κ F xs ds) : WalkD κ F (Itl κ.K a) ds := fun F2 H2 s1 s2 => by
  have hq : SqL κ.K H2 a xs := (s1.trans s2).seq h1
  refine ⟨fun i d hd => ?_, xs, hq, by rw [h2.length]; exact Nat.le_refl _⟩
  obtain ⟨v, hv, r⟩ := h2.get hd
  refine ⟨⟨xs, v, hq, hv⟩, fun x H' y => ?_⟩
  obtain ⟨rfl, y⟩ := y
  have e := y xs hq
  rw [hv] at e
  cases e
  exact ⟨F2, .refl s2, r.mono s1⟩
theorem walk_t {F : Hp} {a : Addr} {xs : List V} {ds : List PyData} (h1 : SqT κ.K F a xs) (h2 : RpAll κ F xs ds) : WalkD κ F (Itt κ.K a) ds := fun F2 H2 s1 s2 => by
  have hq : SqT κ.K H2 a xs := sameT (s1.trans s2) h1
  refine ⟨fun i d hd => ?_, xs, hq, by rw [h2.length]; exact Nat.le_refl _⟩
  obtain ⟨v, hv, r⟩ := h2.get hd
  refine ⟨⟨xs, v, hq, hv⟩, fun x H' y => ?_⟩
  obtain ⟨rfl, y⟩ := y
  have e := y xs hq
  rw [hv] at e
  cases e
  exact ⟨F2, .refl s2, r.mono s1⟩
theorem di_seq {tg : Expr} (ha : DX ka X a fa) (hk : ka.safe = true := by rfl) : DI X tg a (iSeq fa) := by
  refine (.of (pi_lt ha.pe) (fun ρ σ F H P R rr hp q => ?_))
  refine (ha.sem.toE hk) ρ σ F H _ _ rr hp fun d F' H' v p e z => ?_
  cases d with
  | list ds =>
    cases z with
    | lst h1 h2 h3 => exact ⟨_, rfl, .inl ⟨_, e.sub.seq h1, q _ _ _ _ p (by rw [← h3.length]; exact h2) e (walk_l (κ := kitOf X) h1 h3)⟩⟩
  | tuple ds =>
    cases z with
    | tup h1 h2 h3 => exact ⟨_, rfl, .inr ⟨_, sameT e.sub h1, q _ _ _ _ p (by rw [← h3.length]; exact h2) e (walk_t (κ := kitOf X) h1 h3)⟩⟩
  | _ => exact p.elim
theorem walk_r {F : Hp} {lo hi : Int} : WalkD κ F (Itr lo (hi - lo).toNat) (rangeD lo hi) := fun F2 H2 s1 s2 => by
  unfold rangeD
  refine ⟨fun i d hd => ?_, ?_⟩
  · rw [List.getElem?_map] at hd
    cases q : (List.range (hi - lo).toNat)[i]? with
    | none => rw [q] at hd; cases hd
    | some j =>
      rw [q] at hd
      cases hd
      obtain ⟨h1, h2⟩ := List.getElem?_eq_some_iff.mp q
      rw [List.length_range] at h1
      rw [List.getElem_range] at h2
      subst h2
      refine ⟨h1, fun x H' y => ?_⟩
      obtain ⟨rfl, rfl⟩ := y
      exact ⟨F2, .refl s2, .int _⟩
  · show (hi - lo).toNat ≤ _
    rw [List.length_map, List.length_range]
    exact Nat.le_refl _
theorem di_range1 {tg : Expr} {pr : Pos} (ha : DX ka X a fa) (hm : X.mg "range" = none) (hg : Gl X "range" := by rfl) (hs : starEach [a] X.env = [(false, eval a X.env)] := by rfl) (hs2 : starEach [a] X.env = (false, eval a X.env) :: starEach [] X.env := by rfl) :
    DI X tg (.Call (.Name "range" pr) [a] [] pos) (iRange1 fa) := by
  refine (.of (pi_range1 hg hm (pa_cons ha.pe pa_nil hs2) hs) (fun ρ σ F H P R rr hp q => ?_))
  refine ha.sem.toM ρ σ F H _ _ rr hp fun d F' H' v p e z => ?_
  unfold iRange1 at hp
  cases d with
  | int j =>
    have ev := RpM.int z
    subst ev
    obtain ⟨⟨h1, h2⟩, p⟩ := p
    refine ⟨j, rfl, by omega, by omega, ?_⟩
    have w := walk_r (κ := kitOf X) (F := F') (lo := 0) (hi := j)
    rw [show (j - 0 : Int) = j by omega] at w
    exact q _ _ _ _ p (by unfold rangeD; rw [List.length_map, List.length_range, sizeLine_eq]; omega) e w
  | _ => exact p.elim
theorem di_range2 {tg : Expr} {pr : Pos} (ha : DX ka X a fa) (hb : DX kb X b fb) (hm : X.mg "range" = none) (hg : Gl X "range" := by rfl) (hs : starEach [a, b] X.env = [(false, eval a X.env), (false, eval b X.env)] := by rfl) (hs2 : starEach [b] X.env = [(false, eval b X.env)] := by rfl)
    (hs3 : starEach [a, b] X.env = (false, eval a X.env) :: starEach [b] X.env := by rfl) (hs4 : starEach [b] X.env = (false, eval b X.env) :: starEach [] X.env := by rfl) :
    DI X tg (.Call (.Name "range" pr) [a, b] [] pos) (iRange2 fa fb) := by
  refine (.of (pi_range2 hg hm (pa_cons ha.pe (pa_cons hb.pe pa_nil hs4) hs3) hs hs2) (fun ρ σ F H P R rr hp q => ?_))
  refine ha.sem.toM ρ σ F H _ _ rr hp fun d F1 H1 v p1 e1 z1 => ?_
  refine hb.sem.toM ρ σ F1 H1 _ _ (rr.ext e1) p1 fun d2 F2 H2 v2 p2 e2 z2 => ?_
  cases d with
  | int i =>
    cases d2 with
    | int j =>
      have ev := RpM.int z1
      subst ev
      have ev := RpM.int z2
      subst ev
      obtain ⟨⟨h1, h2, h3, h4, h5⟩, p⟩ := p2
      refine ⟨i, j, rfl, ⟨by omega, by omega, by omega, by omega⟩, ?_⟩
      exact q _ _ _ _ p (by unfold rangeD; rw [List.length_map, List.length_range, sizeLine_eq]; omega) (e1.trans e2) walk_r
    | _ => exact p2.elim
  | _ => cases d2 <;> exact p2.elim
theorem di_str {tg : Expr} (ha : DX ka X a fa) : DI X tg a (iStr fa) := by
  refine (.of (pi_str ha.pe) (fun ρ σ F H P R rr hp q => ?_))
  refine ha.sem.toM ρ σ F H _ _ rr hp fun d F' H' v p e z => ?_
  unfold iStr at hp
  cases d with
  | str y =>
    obtain ⟨ev, l1, o1⟩ := RpM.str z
    refine ⟨y, ev, ?_⟩
    refine q _ _ _ _ p (by rw [List.length_map]; exact l1) e fun F2 H2 s1 s2 => ⟨fun i d hd => ?_, ?_⟩
    · rw [List.getElem?_map] at hd
      cases qq : y.cps.toList[i]? with
      | none => rw [qq] at hd; cases hd
      | some c =>
        rw [qq] at hd
        cases hd
        have hi := (List.getElem?_eq_some_iff.mp qq).1
        refine ⟨by show i < y.cps.size; simpa using hi, fun x H' yy => ?_⟩
        obtain ⟨rfl, c', hc', rfl⟩ := yy
        have e2 : c' = c := by
          have z : y.cps.toList[i]? = some c' := by rw [Array.getElem?_toList]; exact hc'
          rw [qq] at z
          cases z
          rfl
        subst e2
        exact ⟨F2, .refl s2, .str _ (by show 1 ≤ sizeLine; decide) (strOk_one o1 (List.mem_of_getElem? qq))⟩
    · show y.cps.size ≤ _
      rw [List.length_map, Array.length_toList]
      exact Nat.le_refl _
  | _ => exact p.elim

/-! ### targets -/
/-- the slots at vs are stored, frozen; all else stays -/
def SemG (κ : Kit) (vs : List Nat) (g : TG) (f : WG) : Prop := ∀ (ρ : Rho) (σ : L2.St) (F H : Hp) (v : V) (d : PyData) (P : Rho → Prop) (Q : L2.St → Hp → Prop), EnvR κ F H ρ σ → Rp κ F v d → f d ρ P →
  (∀ ρ' σ', P ρ' → EnvR κ F H ρ' σ' → (∀ i : Nat, i ∉ vs → σ'[i]? = σ[i]?) → σ'.length = σ.length → (∀ (i : Nat) (e : PyData), ρ'[i]? = some (some (.own e)) → ρ[i]? = some (some (.own e)) ∧ σ'[i]? = σ[i]?) → Q σ' H) → g v σ H Q
def SemGs (κ : Kit) (vs : List Nat) (g : TGs) (f : WGs) : Prop := ∀ (ρ : Rho) (σ : L2.St) (F H : Hp) (v : List V) (d : List PyData) (P : Rho → Prop) (Q : L2.St → Hp → Prop), EnvR κ F H ρ σ → RpAll κ F v d → f d ρ P →
  (∀ ρ' σ', P ρ' → EnvR κ F H ρ' σ' → (∀ i : Nat, i ∉ vs → σ'[i]? = σ[i]?) → σ'.length = σ.length → (∀ (i : Nat) (e : PyData), ρ'[i]? = some (some (.own e)) → ρ[i]? = some (some (.own e)) ∧ σ'[i]? = σ[i]?) → Q σ' H) → g v σ H Q
def EndG (κ : Kit) (vs : List Nat) (F H : Hp) (ρ : Rho) (σ : L2.St) (P : Rho → Prop) (Q : L2.St → Hp → Prop) : Prop := ∀ ρ' σ', P ρ' → EnvR κ F H ρ' σ' → (∀ i : Nat, i ∉ vs → σ'[i]? = σ[i]?) → σ'.length = σ.length → (∀ (i : Nat) (e : PyData), ρ'[i]? = some (some (.own e)) → ρ[i]? = some (some (.own e)) ∧ σ'[i]? = σ[i]?) → Q σ' H
def canG (κ : Kit) (vs : List Nat) (f : WG) : TG := fun v σ H Q => ∃ (ρ : Rho) (F : Hp) (d : PyData) (P : Rho → Prop), EnvR κ F H ρ σ ∧ Rp κ F v d ∧ f d ρ P ∧ EndG κ vs F H ρ σ P Q
def canGs (κ : Kit) (vs : List Nat) (f : WGs) : TGs := fun v σ H Q => ∃ (ρ : Rho) (F : Hp) (d : List PyData) (P : Rho → Prop), EnvR κ F H ρ σ ∧ RpAll κ F v d ∧ f d ρ P ∧ EndG κ vs F H ρ σ P Q
structure DG (vs : List Nat) (X : Cx) (tg : Expr) (f : WG) : Prop where
  pg : PG X tg (canG (kitOf X) vs f)
structure DGs (vs : List Nat) (X : Cx) (tgs : List Expr) (f : WGs) : Prop where
  pg : PGs X tgs (canGs (kitOf X) vs f)
theorem DG.of {vs : List Nat} {tg : Expr} {g : TG} {f : WG} (h : PG X tg g) (s : SemG (kitOf X) vs g f) : DG vs X tg f := ⟨⟨fun pins s0 σ H v u Q I rv ⟨ρ, F, d, P, r, rd, p, q⟩ => h.run pins s0 σ H v u Q I rv (s ρ σ F H v d P Q r rd p q)⟩⟩
theorem DG.sem {vs : List Nat} {tg : Expr} {f : WG} (h : DG vs X tg f) : SemG (kitOf X) vs (canG (kitOf X) vs f) f := fun ρ σ F H v d P Q r rd p q => ⟨ρ, F, d, P, r, rd, p, q⟩
theorem DGs.of {vs : List Nat} {tg : List Expr} {g : TGs} {f : WGs} (h : PGs X tg g) (s : SemGs (kitOf X) vs g f) : DGs vs X tg f := ⟨⟨fun pins s0 σ H v u Q I rv ⟨ρ, F, d, P, r, rd, p, q⟩ => h.run pins s0 σ H v u Q I rv (s ρ σ F H v d P Q r rd p q)⟩⟩
theorem DGs.sem {vs : List Nat} {tg : List Expr} {f : WGs} (h : DGs vs X tg f) : SemGs (kitOf X) vs (canGs (kitOf X) vs f) f := fun ρ σ F H v d P Q r rd p q => ⟨ρ, F, d, P, r, rd, p, q⟩
theorem own_set {ρ : Rho} {σ : L2.St} {i : Nat} {v : V} {d : PyData} {j : Nat} {e : PyData} (hj : (ρ.set i (some (.dat d)))[j]? = some (some (.own e))) : ρ[j]? = some (some (.own e)) ∧ (σ.set i (some v))[j]? = σ[j]? := by
  by_cases h : i = j
  · subst h
    have hl : i < ρ.length := by
      have := (List.getElem?_eq_some_iff.mp hj).1
      rw [List.length_set] at this
      exact this
    rw [List.getElem?_set_self hl] at hj
    cases hj
  · rw [List.getElem?_set_ne h] at hj ⊢
    exact ⟨hj, rfl⟩
theorem dg_nm (i : Nat) {y : Str} {py : Pos} (hN : X.N.Nodup) (hi : X.N[i]? = some y := by rfl) (hx : Loc X.env.scope y := by first | exact Or.inl rfl | exact Or.inr rfl) (hf : X.fn y = true ∨ X.env.scope.names.lookup y = some .local := by first | exact .inl rfl | exact .inr rfl | assumption) : DG [i] X (.Name y py) (gNm i) := by
  refine (.of (pg_name hN hi hx hf) (fun ρ σ F H v d P Q rr hv hp q => ?_))
  refine q _ _ hp (rr.setDat hv) (fun j hj => ?_) (by rw [List.length_set]) fun j e hj => own_set hj
  have : i ≠ j := fun z => hj (by simp [z])
  rw [List.getElem?_set_ne this]
theorem dgs_nil : DGs [] X [] gNl := by
  refine (.of (pgs_nil) (fun ρ σ F H v d P Q rr hv hp q => ?_))
  cases hv with
  | nil => exact ⟨rfl, q ρ σ hp rr (fun _ _ => rfl) rfl fun _ _ h => ⟨h, rfl⟩⟩
  | cons _ _ => exact hp.elim
theorem dgs_cons {vs ws : List Nat} {fg : WG} {fgs : WGs} (h1 : DG vs X e fg) (h2 : DGs ws X es fgs)
    (hs : (assignEach (e :: es) X.env).map (·.2) = assign e X.env :: (assignEach es X.env).map (·.2) := by rfl) : DGs (vs ++ ws) X (e :: es) (gCn fg fgs) := by
  refine (.of (pgs_cons h1.pg h2.pg hs) (fun ρ σ F H v d P Q rr hv hp q => ?_))
  cases hv with
  | nil => exact hp.elim
  | cons hv hvs =>
    refine ⟨_, _, rfl, ?_⟩
    refine h1.sem ρ σ F H _ _ _ _ rr hv hp fun ρ1 σ1 p1 r1 a1 l1 o1 => ?_
    refine h2.sem ρ1 σ1 F H _ _ _ _ r1 hvs p1 fun ρ2 σ2 p2 r2 a2 l2 o2 => ?_
    refine q ρ2 σ2 p2 r2 (fun i hi => ?_) (l2.trans l1) fun i e he => ?_
    · rw [List.mem_append, not_or] at hi
      rw [a2 i hi.2, a1 i hi.1]
    · obtain ⟨z1, z2⟩ := o2 i e he
      obtain ⟨z3, z4⟩ := o1 i e z1
      exact ⟨z3, z2.trans z4⟩
theorem dg_tp {vs : List Nat} {n kk : Nat} {fg : WGs} (hc : X.calm = true) (h : DGs vs X es fg)
    (hn : (assignEach es X.env).length = n := by rfl) (hst : (assignEach es X.env).findIdx? (·.1) = none := by rfl) : DG vs X (.Tuple es kk pos) (gTp n fg) := by
  refine (.of (pg_tup hc h.pg hn hst) (fun ρ σ F H v d P Q rr hv hp q => ?_))
  cases d with
  | tuple ds =>
    cases hv with
    | tup h1 h2 h3 => exact ⟨_, _, rfl, sameT rr.sub h1, by rw [h3.length]; exact hp.1, h.sem ρ σ F H _ _ P Q rr h3 hp.2 q⟩
  | _ => exact hp.elim

/-! ### comprehensions -/
structure DTs (X : Cx) (ifs : List Expr) (f : WT) : Prop where
  pt : PTs X ifs (canT (kitOf X) f)
theorem DTs.of {ifs : List Expr} {t : TT} {f : WT} (h : PTs X ifs t) (s : SemT (kitOf X) t f) : DTs X ifs f := ⟨⟨fun pins s0 σ H Q I ⟨ρ, F, P, r, p, q⟩ => h.run pins s0 σ H Q I (s ρ σ F H P Q r p q)⟩⟩
theorem DTs.sem {ifs : List Expr} {f : WT} (h : DTs X ifs f) : SemT (kitOf X) (canT (kitOf X) f) f := can_semT
theorem dts_nil : DTs X [] tYes := (.of (pts_nil) (fun ρ σ F H P Q rr hp q => q true F H hp (.refl rr.sub)))
theorem dts_one {f : WT} (h : DT X c f) : DTs X [c] f := (.of (pts_one h.pt) (h.sem))
theorem wipe_get {σ : L2.St} : ∀ {vs : List Nat} {i : Nat}, i ∉ vs → (L2.wipe σ vs)[i]? = σ[i]?
  | [], _, _ => rfl
  | v :: vs, i, h => by
    rw [List.mem_cons, not_or] at h
    show ((L2.wipe σ vs).set v none)[i]? = _
    rw [List.getElem?_set_ne (fun z => h.1 z.symm), wipe_get h.2]
theorem wipe_in {σ : L2.St} : ∀ {vs : List Nat} {i : Nat}, i ∈ vs → i < σ.length → (L2.wipe σ vs)[i]? = some none
  | v :: vs, i, h, hl => by
    show ((L2.wipe σ vs).set v none)[i]? = _
    by_cases e : v = i
    · subst e
      rw [List.getElem?_set_self (by rw [wipe_length]; exact hl)]
    · rw [List.getElem?_set_ne e]
      exact wipe_in ((List.mem_cons.mp h).resolve_left fun z => e z.symm) hl
theorem wipe_same {σ τ : L2.St} {vs : List Nat} (hl : τ.length = σ.length) (h : ∀ i : Nat, i ∉ vs → τ[i]? = (L2.wipe σ vs)[i]?) : L2.wipe τ vs = L2.wipe σ vs := by
  refine List.ext_getElem? fun i => ?_
  by_cases hi : i ∈ vs
  · by_cases hlt : i < σ.length
    · rw [wipe_in hi hlt, wipe_in hi (by rw [hl]; exact hlt)]
    · rw [List.getElem?_eq_none (by rw [wipe_length]; omega), List.getElem?_eq_none (by rw [wipe_length]; omega)]
  · rw [wipe_get hi]
    exact h i hi
theorem Ext.noCell {F H F' H' : Hp} {a : Addr} {o : HO} (e : Ext F H F' H') (n : F a = none) (h : H a = some o) (ht : ∀ xs, o ≠ .tup xs) : F' a = none := by
  cases q : F' a with
  | none => rfl
  | some u =>
    have e1 := e.sub a u q
    rw [e.hh a o h] at e1
    cases e1
    rcases e.new a o q n with z | ⟨xs, z⟩
    · rw [h] at z; cases z
    · exact absurd z (ht xs)
theorem ext_app {F H Fi : Hp} {H' : Hp} {D : Addr} {acc : List V} {y : V} (e : Ext F H Fi H') (hD : H D = none) (fD : Fi D = none) : Ext F H Fi (upd H' D (.lst (acc ++ [y]))) := by
  refine ⟨e.ff, fun b u z => ?_, fun b u z => ?_, e.new⟩
  · rw [upd_ne (ne_of_none z hD)]; exact e.hh b u z
  · rw [upd_ne (ne_of_none z fD)]; exact e.sub b u z
theorem sem_comp {wi : TI} {fi : WA} {own : List Nat} {g : TG} {fg : WG} {tt : TT} {ft : WT} {te : TE} {fe : WE} (hi : SemI κ wi fi) (hg : SemG κ own g fg) (ht : SemT κ tt ft) (he : SemE κ ka te fe) (hk : ka.safe = true) :
    SemE κ .F (tLc wi g tt te own) (wComp fi own fg ft fe) := by
  intro ρ σ F H P Q rr hp q
  refine hi ρ σ F H _ _ rr hp fun ds F1 H1 J p1 lds e1 w1 => ?_
  intro D hD
  have d1 : F1 D = none := e1.sub.free hD
  have s0 : Same H1 (upd H1 D (.lst [])) := fun b u z => by rw [upd_ne (ne_of_none z hD)]; exact z
  refine ⟨fun i m H' => ∃ Fi acc dd, m = ds.length - i ∧ i ≤ ds.length ∧ Ext F1 H1 Fi H' ∧ Fi D = none ∧ H' D = some (.lst acc) ∧ acc.length ≤ i ∧ RpAll κ Fi acc dd ∧ compD fg ft fe (wipeD ρ own) (ds.drop i) fun ys => P (.list (dd ++ ys)), ⟨ds.length, F1, [], [], rfl, Nat.zero_le _, ⟨Same.refl _, s0, e1.sub.trans s0, fun a o h n => by rw [h] at n; cases n⟩, d1, upd_same, Nat.le_refl _, .nil, p1⟩, ?_⟩
  rintro i m H' ⟨Fi, acc, dd, rfl, hi, ei, fD, hD', hacc, racc, hc⟩
  obtain ⟨wgo, wstop⟩ := w1 Fi H' ei.ff ei.sub
  by_cases hlt : i < ds.length
  · have hd : ds[i]? = some ds[i] := List.getElem?_eq_getElem hlt
    obtain ⟨go, yl⟩ := wgo i _ hd
    rw [List.drop_eq_getElem_cons hlt] at hc
    refine .inr ⟨go, fun H'' => ∃ Fi acc dd, Ext F1 H1 Fi H'' ∧ Fi D = none ∧ H'' D = some (.lst acc) ∧ acc.length ≤ i + 1 ∧ RpAll κ Fi acc dd ∧ compD fg ft fe (wipeD ρ own) (ds.drop (i + 1)) fun ys => P (.list (dd ++ ys)), fun H'' ⟨Fi, acc, dd, a1, a2, a3, a4, a5, a6⟩ => ⟨ds.length - (i + 1), by omega, Fi, acc, dd, rfl, hlt, a1, a2, a3, a4, a5, a6⟩, fun x H2 hy => ?_⟩
    obtain ⟨F2, e2, r2⟩ := yl x H2 hy
    have nt : ∀ zs, HO.lst acc ≠ .tup zs := fun _ z => nomatch z
    have eF : Ext F1 H1 F2 H2 := ei.trans e2
    have hD2 : H2 D = some (.lst acc) := e2.hh _ _ hD'
    have fD2 : F2 D = none := e2.noCell fD hD' nt
    refine hg (wipeD ρ own) (L2.wipe σ own) F2 H2 x ds[i] _ _ ((rr.ext (e1.trans eF)).wipe own) r2 hc fun ρ' σ' p' r' a' l' o' => ⟨wipe_same (by rw [l', wipe_length]) a', ?_⟩
    refine ht ρ' σ' F2 H2 _ _ r' p' fun b F3 H3 p3 e3 => ?_
    have hD3 : H3 D = some (.lst acc) := e3.hh _ _ hD2
    have fD3 : F3 D = none := e3.noCell fD2 hD2 nt
    cases b with
    | false => exact iteF ⟨F3, acc, dd, eF.trans e3, fD3, hD3, by omega, racc.mono (e2.ff.trans e3.ff), p3⟩
    | true =>
      refine iteT ((he.toE hk) ρ' σ' F3 H3 _ _ (r'.ext e3) p3 fun y F4 H4 v p4 e4 z4 => ?_)
      have hD4 : H4 D = some (.lst acc) := e4.hh _ _ hD3
      have fD4 : F4 D = none := e4.noCell fD3 hD3 nt
      refine ⟨acc, hD4, by omega, F4, acc ++ [v], dd ++ [y], ext_app (eF.trans (e3.trans e4)) hD fD4, fD4, upd_same, by rw [List.length_append, List.length_singleton]; omega, (racc.mono (e2.ff.trans (e3.ff.trans e4.ff))).append (.cons z4 .nil), ?_⟩
      have ee : (fun ys => P (.list (dd ++ [y] ++ ys))) = (fun ys => P (.list (dd ++ (y :: ys)))) := funext fun ys => by
        rw [List.append_assoc]
        rfl
      rw [ee]
      exact p4
  · have e : i = ds.length := by omega
    subst e
    refine .inl ⟨wstop, ?_⟩
    rw [List.drop_length] at hc
    have hc' : P (.list (dd ++ [])) := hc
    rw [List.append_nil] at hc'
    have eE : Ext F H Fi H' := e1.trans ei
    exact q _ Fi H' (.ref D) hc' eE ⟨D, rfl, e1.hh.free hD, fD, .inl ⟨acc, dd, rfl, hD', Nat.le_trans hacc lds, racc⟩⟩
theorem dx_comp {elt tg iter : Expr} {ifs : List Expr} {scope : Scope} {own : List (Str × Nat)} {fi : WA} {fg : WG} {ft : WT} {fe : WE} (hc : X.calm = true) (hN : X.N.Nodup) (hi : DI X tg iter fi) (ok : blkC X.N X.env.scope scope own = true)
    (hg : ∀ (s : Shared) (H : Hp) (C : Addr) (cl : List (Str × Addr)) (fp : List Addr), DG (own.map (·.2)) (X.blk s H scope (compEnvC scope cl C X.env) fp) tg fg) (ht : ∀ (s : Shared) (H : Hp) (C : Addr) (cl : List (Str × Addr)) (fp : List Addr), DTs (X.blk s H scope (compEnvC scope cl C X.env) fp) ifs ft)
    (he : ∀ (s : Shared) (H : Hp) (C : Addr) (cl : List (Str × Addr)) (fp : List Addr), DX ka (X.blk s H scope (compEnvC scope cl C X.env) fp) elt fe) (hk : ka.safe = true := by rfl) (hs : ∀ x, foldedSetIterable iter X.env x = pure x := by intro _; rfl) :
    DX .F X (.ListComp elt [⟨tg, iter, ifs, 0⟩] scope pos) (wComp fi (own.map (·.2)) fg ft fe) :=
  (.of (pe_lc (te := canE (kitOf X) ka fe) (tt := canT (kitOf X) ft) (g := canG (kitOf X) (own.map (·.2)) fg) hc hN hi.pi (blkOk_by ok) (fun s H C cl fp => (hg s H C cl fp).pg) (fun s H C cl fp => (ht s H C cl fp).pt) (fun s H C cl fp => (he s H C cl fp).pe) hs) (sem_comp hi.sem (hg X.s_0 X.H_0 0 [] []).sem (ht X.s_0 X.H_0 0 [] []).sem (he X.s_0 X.H_0 0 [] []).sem hk))
end
end DL

set_option maxRecDepth 100000
set_option maxHeartbeats 1000000
/-! DLh: statements, loops, the contract of a def. -/
namespace DL
open PySem PySem.Spec PyProof.Rows L2
structure StR (κ : Kit) (Fi Hi : Hp) (ρ : Rho) (σ : L2.St) (F H : Hp) : Prop where
  env : EnvR κ F H ρ σ
  ext : Ext Fi Hi F H
  own : ∀ (i : Nat) (a : Addr) (d : PyData), ρ[i]? = some (some (.own d)) → σ[i]? = some (some (.ref a)) → Hi a = none
structure Link (κ : Kit) (kr : Kd) (Fi Hi : Hp) (D : DEnds) (Df : Ends) : Prop where
  nx : ∀ ρ σ F H, StR κ Fi Hi ρ σ F H → D.nx ρ → Df.nx σ H
  bk : ∀ ρ σ F H, StR κ Fi Hi ρ σ F H → D.bk ρ → Df.bk σ H
  ct : ∀ ρ σ F H, StR κ Fi Hi ρ σ F H → D.ct ρ → Df.ct σ H
  rt : ∀ d F H v, Ext Fi Hi F H → RK kr κ Hi F H v d → D.rt d → Df.rt v H
def SemS (κ : Kit) (kr : Kd) (ts : TS) (td : DTS) : Prop := ∀ (D : DEnds) (Df : Ends) (Fi Hi : Hp) (ρ : Rho) (σ : L2.St) (F H : Hp), StR κ Fi Hi ρ σ F H → td D ρ → Link κ kr Fi Hi D Df → ts Df σ H
def canS (κ : Kit) (kr : Kd) (td : DTS) : TS := fun Df σ H => ∃ (D : DEnds) (Fi Hi : Hp) (ρ : Rho) (F : Hp), StR κ Fi Hi ρ σ F H ∧ td D ρ ∧ Link κ kr Fi Hi D Df
structure DS (kr : Kd) (X : Cx) (st : Stmt) (td : DTS) : Prop where
  ps : PS X st (canS (kitOf X) kr td)
structure DSs (kr : Kd) (X : Cx) (st : List Stmt) (td : DTS) : Prop where
  ps : PSs X st (canS (kitOf X) kr td)
theorem DS.of {kr : Kd} {X : Cx} {st : Stmt} {ts : TS} {td : DTS} (h : PS X st ts) (s : SemS (kitOf X) kr ts td) : DS kr X st td := ⟨⟨fun pins s0 σ H Df I ⟨D, Fi, Hi, ρ, F, r, p, l⟩ => h.run pins s0 σ H Df I (s D Df Fi Hi ρ σ F H r p l)⟩⟩
theorem DS.sem {kr : Kd} {X : Cx} {st : Stmt} {td : DTS} (h : DS kr X st td) : SemS (kitOf X) kr (canS (kitOf X) kr td) td := fun D Df Fi Hi ρ σ F H r p l => ⟨D, Fi, Hi, ρ, F, r, p, l⟩
theorem DSs.of {kr : Kd} {X : Cx} {st : List Stmt} {ts : TS} {td : DTS} (h : PSs X st ts) (s : SemS (kitOf X) kr ts td) : DSs kr X st td := ⟨⟨fun pins s0 σ H Df I ⟨D, Fi, Hi, ρ, F, r, p, l⟩ => h.run pins s0 σ H Df I (s D Df Fi Hi ρ σ F H r p l)⟩⟩
theorem DSs.sem {kr : Kd} {X : Cx} {st : List Stmt} {td : DTS} (h : DSs kr X st td) : SemS (kitOf X) kr (canS (kitOf X) kr td) td := fun D Df Fi Hi ρ σ F H r p l => ⟨D, Fi, Hi, ρ, F, r, p, l⟩
section
variable {κ : Kit} {Fi Hi F H F' H' F1 H1 : Hp} {ρ ρ' : Rho} {σ σ' : L2.St} {i : Nat} {d : PyData} {v : V}
theorem StR.next (r : StR κ Fi Hi ρ σ F H) (e : Ext F H F' H') : StR κ Fi Hi ρ σ F' H' := ⟨r.env.ext e, r.ext.trans e, r.own⟩
theorem StR.setDat (r : StR κ Fi Hi ρ σ F H) (h : Rp κ F v d) : StR κ Fi Hi (ρ.set i (some (.dat d))) (σ.set i (some v)) F H := by
  refine ⟨r.env.setDat h, r.ext, fun j a e hj sj => ?_⟩
  obtain ⟨h1, h2⟩ := own_set (v := v) (σ := σ) hj
  exact r.own j a e h1 (by rw [← h2]; exact sj)
theorem StR.setOwn {a : Addr} (r : StR κ Fi Hi ρ σ F H) (hF : F a = none) (hH : Hi a = none) (hc : Cell κ F H a d) (ha : ∀ j e, ρ[j]? = some (some (.own e)) → σ[j]? = some (some (.ref a)) → j = i) : StR κ Fi Hi (ρ.set i (some (.own d))) (σ.set i (some (.ref a))) F H := by
  refine ⟨r.env.set ⟨a, rfl, hF, hc⟩ fun d' a' j e h1 h2 h3 h4 => ?_, r.ext, fun j b e hj sj => ?_⟩
  · cases h2
    exact ha j e h3 h4
  · by_cases hij : i = j
    · subst hij
      have hl : i < ρ.length := by
        have := (List.getElem?_eq_some_iff.mp hj).1
        rw [List.length_set] at this
        exact this
      rw [List.getElem?_set_self (by rw [← r.env.len]; exact hl)] at sj
      cases sj
      exact hH
    · rw [List.getElem?_set_ne hij] at hj sj
      exact r.own j b e hj sj
/-- a new object is stored -/
theorem StR.setNew (r : StR κ Fi Hi ρ σ F H) (e : Ext F H F' H') (z : RK .F κ H F' H' v d) : StR κ Fi Hi (ρ.set i (some (.own d))) (σ.set i (some v)) F' H' := by
  obtain ⟨p, rfl, n1, n2, hc⟩ := z
  refine (r.next e).setOwn n2 (r.ext.hh.free n1) hc fun j d' hj sj => ?_
  obtain ⟨a, h1, h2, h3⟩ := r.env.slot j _ hj
  rw [h1] at sj
  cases sj
  obtain ⟨o, ho, _⟩ := h3.there
  rw [n1] at ho
  cases ho
/-- an own cell is written -/
theorem StR.write {a : Addr} {e : PyData} {o' : HO} {d' : PyData} (r : StR κ Fi Hi ρ σ F H) (hj : ρ[i]? = some (some (.own e))) (sj : σ[i]? = some (some (.ref a))) (hc : Cell κ F (upd H a o') a d') : StR κ Fi Hi (ρ.set i (some (.own d'))) σ F (upd H a o') := by
  obtain ⟨a', h1, h2, h3⟩ := r.env.slot i _ hj
  rw [sj] at h1
  cases h1
  have hHi := r.own i a e hj sj
  have s1 : Same F (upd H a o') := fun b u z => by rw [upd_ne (ne_of_none z h2)]; exact r.env.sub b u z
  have other : ∀ {j : Nat} {b : Addr} {x : PyData}, ρ[j]? = some (some (.own x)) → σ[j]? = some (some (.ref b)) → i ≠ j → b ≠ a := fun {j b x} hj' sj' hij z => by
    subst z
    exact hij (r.env.apart i j b e x hj hj' sj sj')
  have hl : i < ρ.length := (List.getElem?_eq_some_iff.mp hj).1
  refine ⟨⟨s1, by rw [List.length_set]; exact r.env.len, fun j s hs => ?_, fun j k b x y hx hy sx sy => ?_⟩, ⟨r.ext.ff, fun b u z => ?_, s1, r.ext.new⟩, fun j b x hx sx => ?_⟩
  · by_cases hij : i = j
    · subst hij
      rw [List.getElem?_set_self hl] at hs
      cases hs
      exact ⟨a, sj, h2, hc⟩
    · rw [List.getElem?_set_ne hij] at hs
      have q := r.env.slot j s hs
      cases s with
      | dat x => exact q
      | own x =>
        obtain ⟨b, q1, q2, q3⟩ := q
        have nb : b ≠ a := other hs q1 hij
        refine ⟨b, q1, q2, ?_⟩
        rcases q3 with ⟨xs, ds, z1, z2, z3, z4⟩ | ⟨o, ks, xs, ds, z1, z2, z3, z4⟩
        · exact .inl ⟨xs, ds, z1, by rw [upd_ne nb]; exact z2, z3, z4⟩
        · exact .inr ⟨o, ks, xs, ds, z1, by rw [upd_ne nb]; exact z2, z3, z4⟩
  · have get : ∀ {j : Nat} {x : PyData}, (ρ.set i (some (Sl.own d')))[j]? = some (some (.own x)) → ∃ x', ρ[j]? = some (some (.own x')) := fun {j x} hx => by
      by_cases hij : i = j
      · subst hij; exact ⟨e, hj⟩
      · rw [List.getElem?_set_ne hij] at hx; exact ⟨x, hx⟩
    obtain ⟨x', hx'⟩ := get hx
    obtain ⟨y', hy'⟩ := get hy
    exact r.env.apart j k b x' y' hx' hy' sx sy
  · rw [upd_ne (ne_of_none z hHi)]; exact r.ext.hh b u z
  · by_cases hij : i = j
    · subst hij
      rw [sj] at sx
      cases sx
      exact hHi
    · rw [List.getElem?_set_ne hij] at hx
      exact r.own j b x hx sx
theorem StR.freeze (r : StR κ Fi Hi ρ σ F H) (i : Nat) : ∃ F', StR κ Fi Hi (frz ρ i) σ F' H ∧ Same F F' := by
  unfold frz
  split
  · rename_i d hj
    obtain ⟨a, h1, h2, h3⟩ := r.env.slot i _ hj
    obtain ⟨o, ho, hno⟩ := h3.there
    have s1 : Same F (upd F a o) := fun b u z => by rw [upd_ne (ne_of_none z h2)]; exact z
    have s2 : Same (upd F a o) H := fun b u z => by
      by_cases hb : b = a
      · subst hb; rw [upd_same] at z; cases z; exact ho
      · rw [upd_ne hb] at z; exact r.env.sub b u z
    have hl : i < ρ.length := (List.getElem?_eq_some_iff.mp hj).1
    have old : ∀ {j : Nat} {x : PyData}, (ρ.set i (some (Sl.dat d)))[j]? = some (some (.own x)) → i ≠ j ∧ ρ[j]? = some (some (.own x)) := fun {j x} hx => by
      by_cases hij : i = j
      · subst hij
        rw [List.getElem?_set_self hl] at hx
        cases hx
      · rw [List.getElem?_set_ne hij] at hx; exact ⟨hij, hx⟩
    refine ⟨upd F a o, ⟨⟨s2, by rw [List.length_set]; exact r.env.len, fun j s hs => ?_, fun j k b x y hx hy sx sy => r.env.apart j k b x y (old hx).2 (old hy).2 sx sy⟩, ⟨r.ext.ff.trans s1, r.ext.hh, s2, fun b u z n => ?_⟩, fun j b x hx sx => r.own j b x (old hx).2 sx⟩, s1⟩
    · by_cases hij : i = j
      · subst hij
        rw [List.getElem?_set_self hl] at hs
        cases hs
        refine ⟨.ref a, h1, ?_⟩
        have hc2 : Cell κ (upd F a o) (upd F a o) a d := by
          rcases h3 with ⟨xs, ds, g1, g2, g3, g4⟩ | ⟨u, ks, xs, ds, g1, g2, g3, g4⟩
          · rw [ho] at g2; cases g2
            exact .inl ⟨xs, ds, g1, upd_same, g3, g4.mono s1⟩
          · rw [ho] at g2; cases g2
            exact .inr ⟨_, ks, xs, ds, g1, upd_same, g3, g4.mono s1⟩
        exact hc2.toRp (Same.refl _)
      · rw [List.getElem?_set_ne hij] at hs
        have q := r.env.slot j s hs
        cases s with
        | dat x => obtain ⟨w, q1, q2⟩ := q; exact ⟨w, q1, q2.mono s1⟩
        | own x =>
          obtain ⟨b, q1, q2, q3⟩ := q
          have nb : b ≠ a := fun z => by
            subst z
            exact hij (r.env.apart i j b d x hj hs h1 q1)
          refine ⟨b, q1, by rw [upd_ne nb]; exact q2, ?_⟩
          rcases q3 with ⟨xs, ds, z1, z2, z3, z4⟩ | ⟨o', ks, xs, ds, z1, z2, z3, z4⟩
          · exact .inl ⟨xs, ds, z1, z2, z3, z4.mono s1⟩
          · exact .inr ⟨o', ks, xs, ds, z1, z2, z3, z4.mono s1⟩
    · by_cases hb : b = a
      · subst hb
        exact .inl (r.own i b d hj h1)
      · rw [upd_ne hb] at z
        exact r.ext.new b u z n
  · exact ⟨F, r, Same.refl _⟩
theorem Ext.rebase (a : Ext Fi Hi F1 H1) (b : Ext F1 Hi F H) : Ext Fi Hi F H := by
  refine ⟨a.ff.trans b.ff, b.hh, b.sub, fun c o e n => ?_⟩
  cases q : F1 c with
  | none => exact b.new c o e q
  | some o1 =>
    have e1 := b.ff c o1 q
    rw [e] at e1
    cases e1
    exact a.new c o q n
theorem Ext.base (a : Ext Fi Hi F H) : Ext F Hi F H := ⟨Same.refl _, a.hh, a.sub, fun c o e n => by rw [e] at n; cases n⟩
theorem StR.base (r : StR κ Fi Hi ρ σ F H) : StR κ F Hi ρ σ F H := ⟨r.env, r.ext.base, r.own⟩
theorem StR.rebase (a : Ext Fi Hi F1 H1) (r : StR κ F1 Hi ρ σ F H) : StR κ Fi Hi ρ σ F H := ⟨r.env, a.rebase r.ext, r.own⟩
theorem Link.base {kr : Kd} {D : DEnds} {Df : Ends} (a : Ext Fi Hi F1 H1) (l : Link κ kr Fi Hi D Df) : Link κ kr F1 Hi D Df :=
  ⟨fun ρ σ F H r => l.nx ρ σ F H (r.rebase a), fun ρ σ F H r => l.bk ρ σ F H (r.rebase a), fun ρ σ F H r => l.ct ρ σ F H (r.rebase a), fun d F H v e z => l.rt d F H v (a.rebase e) z⟩
theorem RK.low {k : Kd} (s : Same Hi H) (h : RK k κ H F' H' v d) : RK k κ Hi F' H' v d := h.start s
end
section
variable {X : Cx} {κ : Kit} {kr k ka kb kc : Kd} {a b c e : Expr} {es : List Expr} {fa fb fc : WE} {f : WA} {pos p p2 p3 : Pos} {st : Stmt} {rest : List Stmt} {td ud : DTS}
theorem ds_nil : DSs kr X [] dNext := (.of (pss_nil) (fun D Df Fi Hi ρ σ F H r h l => l.nx ρ σ F H r h))
theorem ds_cons (h1 : DS kr X st td) (h2 : DSs kr X rest ud) : DSs kr X (st :: rest) (dSeq td ud) :=
  (.of (pss_cons h1.ps h2.ps) (fun D Df Fi Hi ρ σ F H r h l => h1.sem { D with nx := ud D } _ Fi Hi ρ σ F H r h ⟨fun ρ' σ' F' H' r' h' => h2.sem D Df Fi Hi ρ' σ' F' H' r' h' l, l.bk, l.ct, l.rt⟩))
theorem ds_one (h1 : DS kr X st td) : DSs kr X [st] td := (.of (pss_one h1.ps) (h1.sem))
/-- an own slot is frozen ahead of a statement -/
theorem ds_frz (i : Nat) (h : DS kr X st td) : DS kr X st (dFrz i td) := (.of (h.ps) (fun D Df Fi Hi ρ σ F H r hd l => by
  obtain ⟨F', r', s⟩ := r.freeze i
  exact h.sem D Df Fi Hi _ σ F' H r' hd l))
theorem dss_frz (i : Nat) (h : DSs kr X rest td) : DSs kr X rest (dFrz i td) := (.of (h.ps) (fun D Df Fi Hi ρ σ F H r hd l => by
  obtain ⟨F', r', s⟩ := r.freeze i
  exact h.sem D Df Fi Hi _ σ F' H r' hd l))
theorem ds_pass : DS kr X (.Pass pos) dNext := (.of (ps_pass) (fun D Df Fi Hi ρ σ F H r h l => l.nx ρ σ F H r h))
theorem ds_break : DS kr X (.Break pos) dBreak := (.of (ps_break) (fun D Df Fi Hi ρ σ F H r h l => l.bk ρ σ F H r h))
theorem ds_continue : DS kr X (.Continue pos) dCont := (.of (ps_continue) (fun D Df Fi Hi ρ σ F H r h l => l.ct ρ σ F H r h))
theorem ds_ret (ha : DX ka X a fa) (hk : (ka = kr ∨ (kr = .E ∧ ka.safe = true)) := by first | exact Or.inl rfl | exact Or.inr ⟨rfl, rfl⟩) : DS kr X (.Return (some a) pos) (dRet fa) := by
  refine (.of (ps_ret ha.pe) (fun D Df Fi Hi ρ σ F H r h l => ?_))
  rcases hk with rfl | ⟨rfl, hk⟩
  · exact ha.sem ρ σ F H _ _ r.env h fun d F' H' v p e z => l.rt d F' H' v (r.ext.trans e) (z.start r.ext.hh) p
  · exact (ha.sem.toE hk) ρ σ F H _ _ r.env h fun d F' H' v p e z => l.rt d F' H' v (r.ext.trans e) (z.start r.ext.hh) p
/-- an own list is handed back -/
theorem ds_retOwn (i : Nat) {x : Str} {py : Pos} (hN : X.N[i]? = some x := by rfl) (hv : Vis X.env.scope x := by first | exact Or.inl rfl | exact Or.inr (Or.inl rfl) | exact Or.inr (Or.inr rfl)) (hd : (x == ("__debug__" : Str)) = false := by decide)
    (hcd : (x == ("__classdict__" : Str)) = false := by decide) : DS .F X (.Return (some (.Name x py)) pos) (dRet (wMut i)) := by
  refine (.of (ps_ret (pe_var hN hv hd hcd)) (fun D Df Fi Hi ρ σ F H r h l => ?_))
  unfold dRet wMut at h
  split at h
  · rename_i d e
    obtain ⟨a, h1, h2, h3⟩ := r.env.slot i _ e
    exact ⟨.ref a, h1, l.rt d F H (.ref a) r.ext ⟨a, rfl, r.own i a d e h1, h2, h3⟩ h⟩
  · exact h.elim
theorem ds_retN (hk : kr = .E := by rfl) : DS kr X (.Return none pos) dRetN := (.of (ps_retN) (fun D Df Fi Hi ρ σ F H r h l => by subst hk; exact l.rt .none F H .non r.ext .non h))
theorem ds_expr (ha : DX ka X a fa) (hs : swapsWith a none pos.line X.env = pure false := by rfl) : DS kr X (.Expr a pos) (dExpr fa) :=
  (.of (ps_expr ha.pe hs) (fun D Df Fi Hi ρ σ F H r h l => ha.sem.toM ρ σ F H _ _ r.env h fun d F' H' v p e z => l.nx ρ σ F' H' (r.next e) p))
theorem ds_if {cc : Expr} {sa sb : List Stmt} {ft : WT} (hc : DT X cc ft) (ha : DSs kr X sa td) (hb : DSs kr X sb ud) : DS kr X (.If cc sa sb pos) (dIf ft td ud) := by
  refine (.of (ps_if hc.pt ha.ps hb.ps) (fun D Df Fi Hi ρ σ F H r h l => ?_))
  refine hc.sem ρ σ F H _ _ r.env h fun c F' H' p e => ?_
  cases c with
  | true => exact iteT (ha.sem D Df Fi Hi ρ σ F' H' (r.next e) p l)
  | false => exact iteF (hb.sem D Df Fi Hi ρ σ F' H' (r.next e) p l)
theorem ds_set {i : Nat} {x : Str} {py : Pos} (hN : X.N.Nodup) (ha : DX ka X a fa) (hk : ka.safe = true := by rfl) (hi : X.N[i]? = some x := by rfl) (hx : Loc X.env.scope x := by first | exact Or.inl rfl | exact Or.inr rfl) (hs : swapsWith a (some (.Name x py)) pos.line X.env = pure false := by rfl) (hf : X.fn x = true ∨ X.env.scope.names.lookup x = some .local := by first | exact .inl rfl | exact .inr rfl | assumption) :
    DS kr X (.Assign [.Name x py] a pos) (dAsg i fa) :=
  (.of (ps_set hN hi hx ha.pe hs hf) (fun D Df Fi Hi ρ σ F H r h l => (ha.sem.toE hk) ρ σ F H _ _ r.env h fun d F' H' v p e z => l.nx _ _ F' H' ((r.next e).setDat z) p))
theorem ds_setM {i : Nat} {x : Str} {py : Pos} (hN : X.N.Nodup) (ha : DX .F X a fa) (hi : X.N[i]? = some x := by rfl) (hx : Loc X.env.scope x := by first | exact Or.inl rfl | exact Or.inr rfl) (hs : swapsWith a (some (.Name x py)) pos.line X.env = pure false := by rfl) (hf : X.fn x = true ∨ X.env.scope.names.lookup x = some .local := by first | exact .inl rfl | exact .inr rfl | assumption) :
    DS kr X (.Assign [.Name x py] a pos) (dAsgM i fa) :=
  (.of (ps_set hN hi hx ha.pe hs hf) (fun D Df Fi Hi ρ σ F H r h l => ha.sem ρ σ F H _ _ r.env h fun d F' H' v p e z => l.nx _ _ F' H' (r.setNew e z) p))
theorem ds_setG {vs : List Nat} {tg : Expr} {fg : WG} (ha : DX ka X a fa) (hg : DG vs X tg fg) (hk : ka.safe = true := by rfl) (hs : swapsWithSole [tg] a pos.line X.env = pure false := by rfl) (hw : swappedStores [tg] a X.env = pure none := by rfl)
    (h1 : (assignEach [tg] X.env).map (·.2) = [assign tg X.env] := by rfl) : DS kr X (.Assign [tg] a pos) (dAsgG fg fa) := by
  refine (.of (ps_asg ha.pe hg.pg hs hw h1) (fun D Df Fi Hi ρ σ F H r h l => ?_))
  refine (ha.sem.toE hk) ρ σ F H _ _ r.env h fun d F' H' v p e z => ?_
  refine hg.sem ρ σ F' H' v d _ _ (r.next e).env z p fun ρ' σ' p' r' _ _ o' => l.nx ρ' σ' F' H' ⟨r', r.ext.trans e, fun i a d hi si => ?_⟩ p'
  obtain ⟨q1, q2⟩ := o' i d hi
  exact r.own i a d q1 (by rw [← q2]; exact si)
theorem ds_setLc {i : Nat} {y : Str} {py spos : Pos} {elt tg iter : Expr} {ifs : List Expr} {scope : Scope} {own : List (Str × Nat)} {fi : WA} {fg : WG} {ft : WT} {fe : WE} (hc : X.calm = true) (hN : X.N.Nodup) (hi : DI X tg iter fi) (ok : blkC X.N X.env.scope scope own = true)
    (hg : ∀ (s : Shared) (H : Hp) (C : Addr) (cl : List (Str × Addr)) (fp : List Addr), DG (own.map (·.2)) (X.blk s H scope (compEnvC scope cl C X.env) fp) tg fg) (ht : ∀ (s : Shared) (H : Hp) (C : Addr) (cl : List (Str × Addr)) (fp : List Addr), DTs (X.blk s H scope (compEnvC scope cl C X.env) fp) ifs ft)
    (he : ∀ (s : Shared) (H : Hp) (C : Addr) (cl : List (Str × Addr)) (fp : List Addr), DX ka (X.blk s H scope (compEnvC scope cl C X.env) fp) elt fe) (hk : ka.safe = true := by rfl) (hy : X.N[i]? = some y := by rfl) (hyl : X.env.scope.names.lookup y = some .local := by rfl)
    (hsw : swapsWith (.ListComp elt [⟨tg, iter, ifs, 0⟩] scope pos) (some (.Name y py)) spos.line X.env = pure true := by exact sw_true rfl rfl rfl (by decide +kernel)) (hs : ∀ x, foldedSetIterable iter X.env x = pure x := by intro _; rfl) :
    DS kr X (.Assign [.Name y py] (.ListComp elt [⟨tg, iter, ifs, 0⟩] scope pos) spos) (dAsg i (wComp fi (own.map (·.2)) fg ft fe)) := by
  refine (.of (ps_setLc (te := canE (kitOf X) ka fe) (tt := canT (kitOf X) ft) (g := canG (kitOf X) (own.map (·.2)) fg) hc hN hy hyl hsw hi.pi (blkOk_by ok) (fun s H C cl fp => (hg s H C cl fp).pg) (fun s H C cl fp => (ht s H C cl fp).pt) (fun s H C cl fp => (he s H C cl fp).pe) hs) (fun D Df Fi Hi ρ σ F H r h l => ?_))
  have sm : SemE (kitOf X) .F _ _ := sem_comp hi.sem (hg X.s_0 X.H_0 0 [] []).sem (ht X.s_0 X.H_0 0 [] []).sem (he X.s_0 X.H_0 0 [] []).sem hk
  exact (sm.toE rfl) ρ σ F H _ _ r.env h fun d F' H' v p e z => l.nx _ _ F' H' ((r.next e).setDat z) p
theorem ds_setLcM {i : Nat} {y : Str} {py spos : Pos} {elt tg iter : Expr} {ifs : List Expr} {scope : Scope} {own : List (Str × Nat)} {fi : WA} {fg : WG} {ft : WT} {fe : WE} (hc : X.calm = true) (hN : X.N.Nodup) (hi : DI X tg iter fi) (ok : blkC X.N X.env.scope scope own = true)
    (hg : ∀ (s : Shared) (H : Hp) (C : Addr) (cl : List (Str × Addr)) (fp : List Addr), DG (own.map (·.2)) (X.blk s H scope (compEnvC scope cl C X.env) fp) tg fg) (ht : ∀ (s : Shared) (H : Hp) (C : Addr) (cl : List (Str × Addr)) (fp : List Addr), DTs (X.blk s H scope (compEnvC scope cl C X.env) fp) ifs ft)
    (he : ∀ (s : Shared) (H : Hp) (C : Addr) (cl : List (Str × Addr)) (fp : List Addr), DX ka (X.blk s H scope (compEnvC scope cl C X.env) fp) elt fe) (hk : ka.safe = true := by rfl) (hy : X.N[i]? = some y := by rfl) (hyl : X.env.scope.names.lookup y = some .local := by rfl)
    (hsw : swapsWith (.ListComp elt [⟨tg, iter, ifs, 0⟩] scope pos) (some (.Name y py)) spos.line X.env = pure true := by exact sw_true rfl rfl rfl (by decide +kernel)) (hs : ∀ x, foldedSetIterable iter X.env x = pure x := by intro _; rfl) :
    DS kr X (.Assign [.Name y py] (.ListComp elt [⟨tg, iter, ifs, 0⟩] scope pos) spos) (dAsgM i (wComp fi (own.map (·.2)) fg ft fe)) := by
  refine (.of (ps_setLc (te := canE (kitOf X) ka fe) (tt := canT (kitOf X) ft) (g := canG (kitOf X) (own.map (·.2)) fg) hc hN hy hyl hsw hi.pi (blkOk_by ok) (fun s H C cl fp => (hg s H C cl fp).pg) (fun s H C cl fp => (ht s H C cl fp).pt) (fun s H C cl fp => (he s H C cl fp).pe) hs) (fun D Df Fi Hi ρ σ F H r h l => ?_))
  have sm : SemE (kitOf X) .F _ _ := sem_comp hi.sem (hg X.s_0 X.H_0 0 [] []).sem (ht X.s_0 X.H_0 0 [] []).sem (he X.s_0 X.H_0 0 [] []).sem hk
  exact sm ρ σ F H _ _ r.env h fun d F' H' v p e z => l.nx _ _ F' H' (r.setNew e z) p
theorem ds_par {i j : Nat} {x y : Str} {px py pt : Pos} {kt k2 pt2} (hc : X.calm = true) (hN : X.N.Nodup) (ha : DA 2 X [a, b] f) (hi : X.N[i]? = some x := by rfl) (hj : X.N[j]? = some y := by rfl) (hij : i ≠ j := by decide)
    (hx : X.env.scope.names.lookup x = some .local := by rfl) (hy : X.env.scope.names.lookup y = some .local := by rfl)
    (hw : swappedStores [.Tuple [.Name x px, .Name y py] kt pt] (.Tuple [a, b] k2 pt2) X.env = pure (some [x, y]) := by rfl)
    (hs : swapsWithSole [.Tuple [.Name x px, .Name y py] kt pt] (.Tuple [a, b] k2 pt2) pos.line X.env = pure false := by rfl) :
    DS kr X (.Assign [.Tuple [.Name x px, .Name y py] kt pt] (.Tuple [a, b] k2 pt2) pos) (dPar i j f) := by
  refine (.of (ps_par hc hN hi hj hij hx hy ha.pa hw hs) (fun D Df Fi Hi ρ σ F H r h l => ?_))
  refine ha.sem ρ σ F H _ _ r.env h fun ds F' H' vs p n e z => ?_
  cases z with
  | cons z1 z =>
    cases z with
    | cons z2 z =>
      cases z with
      | nil => exact ⟨_, _, rfl, l.nx _ _ F' H' (((r.next e).setDat z1).setDat z2) p⟩
      | cons _ _ => cases n
    | nil => cases n
  | nil => cases n
/-! ### own lists changed -/
theorem own_list {F H : Hp} {a : Addr} {ds : List PyData} (h : Cell κ F H a (.list ds)) : ∃ xs, H a = some (.lst xs) ∧ xs.length ≤ sizeLine ∧ RpAll κ F xs ds := by
  rcases h with ⟨xs, ds, h1, h2, h3, h4⟩ | ⟨o, ks, xs, ds, h1, h2, h3, h4⟩
  · cases h1; exact ⟨xs, h2, h3, h4⟩
  · cases h1
theorem ds_append (i : Nat) {x : Str} {px ap : Pos} (ha : DX ka X a fa) (hk : ka.safe = true := by rfl) (hN : X.N[i]? = some x := by rfl) (hv : Vis X.env.scope x := by first | exact Or.inl rfl | exact Or.inr (Or.inl rfl) | exact Or.inr (Or.inr rfl)) (hd : (x == ("__debug__" : Str)) = false := by decide)
    (hcd : (x == ("__classdict__" : Str)) = false := by decide)
    (hbase : attributeBase (.Name x px) "append" X.env (eval (.Name x px) X.env) = eval (.Name x px) X.env := by rfl)
    (hfew : ((backTo p (starEach (a :: []) X.env)).all (fun x => !x.1) && (backToKw p (keywordEach [] X.env)).all (fun x => x.1.isSome)
      && decide ((a :: []).length + ([] : List Keyword).length + (if ([] : List Keyword).isEmpty then 0 else 1) < 30)) = true := by rfl)
    (hline : (ap.endLine == p.line) = true := by rfl) (hs : starEach (a :: []) X.env = (false, eval a X.env) :: starEach [] X.env := by rfl) (hplain : (backTo p (starEach [] X.env)).any (·.1) = false := by rfl)
    (hsw : swapsWith (.Call (.Attribute (.Name x px) "append" ap) [a] [] p) none pos.line X.env = pure false := by rfl) :
    DS kr X (.Expr (.Call (.Attribute (.Name x px) "append" ap) [a] [] p) pos) (dAppend i fa) := by
  refine (.of (ps_expr (pe_bm PySem.F.plainAttrs_list PySem.F.slot_list_append PySem.F.type_list_append mt_append (pe_var hN hv hd hcd) (pa_cons ha.pe pa_nil hs) hbase hfew hline hs hplain) hsw) (fun D Df Fi Hi ρ σ F H r h l => ?_))
  unfold dAppend at h
  split at h
  · rename_i ds e
    obtain ⟨q, h1, h2, h3⟩ := r.env.slot i _ e
    obtain ⟨xs, g1, g2, g3⟩ := own_list h3
    refine ⟨.ref q, h1, .inl ⟨rfl, xs, .inl (.inl g1)⟩, ?_⟩
    refine (ha.sem.toE hk) ρ σ F H _ _ r.env h fun d F' H' v p e' z => ?_
    have g1' : H' q = some (.lst xs) := e'.hh _ _ g1
    refine ⟨q, xs, v, rfl, rfl, g1', by rw [g3.length]; exact p.1, ?_⟩
    have r' := (r.next e').write (i := i) (o' := .lst (xs ++ [v])) (d' := .list (ds ++ [d])) e h1 (.inl ⟨xs ++ [v], ds ++ [d], rfl, upd_same, by rw [List.length_append, List.length_singleton, g3.length]; exact p.1, (g3.mono e'.ff).append (.cons z .nil)⟩)
    exact l.nx _ _ _ _ r' p.2
  · exact h.elim
theorem ds_pop (i : Nat) {x : Str} {px ap : Pos} (hN : X.N[i]? = some x := by rfl) (hv : Vis X.env.scope x := by first | exact Or.inl rfl | exact Or.inr (Or.inl rfl) | exact Or.inr (Or.inr rfl)) (hd : (x == ("__debug__" : Str)) = false := by decide)
    (hcd : (x == ("__classdict__" : Str)) = false := by decide)
    (hbase : attributeBase (.Name x px) "pop" X.env (eval (.Name x px) X.env) = eval (.Name x px) X.env := by rfl) (hline : (ap.endLine == p.line) = true := by rfl)
    (hsw : swapsWith (.Call (.Attribute (.Name x px) "pop" ap) [] [] p) none pos.line X.env = pure false := by rfl) :
    DS kr X (.Expr (.Call (.Attribute (.Name x px) "pop" ap) [] [] p) pos) (dPop i) := by
  refine (.of (ps_expr (pe_bm0 PySem.F.plainAttrs_list PySem.F.slot_list_pop PySem.F.type_list_pop mt_pop (pe_var hN hv hd hcd) hbase hline) hsw) (fun D Df Fi Hi ρ σ F H r h l => ?_))
  unfold dPop at h
  split at h
  · rename_i ds e
    obtain ⟨q, h1, h2, h3⟩ := r.env.slot i _ e
    obtain ⟨xs, g1, g2, g3⟩ := own_list h3
    have hne : xs ≠ [] := fun z => h.1 ((nil_of g3).mp z)
    have hl : xs.length - 1 < xs.length := by
      have := List.length_pos_iff.mpr hne
      omega
    refine ⟨.ref q, h1, .inl ⟨rfl, xs, .inl (.inl g1)⟩, q, xs, xs[xs.length - 1], rfl, rfl, g1, List.getElem?_eq_getElem hl, ?_⟩
    have r' := r.write (i := i) (o' := .lst xs.dropLast) (d' := .list ds.dropLast) e h1 (.inl ⟨xs.dropLast, ds.dropLast, rfl, upd_same, by rw [List.length_dropLast]; omega, g3.dropLast⟩)
    exact l.nx _ _ _ _ r' h.2
  · exact h.elim
theorem ds_setL (i : Nat) {x : Str} {px tp : Pos} (hk : DX kb X b fb) (ha : DX ka X a fa) (hka : ka.safe = true := by rfl) (hN : X.N[i]? = some x := by rfl) (hv : Vis X.env.scope x := by first | exact Or.inl rfl | exact Or.inr (Or.inl rfl) | exact Or.inr (Or.inr rfl)) (hd : (x == ("__debug__" : Str)) = false := by decide)
    (hcd : (x == ("__classdict__" : Str)) = false := by decide)
    (ha' : ∀ v, assign (.Subscript (.Name x px) b tp) X.env v = (do
      let ov ← holding [v] (eval (.Name x px) X.env)
      let iv ← holding [v, ov] (eval b X.env)
      standAt tp
      holding [v, ov, iv] (setItem ov iv v)
      release [v, ov, iv] []) := by intro _; rfl) (hs : swapsWithSole [.Subscript (.Name x px) b tp] a pos.line X.env = pure false := by rfl) (hw : swappedStores [.Subscript (.Name x px) b tp] a X.env = pure none := by rfl)
    (h1 : (assignEach [.Subscript (.Name x px) b tp] X.env).map (·.2) = [assign (.Subscript (.Name x px) b tp) X.env] := by rfl) :
    DS kr X (.Assign [.Subscript (.Name x px) b tp] a pos) (dSetL i fb fa) := by
  refine (.of (ps_asg ha.pe (pg_sub (pe_var hN hv hd hcd) hk.pe set_list ha') hs hw h1) (fun D Df Fi Hi ρ σ F H r h l => ?_))
  refine (ha.sem.toE hka) ρ σ F H _ _ r.env h fun d F1 H1 v p1 e1 z1 => ?_
  split at p1
  · rename_i ds e
    have r1 := r.next e1
    obtain ⟨q, g1, g2, g3⟩ := r1.env.slot i _ e
    refine ⟨.ref q, g1, ?_⟩
    refine hk.sem.toM ρ σ F1 H1 _ _ r1.env p1 fun d2 F2 H2 v2 p2 e2 z2 => ?_
    split at p2
    · rename_i j
      have ev := RpM.int z2
      subst ev
      obtain ⟨n, hn, p2⟩ := p2
      have r2 := r1.next e2
      obtain ⟨q', g4, g5, g6⟩ := r2.env.slot i _ e
      rw [g1] at g4
      cases g4
      obtain ⟨xs, g7, g8, g9⟩ := own_list g6
      refine ⟨q, xs, j, n, rfl, rfl, g7, by rw [g9.length]; exact hn, ?_⟩
      have r' := r2.write (i := i) (o' := .lst (xs.set n v)) (d' := .list (ds.set n d)) e g1 (.inl ⟨xs.set n v, ds.set n d, rfl, upd_same, by rw [List.length_set]; exact g8, RpAll.set (z1.mono e2.ff) n g9⟩)
      exact l.nx _ _ _ _ r' p2
    · exact p2.elim
  · exact p1.elim
/-- name op= e -/
theorem ds_aug (i : Nat) {x : Str} {px : Pos} {op : Operator} {r2 : R2} {g : W2} (hN : X.N.Nodup) (ho : OpR X (inplaceOp op) r2 ∧ Op2 (kitOf X) .E r2 g) (ha : DX ka X a fa) (hi : X.N[i]? = some x := by rfl) (hx : Loc X.env.scope x := by first | exact Or.inl rfl | exact Or.inr rfl) (hf : X.fn x = true ∨ X.env.scope.names.lookup x = some .local := by first | exact .inl rfl | exact .inr rfl | assumption) :
    DS kr X (.AugAssign (.Name x px) op a pos) (dAug i g fa) := by
  refine (.of (ps_aug hN hi hx ha.pe (fun pins s σ H x y v u Q I rx ry h => ho.1 pins s σ H x y v u Q I rx ry h) hf) (fun D Df Fi Hi ρ σ F H r h l => ?_))
  unfold dAug at h
  split at h
  · rename_i d e
    obtain ⟨v, h1, h2⟩ := r.env.slot i _ e
    refine ⟨v, h1, ?_⟩
    refine ha.sem.toM ρ σ F H _ _ r.env h fun d2 F' H' v2 p e' z => ?_
    exact ho.2 v v2 d d2 F' H' _ _ e'.sub (.inl (h2.mono e'.ff)) z p fun d3 F2 H2 v3 p3 e3 z3 => l.nx _ _ F2 H2 (((r.next e').next e3).setDat z3) p3
  · exact h.elim
theorem x_iadd : OpR X (inplaceOp .Add) (rI0 fun i j => .int (i + j)) ∧ Op2 (kitOf X) .E (rI0 fun i j => .int (i + j)) oIadd :=
  ⟨iop_add, ints2 (G := fun i j => .int (i + j)) (fun _ _ _ => .int _) fun x y P p => by
    unfold oIadd at p
    split at p
    · exact ⟨_, _, rfl, rfl, p⟩
    · exact p.elim⟩

/-! ### loops -/
theorem ds_for {tg iter : Expr} {body : List Stmt} {vs : List Nat} {fi : WA} {fg : WG} (hc : X.calm = true) (hi : DI X tg iter fi) (hg : DG vs X tg fg) (hb : DSs kr X body td) (hp : PassesOwn (model X.prog X.w) X.A X.env X.xe := by exact PassesOwn.never)
    (hs : ∀ x, foldedSetIterable iter X.env x = pure x := by intro _; rfl) : DS kr X (.For tg iter body [] pos) (dFor fi fg td) := by
  refine (.of (ps_for hp hc hi.pi hg.pg hb.ps hs) (fun D Df Fi Hi ρ σ F H r h l => ?_))
  refine hi.sem ρ σ F H _ _ r.env h fun ds F1 H1 J p1 lds e1 w1 => ?_
  have r1 := r.next e1
  refine ⟨fun i m σ' H' => ∃ ρ' F', m = ds.length - i ∧ i ≤ ds.length ∧ StR (kitOf X) F1 Hi ρ' σ' F' H' ∧ forD fg td D (ds.drop i) ρ', ⟨ds.length, ρ, F1, rfl, Nat.zero_le _, r1.base, p1⟩, ?_⟩
  rintro i m σ' H' ⟨ρ', F', rfl, hi', r', h'⟩
  obtain ⟨wgo, wstop⟩ := w1 F' H' r'.ext.ff r'.env.sub
  by_cases hlt : i < ds.length
  · have hd : ds[i]? = some ds[i] := List.getElem?_eq_getElem hlt
    obtain ⟨go, yl⟩ := wgo i _ hd
    rw [List.drop_eq_getElem_cons hlt] at h'
    refine .inr ⟨go, fun σ'' H'' => ∃ ρ'' F'', StR (kitOf X) F1 Hi ρ'' σ'' F'' H'' ∧ forD fg td D (ds.drop (i + 1)) ρ'', fun σ'' H'' ⟨ρ'', F'', a1, a2⟩ => ⟨ds.length - (i + 1), by omega, ρ'', F'', rfl, hlt, a1, a2⟩, fun x H2 hy => ?_⟩
    obtain ⟨F2, e2, r2⟩ := yl x H2 hy
    have q := r'.next e2
    refine hg.sem ρ' σ' F2 H2 x ds[i] _ _ q.env r2 h' fun ρ3 σ3 p3 r3 _ _ o3 => ?_
    have q3 : StR (kitOf X) F1 Hi ρ3 σ3 F2 H2 := ⟨r3, q.ext, fun i a d hi si => by
      obtain ⟨z1, z2⟩ := o3 i d hi
      exact q.own i a d z1 (by rw [← z2]; exact si)⟩
    exact hb.sem _ _ F1 Hi ρ3 σ3 F2 H2 q3 p3 ⟨fun ρ4 σ4 F4 H4 r4 h4 => ⟨ρ4, F4, r4, h4⟩, fun ρ4 σ4 F4 H4 r4 h4 => l.nx ρ4 σ4 F4 H4 (r4.rebase r1.ext) h4, fun ρ4 σ4 F4 H4 r4 h4 => ⟨ρ4, F4, r4, h4⟩, (l.base r1.ext).rt⟩
  · have e : i = ds.length := by omega
    subst e
    rw [List.drop_length] at h'
    exact .inl ⟨wstop, l.nx ρ' σ' F' H' (r'.rebase r1.ext) h'⟩
theorem ds_while {cc : Expr} {body : List Stmt} {ft : WT} (hc : DT X cc ft) (hb : DSs kr X body td) (hp : PassesOwn (model X.prog X.w) X.A X.env X.xe := by exact PassesOwn.never) : DS kr X (.While cc body [] pos) (dWhile ft td) := by
  refine (.of (ps_while hp hc.pt hb.ps) (fun D Df Fi Hi ρ σ F H r h l => ?_))
  obtain ⟨n0, h⟩ := h
  refine ⟨fun m σ' H' => ∃ ρ' F', StR (kitOf X) Fi Hi ρ' σ' F' H' ∧ whileD ft td D m ρ', ⟨n0, ρ, F, r, h⟩, ?_⟩
  rintro m σ' H' ⟨ρ', F', r', h'⟩
  cases m with
  | zero => exact h'.elim
  | succ m =>
    refine hc.sem ρ' σ' F' H' _ _ r'.env h' fun c F2 H2 p e => ?_
    have r2 := r'.next e
    cases c with
    | true =>
      refine iteT ⟨fun σ'' H'' => ∃ ρ'' F'', StR (kitOf X) Fi Hi ρ'' σ'' F'' H'' ∧ whileD ft td D m ρ'', fun σ'' H'' ⟨ρ'', F'', a1, a2⟩ => ⟨m, Nat.lt_succ_self m, ρ'', F'', a1, a2⟩, ?_⟩
      exact hb.sem _ _ Fi Hi ρ' σ' F2 H2 r2 p ⟨fun ρ4 σ4 F4 H4 r4 h4 => ⟨ρ4, F4, r4, h4⟩, fun ρ4 σ4 F4 H4 r4 h4 => l.nx ρ4 σ4 F4 H4 r4 h4, fun ρ4 σ4 F4 H4 r4 h4 => ⟨ρ4, F4, r4, h4⟩, l.rt⟩
    | false => exact iteF (l.nx ρ' σ' F2 H2 r2 p)

/-! ### a def -/
theorem start_env {κ : Kit} {F H : Hp} {N : List Str} {vs : List V} {ds : List PyData} (s : Same F H) (h : RpAll κ F vs ds) : EnvR κ F H (startD N.length ds) (L2.start N vs) := by
  unfold startD L2.start
  rw [← h.length]
  have hl := h.length
  have noOwn : ∀ (i : Nat) (e : PyData), (ds.map (fun d => some (Sl.dat d)) ++ List.replicate (N.length - vs.length) none)[i]? ≠ some (some (.own e)) := fun i e z => by
    by_cases hi : i < ds.length
    · rw [List.getElem?_append_left (by simpa using hi), List.getElem?_map] at z
      cases q : ds[i]? with
      | none => rw [q] at z; cases z
      | some d => rw [q] at z; cases z
    · rw [List.getElem?_append_right (by simpa using hi), List.getElem?_replicate] at z
      split at z <;> cases z
  refine ⟨s, by simp [hl], fun i sl e => ?_, fun i j a d e h1 => absurd h1 (noOwn i d)⟩
  by_cases hi : i < ds.length
  · rw [List.getElem?_append_left (by simpa using hi), List.getElem?_map] at e
    cases q : ds[i]? with
    | none => rw [q] at e; cases e
    | some d =>
      rw [q] at e
      cases e
      obtain ⟨v, hv, r⟩ := h.get q
      refine ⟨v, ?_, r⟩
      rw [List.getElem?_append_left (by simpa [hl] using hi), List.getElem?_map, hv]
      rfl
  · rw [List.getElem?_append_right (by simpa using hi), List.getElem?_replicate] at e
    split at e <;> cases e
end
section
variable {P : Program} {w : World} {K : PySem.W.Frag} {mg : Str → Option Value} {base : Heap}
theorem start_st {κ : Kit} {F H : Hp} {N : List Str} {vs : List V} {ds : List PyData} (s : Same F H) (h : RpAll κ F vs ds) : StR κ F H (startD N.length ds) (L2.start N vs) F H := by
  refine ⟨start_env s h, .refl s, fun i a d hi _ => absurd hi ?_⟩
  intro z
  unfold startD at z
  by_cases hi : i < ds.length
  · rw [List.getElem?_append_left (by simpa using hi), List.getElem?_map] at z
    cases q : ds[i]? with
    | none => rw [q] at z; cases z
    | some d => rw [q] at z; cases z
  · rw [List.getElem?_append_right (by simpa using hi), List.getElem?_replicate] at z
    split at z <;> cases z
/-- THE RULE: a def keeps what its body does over plain data -/
theorem fn_ofD {x qual : Str} {st : Stmt} {f : Addr} {fd : FuncData} {N ps : List Str} {j : Nat} {td : DTS} (F : Fun K x qual st f fd) (S : FnScope N ps (defScope st))
    (der : ∀ (cdv : Value) (A : Around) (outer : List Env) (s : Shared) (H : Hp) (E : XK), Room j (A.deeper (envOfC qual (defScope st) s.heap.objs.size f cdv)) →
      DSs .E (cxOf CX0 P w K mg base N qual (defScope st) f cdv A outer s H E).nox (defBody st) td) :
    FnOk P w K mg base CX0 (j + 1) f fd ps (spW ⟨K, P, w⟩ .E ps.length (wDef ps.length N.length td)) := by
  refine F.ok S (fun vs H Q E h => h.1) (fun cdv A outer s H vs Q E hr h => ?_)
  have h1 := der cdv A outer s H E hr
  refine ⟨_, h1.ps, ?_⟩
  obtain ⟨hl, F0, ds, P', sub, rp, ⟨_, hd⟩, q⟩ := h
  exact h1.sem _ _ F0 H _ _ F0 H (start_st sub rp) hd ⟨fun ρ σ F' H' r p => q .none F' H' .non p r.ext .non, fun _ _ _ _ _ z => z.elim, fun _ _ _ _ _ z => z.elim, fun d F' H' v e z p => q d F' H' v p e z⟩
theorem own_of {x qual : Str} {st : Stmt} {f : Addr} {fd : FuncData} {N ps : List Str} {j : Nat} {td : DTS} (F : Fun K x qual st f fd) (S : FnScope N ps (defScope st)) (hm : mg x = some (.ref f)) (hb : Binds K fd ps [])
    (der : ∀ (cdv : Value) (A : Around) (outer : List Env) (s : Shared) (H : Hp) (E : XK), Room j (A.deeper (envOfC qual (defScope st) s.heap.objs.size f cdv)) →
      DSs .E (cxOf CX0 P w K mg base N qual (defScope st) f cdv A outer s H E).nox (defBody st) td) :
    Own P w K mg base x .E ps.length (j + 1) (wDef ps.length N.length td) := ⟨f, fd, ps, fn_ofD F S der, hm, F.kp, hb⟩
/-- .. that hands back a new object -/
theorem own_ofF {x qual : Str} {st : Stmt} {f : Addr} {fd : FuncData} {N ps : List Str} {j : Nat} {td : DTS} (F : Fun K x qual st f fd) (S : FnScope N ps (defScope st)) (hm : mg x = some (.ref f)) (hb : Binds K fd ps [])
    (der : ∀ (cdv : Value) (A : Around) (outer : List Env) (s : Shared) (H : Hp) (E : XK), Room j (A.deeper (envOfC qual (defScope st) s.heap.objs.size f cdv)) →
      DSs .F (cxOf CX0 P w K mg base N qual (defScope st) f cdv A outer s H E).nox (defBody st) td) :
    Own P w K mg base x .F ps.length (j + 1) (wDefF ps.length N.length td) := by
  refine ⟨f, fd, ps, ?_, hm, F.kp, hb⟩
  refine F.ok S (fun vs H Q E h => h.1) (fun cdv A outer s H vs Q E hr h => ?_)
  have h1 := der cdv A outer s H E hr
  refine ⟨_, h1.ps, ?_⟩
  obtain ⟨hl, F0, ds, P', sub, rp, ⟨_, hd⟩, q⟩ := h
  exact h1.sem _ _ F0 H _ _ F0 H (start_st sub rp) hd ⟨fun ρ σ F' H' r p => p.elim, fun _ _ _ _ _ z => z.elim, fun _ _ _ _ _ z => z.elim, fun d F' H' v e z p => q d F' H' v p e z⟩
/-- a constant of the module -/
def GC (κ : Kit) (mg : Str → Option Value) (x : Str) (d : PyData) : Prop := ∃ v u, mg x = some u ∧ RelV v u ∧ ∀ F, Rp κ F v d
def tCon (κ : Kit) (d : PyData) : TE := fun _ H Q => ∀ v, (∀ F, Rp κ F v d) → Q v H
theorem dx_con {X : Cx} {x : Str} {d : PyData} {pos : Pos} (h : GC (kitOf X) X.mg x d) (hg : Gl X x := by rfl) (hd : (x == ("__debug__" : Str)) = false := by decide) : DX .E X (.Name x pos) (wC d) := by
  obtain ⟨v, u, hm, r, hv⟩ := h
  exact .of (t := tCon (kitOf X) d) ⟨fun _ _ _ H _ I h => ld_glob I hg hm ⟨v, H, I, r, h v hv⟩ hd⟩ fun ρ σ F H P Q rr hp q v hv => q d F H v hp (.refl rr.sub) (hv F)
theorem gc_int {κ : Kit} {mg : Str → Option Value} {x : Str} {i : Int} {t : Tok} (h : mg x = some (.int i t)) : GC κ mg x (.int i) := ⟨.int i, _, h, ⟨t, rfl⟩, fun _ => .int i⟩
theorem gc_str {κ : Kit} {mg : Str → Option Value} {x s : Str} {t : Tok} (h : mg x = some (.str s t)) (h1 : s.length ≤ sizeLine := by first | decide | decide +kernel) (h2 : PyData.strOk s = true := by first | rfl | decide +kernel) : GC κ mg x (.str s) := ⟨.str s, _, h, ⟨t, rfl⟩, fun _ => .str s h1 h2⟩
theorem hu65 {A : Around} {k : Nat} (hr : Room k A) : A.units + 65 < cLine := by have := hr.un; omega
/-- the script -/
theorem rp_ints {κ : Kit} {H : Hp} : ∀ ns : List Int, RpAll κ H (ns.map V.int) (ns.map PyData.int)
  | [] => .nil
  | n :: ns => .cons (.int n) (rp_ints ns)
def spLaw (K : PySem.W.Frag) : Sp := fun vs H Q _ => ∃ (a : Addr) (ns : List Int), vs = [.ref a] ∧ SqL K H a (ns.map V.int) ∧ ns.length ≤ 63 ∧ ∀ H', Q (.bl true) H'
theorem law_fn {f : Addr} {fd : FuncData} {ps : List Str} {j : Nat} {W : WF} (F : FnOk P w K mg base CX0 j f fd ps (spW ⟨K, P, w⟩ .E 1 W)) (h : ∀ ns : List Int, ns.length ≤ 63 → W [.list (ns.map PyData.int)] (fun d => d = .bool true)) :
    FnOk P w K mg base CX0 j f fd ps (spLaw K) := by
  refine F.imp fun vs H Q E ⟨a, ns, e, hs, hl, q⟩ => ?_
  subst e
  refine ⟨rfl, H, _, _, Same.refl H, .cons (.lst hs (by rw [List.length_map, sizeLine_eq]; omega) (rp_ints ns)) .nil, h ns hl, fun d F' H' v p e z => ?_⟩
  subst p
  have z' : Rp ⟨K, P, w⟩ F' v (.bool true) := z
  cases z'
  exact q H'
end
end DL

set_option maxRecDepth 100000
set_option maxHeartbeats 1000000
/-! DLi: texts joined and split. -/
namespace DL
open PySem PySem.Spec PyProof.Rows L2
section
variable {X : Cx} {κ : Kit} {k ka kb : Kd} {a b : Expr} {ta tb : TE} {fa fb : WE} {pos apos : Pos}
theorem strs_rp {F : Hp} : ∀ {ds : List PyData} {xs : List V} {ys : List Str}, RpAll κ F xs ds → strsOf ds = some ys → xs = ys.map V.str ∧ ∀ y ∈ ys, PyData.strOk y = true
  | [], _, ys, .nil, e => by cases e; exact ⟨rfl, fun _ h => nomatch h⟩
  | d :: ds, _, ys, .cons h t, e => by
    cases h with
    | str x h1 h2 =>
      rw [strsOf] at e
      cases q : strsOf ds with
      | none => rw [q] at e; cases e
      | some zs =>
        rw [q] at e
        cases e
        obtain ⟨z1, z2⟩ := strs_rp t q
        refine ⟨by rw [List.map_cons, z1], fun y hy => ?_⟩
        rcases List.mem_cons.mp hy with rfl | hy
        · exact h2
        · exact z2 y hy
    | _ => simp [strsOf] at e
theorem join_len (s : Str) : ∀ ys : List Str, (Str.join s ys).length ≤ (ys.map (·.length)).sum + ys.length * s.length
  | [] => Nat.zero_le _
  | [x] => by
    show x.length ≤ _
    simp
  | x :: y :: r => by
    have ih := join_len s (y :: r)
    show (x ++ s ++ Str.join s (y :: r)).length ≤ _
    rw [Str.length_append, Str.length_append, List.map_cons, List.sum_cons, List.length_cons, Nat.succ_mul]
    omega
theorem join_ok {s : Str} (hs : PyData.strOk s = true) : ∀ {ys : List Str}, (∀ y ∈ ys, PyData.strOk y = true) → PyData.strOk (Str.join s ys) = true
  | [], _ => (by simp [PyData.strOk, Str.join, Str.empty])
  | [x], h => h x (by simp)
  | x :: y :: r, h => strOk_append (strOk_append (h x (by simp)) hs) (join_ok hs fun z hz => h z (List.mem_cons_of_mem _ hz))
theorem sem_ms {k : Kd} {r : V → List V → Hp → VK → Prop} {g : Str → W1} (h : ∀ (x : Str) (y : V) (dy : PyData) (F H : Hp) (P : PyData → Prop) (Q : VK), Same F H → x.length ≤ sizeLine → PyData.strOk x = true → RpM κ F H y dy → g x dy P →
    (∀ d F' H' v, P d → Ext F H F' H' → RK k κ H F' H' v d → Q v H') → r (.str x) [y] H Q) (ha : SemE κ ka ta fa) (hb : SemE κ kb tb fb) : SemE κ k (tM1 r ta tb) (wMs g fa fb) := by
  intro ρ σ F H P Q rr hp q
  refine ha.toM ρ σ F H _ _ rr hp fun d1 F1 H1 v1 p1 e1 r1 => ?_
  split at p1
  · rename_i s
    obtain ⟨e, h1, h2⟩ := RpM.str r1
    subst e
    refine ⟨⟨s, rfl⟩, ?_⟩
    refine hb.toM ρ σ F1 H1 _ _ (rr.ext e1) p1 fun d2 F2 H2 v2 p2 e2 r2 => ?_
    exact h s v2 d2 F2 H2 P Q e2.sub h1 h2 r2 p2 fun d F' H' v p e z => q d F' H' v p ((e1.trans e2).trans e) (z.start ((e1.trans e2).hh))
  · exact p1.elim
theorem dx_join (ha : DX ka X a fa) (hb : DX kb X b fb) (hs : starEach [b] X.env = [(false, eval b X.env)] := by rfl) (hbase : attributeBase a "join" X.env (eval a X.env) = eval a X.env := by rfl) (hline : (apos.endLine == pos.line) = true := by rfl) :
    DX .E X (.Call (.Attribute a "join" apos) [b] [] pos) (wMs oJoin fa fb) := by
  refine (.of (pe_join ha.pe hb.pe hs hbase hline) (sem_ms (fun x y dy F H P Q s h1 h2 r2 p q => ?_) ha.sem hb.sem))
  unfold oJoin at p
  split at p
  · obtain ⟨ys, e, hz, p⟩ := p
    obtain ⟨a1, xs, rfl, g1, g2, g3⟩ := RpM.list s r2
    obtain ⟨z1, z2⟩ := strs_rp g3 e
    refine ⟨x, a1, ys, rfl, rfl, .inl (by rw [← z1]; exact g1), hz, ?_⟩
    rw [TL.join_eq]
    exact q _ F H _ p (.refl s) (.str _ (by rw [sizeLine_eq]; exact Nat.le_trans (join_len x ys) hz) (join_ok h2 z2))
  · obtain ⟨ys, e, hz, p⟩ := p
    obtain ⟨a1, xs, rfl, g1, g2, g3, _⟩ := RpM.tuple s r2
    obtain ⟨z1, z2⟩ := strs_rp g3 e
    refine ⟨x, a1, ys, rfl, rfl, .inr (by rw [← z1]; exact g1), hz, ?_⟩
    rw [TL.join_eq]
    exact q _ F H _ p (.refl s) (.str _ (by rw [sizeLine_eq]; exact Nat.le_trans (join_len x ys) hz) (join_ok h2 z2))
  · exact p.elim
theorem spl_mem (S : List Nat) : ∀ (l : List Nat) (k : Nat) (acc p : List Nat), p ∈ TL.spl S k acc l → (∀ c ∈ p, c ∈ acc ∨ c ∈ l) ∧ p.length ≤ acc.length + l.length
  | [], k, acc, p, h => by
    rw [TL.spl_nil] at h
    have e := List.mem_singleton.mp h
    subst e
    exact ⟨fun c hc => .inl hc, Nat.le_add_right _ _⟩
  | c :: r, 0, acc, p, h => by
    by_cases hp : TL.pre S (c :: r) = true
    · rw [TL.spl_hit hp] at h
      rcases List.mem_cons.mp h with rfl | h
      · exact ⟨fun c hc => .inl hc, Nat.le_add_right _ _⟩
      · obtain ⟨h1, h2⟩ := spl_mem S r _ _ _ h
        exact ⟨fun c hc => (h1 c hc).elim (fun z => nomatch z) fun z => .inr (List.mem_cons_of_mem _ z), by rw [List.length_nil] at h2; rw [List.length_cons]; omega⟩
    · rw [TL.spl_miss (by simpa using hp)] at h
      obtain ⟨h1, h2⟩ := spl_mem S r _ _ _ h
      refine ⟨fun d hd => ?_, by rw [List.length_append, List.length_singleton] at h2; rw [List.length_cons]; omega⟩
      rcases h1 d hd with z | z
      · rcases List.mem_append.mp z with z | z
        · exact .inl z
        · exact .inr (by rw [List.mem_singleton.mp z]; exact List.mem_cons_self)
      · exact .inr (List.mem_cons_of_mem _ z)
  | c :: r, k + 1, acc, p, h => by
    have h' : p ∈ TL.spl S k acc r := h
    obtain ⟨h1, h2⟩ := spl_mem S r _ _ _ h'
    exact ⟨fun d hd => (h1 d hd).imp id (List.mem_cons_of_mem _), by simp only [List.length_cons]; omega⟩
theorem spl_len (S : List Nat) : ∀ (l : List Nat) (k : Nat) (acc : List Nat), (TL.spl S k acc l).length ≤ l.length + 1
  | [], k, acc => by rw [TL.spl_nil]; simp
  | c :: r, 0, acc => by
    by_cases hp : TL.pre S (c :: r) = true
    · rw [TL.spl_hit hp, List.length_cons, List.length_cons]
      have := spl_len S r (S.length - 1) []
      omega
    · rw [TL.spl_miss (by simpa using hp), List.length_cons]
      have := spl_len S r 0 (acc ++ [c])
      omega
  | c :: r, k + 1, acc => by
    have := spl_len S r k acc
    show (TL.spl S k acc r).length ≤ _
    rw [List.length_cons]
    omega
theorem rp_strs {F : Hp} : ∀ {ys : List Str}, (∀ y ∈ ys, y.length ≤ sizeLine ∧ PyData.strOk y = true) → RpAll κ F (ys.map V.str) (ys.map PyData.str)
  | [], _ => .nil
  | y :: ys, h => .cons (.str y (h y (by simp)).1 (h y (by simp)).2) (rp_strs fun z hz => h z (List.mem_cons_of_mem _ hz))
theorem dx_split (ha : DX ka X a fa) (hb : DX kb X b fb) (hs : starEach [b] X.env = [(false, eval b X.env)] := by rfl) (hbase : attributeBase a "split" X.env (eval a X.env) = eval a X.env := by rfl) (hline : (apos.endLine == pos.line) = true := by rfl) :
    DX .F X (.Call (.Attribute a "split" apos) [b] [] pos) (wMs oSplit fa fb) := by
  refine (.of (pe_split ha.pe hb.pe hs hbase hline) (sem_ms (fun x y dy F H P Q s h1 h2 r2 p q => ?_) ha.sem hb.sem))
  unfold oSplit at p
  split at p
  · rename_i b
    obtain ⟨⟨hb, hk⟩, hl, p⟩ := p
    obtain ⟨rfl, _, _⟩ := RpM.str r2
    refine ⟨x, b, rfl, rfl, ?_, hl, fun l hn => ?_⟩
    · refine beq_eq_false_iff_ne.mpr fun z => hb ?_
      rw [TL.len_tl] at z
      exact List.eq_nil_of_length_eq_zero z
    · have e := TL.split_spl x b hb (TL.kind_ok hk)
      have e2 : (TL.spl (TL.tl b) 0 [] (TL.tl x)).map strL = (Txt.split x b).map PyData.str := by
        rw [← e, List.map_map]
        exact List.map_congr_left fun y _ => by
          show PyData.str ⟨(TL.tl y).toArray⟩ = _
          rw [TL.mk_tl]
      rw [e2] at p
      have ok : ∀ y ∈ Txt.split x b, y.length ≤ sizeLine ∧ PyData.strOk y = true := fun y hy => by
        have hm : TL.tl y ∈ TL.spl (TL.tl b) 0 [] (TL.tl x) := by rw [← e]; exact List.mem_map_of_mem hy
        obtain ⟨g1, g2⟩ := spl_mem _ _ _ _ _ hm
        refine ⟨?_, ?_⟩
        · rw [TL.len_tl]
          rw [TL.len_tl] at hl
          simp only [List.length_nil] at g2
          omega
        · rw [← TL.mk_tl y]
          exact strOk_of h2 fun c hc => (g1 c hc).elim (fun z => nomatch z) id
      have hlen : ((Txt.split x b).map V.str).length ≤ sizeLine := by
        have z := spl_len (TL.tl b) (TL.tl x) 0 []
        rw [← e, List.length_map] at z
        rw [List.length_map]
        rw [TL.len_tl] at hl
        omega
      obtain ⟨e3, z3⟩ := ext_lst (κ := kitOf X) s hn hlen (rp_strs ok)
      exact q _ _ _ _ p e3 z3
  · exact p.elim
end
end DL

set_option maxRecDepth 100000
set_option maxHeartbeats 1000000
/-! DLj: sorted, upper, {}, constants that are tuples, the foot of a recursion. -/
namespace DL
open PySem PySem.Spec PyProof.Rows L2
section
variable {X : Cx} {κ : Kit} {k ka kb : Kd} {a b : Expr} {ta tb : TE} {fa fb : WE} {pos apos : Pos}
/-! ### sorted -/
def enc2 : V × PyData → PyData := fun b => b.2
abbrev rSortedD (K : PySem.W.Frag) : List V → Hp → VK → Prop := fun vs H Q => ∃ (a : Addr) (xs : List V) (ds : List PyData), vs = [.ref a] ∧ SqL K H a xs ∧ DpAll K H xs ds ∧ PySem.W.AllAlike ds ∧ PySem.W.Sortable ds ∧ (∀ d ∈ ds, d.depth ≤ 60) ∧ xs.length ≤ sizeLine ∧
  ∀ p, H p = none → Q (.ref p) (upd H p (.lst (((xs.zip ds).mergeSort (PySem.W.dataLe false enc2)).map Prod.fst)))
theorem dp_len {K : PySem.W.Frag} {H : Hp} : ∀ {xs : List V} {ds : List PyData}, DpAll K H xs ds → xs.length = ds.length
  | _, _, .nil => rfl
  | _, _, .cons _ t => by rw [List.length_cons, List.length_cons, dp_len t]
theorem each_vals {pins : List (Addr × Obj)} {σ : L2.St} {H : Hp} {s : Shared} (I : Inv X pins σ H s) : ∀ {xs : List V} {us : List Value} {ds : List PyData}, Vals xs us → DpAll X.K H xs ds →
    PySem.W.EachIs (fun (v : Value) (b : V × PyData) => RelV b.1 v) us (xs.zip ds) ∧ PySem.W.EachIs (fun (v : Value) (b : V × PyData) => ∃ as, Reads s.heap v (enc2 b) as) us (xs.zip ds) ∧ (xs.zip ds).map enc2 = ds
  | _, _, _, .nil, .nil => ⟨.nil, .nil, rfl⟩
  | _, _, _, .cons r t, .cons h g => by
    obtain ⟨z1, z2, z3⟩ := each_vals I t g
    exact ⟨.cons r z1, .cons (Dp.reads I _ _ _ h r) z2, by rw [List.zip_cons_cons, List.map_cons, z3]; rfl⟩
theorem vals_each : ∀ {us : List Value} {zs : List (V × PyData)}, PySem.W.EachIs (fun (v : Value) (b : V × PyData) => RelV b.1 v) us zs → Vals (zs.map Prod.fst) us
  | _, _, .nil => .nil
  | _, _, .cons r t => .cons r (vals_each t)
theorem op_sortedD (hu : X.A.units + 65 < cLine) : CallR X (.builtin "sorted") (rSortedD X.K) := by
  intro pins s σ H vs us Q I r h
  obtain ⟨a, xs, ds, rfl, hs, hd, h1, h2, h3, h4, q⟩ := h
  obtain ⟨its, rv, p1, hz⟩ := I.list hs
  rw [Vals.ref1 r]
  obtain ⟨z1, z2, z3⟩ := each_vals I rv hd
  have hlen : (xs.zip ds).length = xs.length := by
    have := congrArg List.length z3
    rw [List.length_map] at this
    have e := dp_len hd
    omega
  refine PySem.W.sorted_data (vs := its) (bs := xs.zip ds) (enc := enc2) (R := fun (v : Value) (b : V × PyData) => RelV b.1 v) p1.isList z1 z2 (by rw [z3]; exact h1) (by rw [z3]; exact h2) (by rw [hlen]; exact h4) (fun b hb => ?_) fun out ho eo => ?_
  · have : enc2 b ∈ ds := by rw [← z3]; exact List.mem_map_of_mem hb
    have := h3 _ this
    omega
  · obtain ⟨ep, he'⟩ := PyProof.Rows.sortedAll_at s.heap its out.toArray
    have vv := vals_each eo
    have hl2 : (((xs.zip ds).mergeSort (PySem.W.dataLe false enc2)).map Prod.fst).length ≤ sizeLine := by
      rw [List.length_map, List.length_mergeSort, hlen]; exact h4
    exact ⟨.ref _, _, I.laid (o := .lst (((xs.zip ds).mergeSort (PySem.W.dataLe false enc2)).map Prod.fst)) (t' := s.toks) (fun _ _ => PyProof.Rows.sortedAll_old) (Nat.le_succ _) ⟨hl2, out, ep, vv, he'⟩, rfl, q _ (I.hok.fresh (Nat.le_succ _))⟩
theorem rp_zip {F : Hp} : ∀ {xs : List V} {ds : List PyData}, RpAll κ F xs ds → ∀ z ∈ xs.zip ds, Rp κ F z.1 z.2
  | _, _, .nil, z, hz => by simp at hz
  | _, _, .cons h t, z, hz => by
    rw [List.zip_cons_cons] at hz
    rcases List.mem_cons.mp hz with rfl | hz
    · exact h
    · exact rp_zip t z hz
theorem rp_unzip {F : Hp} : ∀ {zs : List (V × PyData)}, (∀ z ∈ zs, Rp κ F z.1 z.2) → RpAll κ F (zs.map Prod.fst) (zs.map Prod.snd)
  | [], _ => .nil
  | z :: zs, h => .cons (h z List.mem_cons_self) (rp_unzip fun y hy => h y (List.mem_cons_of_mem _ hy))
theorem zip_snd {F : Hp} : ∀ {xs : List V} {ds : List PyData}, RpAll κ F xs ds → (xs.zip ds).map Prod.snd = ds
  | _, _, .nil => rfl
  | _, _, .cons h t => by rw [List.zip_cons_cons, List.map_cons, zip_snd t]
theorem sort_snd (zs : List (V × PyData)) : (zs.mergeSort (PySem.W.dataLe false enc2)).map Prod.snd = sortD (zs.map Prod.snd) := by
  unfold sortD
  exact List.map_mergeSort fun a _ b _ => rfl
theorem dps_of {F : Hp} : ∀ {xs : List V} {ds : List PyData}, (∀ d ∈ ds, noDict d = true) → RpAll κ F xs ds → DpAll κ.K F xs ds
  | _, _, _, .nil => .nil
  | _, _, h, .cons r t => .cons (Rp.dp (h _ List.mem_cons_self) r) (dps_of (fun d hd => h d (List.mem_cons_of_mem _ hd)) t)
theorem x_sorted (hu : X.A.units + 65 < cLine) : CallR X (.builtin "sorted") (rSortedD X.K) ∧ OpN (kitOf X) .F (rSortedD X.K) fSorted := by
  refine ⟨op_sortedD hu, fun vs ds F H P Q s hx p q => ?_⟩
  unfold fSorted at p
  split at p
  · rename_i es
    obtain ⟨⟨h1, h2, h3⟩, p⟩ := p
    obtain ⟨v, rfl, h⟩ := rm1 hx
    obtain ⟨a, xs, rfl, g1, g2, g3⟩ := RpM.list s h
    refine ⟨a, xs, es, rfl, g1, dps_of (κ := kitOf X) (fun d hd => (h3 d hd).1) (g3.mono s), h1, h2, fun d hd => (h3 d hd).2, g2, fun p0 hp => ?_⟩
    have rr := rp_unzip (κ := kitOf X) (F := F) (zs := (xs.zip es).mergeSort (PySem.W.dataLe false enc2)) fun z hz => rp_zip g3 z ((List.mergeSort_perm _ _).mem_iff.mp hz)
    rw [sort_snd, zip_snd g3] at rr
    obtain ⟨e2, z2⟩ := ext_lst (κ := kitOf X) s hp (by
      rw [List.length_map, List.length_mergeSort, List.length_zip]
      have := g3.length
      omega) rr
    exact q _ _ _ _ p e2 z2
  · exact p.elim
/-! ### upper -/
theorem sem_m0 {r : V → List V → Hp → VK → Prop} {g : W1} (h : ∀ (x : V) (dx : PyData) (F H : Hp) (P : PyData → Prop) (Q : VK), Same F H → RpM κ F H x dx → g dx P → (∀ d F' H' v, P d → Ext F H F' H' → RK k κ H F' H' v d → Q v H') → (∃ a, x = .str a) ∧ r x [] H Q)
    (ha : SemE κ ka ta fa) : SemE κ k (tM0 r ta) (w1 g fa) := by
  intro ρ σ F H P Q rr hp q
  refine ha.toM ρ σ F H _ _ rr hp fun d1 F1 H1 v1 p1 e1 r1 => ?_
  exact h v1 d1 F1 H1 P Q e1.sub r1 p1 fun d F' H' v p e z => q d F' H' v p (e1.trans e) (z.start e1.hh)
theorem dx_upper (ha : DX ka X a fa) (hbase : attributeBase a "upper" X.env (eval a X.env) = eval a X.env := by rfl) (hline : (apos.endLine == pos.line) = true := by rfl) :
    DX .E X (.Call (.Attribute a "upper" apos) [] [] pos) (w1 oUpper fa) := by
  refine (.of (pe_upper ha.pe hbase hline) (sem_m0 (fun x dx F H P Q s h1 p q => ?_) ha.sem))
  unfold oUpper at p
  split at p
  · obtain ⟨⟨c1, c2, c3⟩, p⟩ := p
    obtain ⟨e, l1, o1⟩ := RpM.str h1
    exact ⟨⟨_, e⟩, _, e, rfl, c1, q _ F H _ p (.refl s) (.str _ c3 c2)⟩
  · exact p.elim
/-! ### {} -/
theorem dx_dict0 : DX .F X (.Dict [] [] pos) (wC (.dict [])) := by
  refine (.of pe_dnewK (fun ρ σ F H P Q rr hp q => fun p hn => ?_))
  have s := rr.sub
  have fp : F p = none := s.free hn
  have s2 : Same H (upd H p (.dK [])) := fun b u z => by rw [upd_ne (ne_of_none z hn)]; exact z
  exact q (.dict []) F _ (.ref p) hp ⟨Same.refl _, s2, s.trans s2, fun b u z n => by rw [z] at n; cases n⟩ ⟨p, rfl, hn, fp, .inr ⟨.dK [], [], [], [], rfl, upd_same, .k [], .nil⟩⟩
end
/-! ### the foot of a recursion -/
theorem own_foot {P : Program} {w : World} {K : PySem.W.Frag} {mg : Str → Option Value} {base : Heap} {x qual : Str} {st : Stmt} {f : Addr} {fd : FuncData} {ps : List Str} {k : Kd} {j : Nat} (F : Fun K x qual st f fd) (hm : mg x = some (.ref f)) (hb : Binds K fd ps []) :
    Own P w K mg base x k ps.length j (fun _ _ => False) :=
  ⟨f, fd, ps, ⟨fun vs H Q E ⟨_, _, _, _, _, _, h, _⟩ => h.elim, fun A outer s H args us vs Q E _ _ _ _ ⟨_, _, _, _, _, _, h, _⟩ => h.elim⟩, hm, F.kp, hb⟩
/-! ### a constant that is a tuple -/
theorem gc_tup {κ : Kit} {mg : Str → Option Value} {x : Str} {q : Addr} {od : Option Addr} {its : Array Value} {n : Nat} {sl : Array (Option Value)} {xs : List V} {ds : List PyData} (h : mg x = some (.ref q)) (hl : κ.K.lookup q = some ⟨.type "tuple", od, .seq its n, sl⟩)
    (hv : Vals xs its.toList) (hd : ∀ F, RpAll κ F xs ds) (hs : its.size ≤ 1000 := by exact Nat.le_of_ble_eq_true rfl) : GC κ mg x (.tuple ds) := by
  have h2 : its.size ≤ sizeLine := Nat.le_of_lt (small1000 hs)
  exact ⟨.ref q, _, h, rfl, fun F => .tup (.inr ⟨_, its, n, hl, rfl, rfl, h2, hv⟩) (by rw [hv.length, Array.length_toList]; exact h2) (hd F)⟩
end DL

set_option maxRecDepth 100000
set_option maxHeartbeats 1000000
/-! DLt: sets of nested tuples (texts, whole numbers, truths, None, and tuples of such), and sorted of them. -/
namespace NS
open PySem PyProof.Rows L2
theorem each_key {h : Heap} : ∀ {ks : List NestedKey} {vs : List Value} {m : Nat}, NestedAll h ks vs → NestedKey.depthAll ks ≤ m → ∀ v ∈ vs, ∃ k, NestedIs h k v ∧ k.depth ≤ m
  | _, _, _, .nil, _, v, hv => nomatch hv
  | _, _, m, .cons a t, hd, v, hv => by
    simp only [NestedKey.depthAll] at hd
    rcases List.mem_cons.mp hv with e | hv
    · subst e; exact ⟨_, a, by omega⟩
    · exact each_key t (by omega) v hv
section
variable {P : Program} {w : World} {A : Around} {E : Value → Shared → Prop} {s : Shared}
/-- no part of a key is of a class statement -/
theorem no_class : ∀ (n : Nat) (k : NestedKey) (v : Value) {Q : Bool → Shared → Prop}, NestedIs s.heap k v → k.depth ≤ n → Q false s → wpAny (model P w) A (ofAClassStatement n v) Q E s := by
  intro n
  induction n with
  | zero =>
    intro k v Q hk hd hq
    cases hk with
    | tup _ _ _ _ => simp [NestedKey.depth] at hd
    | _ => exact wpAny_pure hq
  | succ n ih =>
    intro k v Q hk hd hq
    cases hk with
    | @tup a o vs m ks g1 g2 g3 g4 =>
      simp only [NestedKey.depth] at hd
      have ty : s.TypeIs (.ref a) "tuple" := ⟨o, g1, g2⟩
      unfold ofAClassStatement
      refine wpAny_bind (wpAny_typeOf ty ?_)
      dsimp only
      simp only [show (("tuple" : String) == "tuple") = true by decide, if_true]
      try refine wpAny_bind (wpAny_pure ?_)
      try simp only [Bool.not_true, Bool.false_eq_true, if_false]
      show wpAny _ _ (seqItems? (.ref a) >>= _) _ _ s
      refine wpAny_bind (wpAny_seqItems g1 g3 ?_)
      dsimp only
      refine wpAny_bind ?_
      show wpAny _ _ (forIn vs _ _) _ _ s
      rw [← Array.forIn_toList]
      refine wpAny_forIn_list _ (fun l r s' => (r.1 = none ∧ s' = s) ∧ ∀ u ∈ l, ∃ q, NestedIs s.heap q u ∧ q.depth ≤ n) _ ?_ ?_ _ _ ⟨⟨rfl, rfl⟩, each_key g4 (by omega)⟩
      · rintro u l r s' ⟨⟨hr, rfl⟩, hl⟩
        obtain ⟨q, q1, q2⟩ := hl u List.mem_cons_self
        refine wpAny_bind (ih q u q1 q2 ?_)
        simp only [Bool.false_eq_true, if_false]
        exact wpAny_pure ⟨⟨rfl, rfl⟩, fun z hz => hl z (List.mem_cons_of_mem _ hz)⟩
      · rintro ⟨r1, r2⟩ s' ⟨⟨hr, rfl⟩, _⟩
        simp only at hr
        subst hr
        exact wpAny_pure hq
    | _ => exact wpAny_pure hq
/-- whether a key's hash goes by its value is told, and nothing changes -/
theorem by_value : ∀ (n : Nat) (k : NestedKey) (v : Value), NestedIs s.heap k v → k.depth ≤ n → ∃ b : Bool, ∀ {A : Around} {E : Value → Shared → Prop} {Q : Bool → Shared → Prop}, Q b s → wpAny (model P w) A (hashByValue n v) Q E s := by
  intro n
  induction n with
  | zero =>
    intro k v hk hd
    cases hk with
    | tup _ _ _ _ => simp [NestedKey.depth] at hd
    | text _ _ => exact ⟨false, fun hq => wpAny_pure hq⟩
    | _ => exact ⟨true, fun hq => wpAny_pure hq⟩
  | succ n ih =>
    intro k v hk hd
    cases hk with
    | @tup a o vs m ks g1 g2 g3 g4 =>
      simp only [NestedKey.depth] at hd
      have ty : s.TypeIs (.ref a) "tuple" := ⟨o, g1, g2⟩
      have loop : ∀ l : List Value, (∀ u ∈ l, ∃ q, NestedIs s.heap q u ∧ q.depth ≤ n) → ∃ b : Bool, ∀ {A : Around} {E : Value → Shared → Prop} {Q : Option Bool × Unit → Shared → Prop}, Q (if b = true then none else some false, ()) s →
          wpAny (model P w) A (forIn l ((none, ()) : Option Bool × Unit) fun x r => do
            if (!(← hashByValue n x)) = true then pure (ForInStep.done (some false, ())) else pure (ForInStep.yield (none, ()))) Q E s := by
        intro l
        induction l with
        | nil => exact fun _ => ⟨true, fun hq => wpAny_pure hq⟩
        | cons u l ihl =>
          intro hl
          obtain ⟨q, q1, q2⟩ := hl u List.mem_cons_self
          obtain ⟨b, hb⟩ := ih q u q1 q2
          cases b with
          | false =>
            refine ⟨false, fun {A E Q} hq => ?_⟩
            rw [List.forIn_cons]
            refine wpAny_bind (wpAny_bind (hb ?_))
            simp only [Bool.not_false, if_true]
            exact wpAny_pure (wpAny_pure hq)
          | true =>
            obtain ⟨c, hc⟩ := ihl fun z hz => hl z (List.mem_cons_of_mem _ hz)
            refine ⟨c, fun {A E Q} hq => ?_⟩
            rw [List.forIn_cons]
            refine wpAny_bind (wpAny_bind (hb ?_))
            simp only [Bool.not_true, Bool.false_eq_true, if_false]
            exact wpAny_pure (hc hq)
      obtain ⟨b, hb⟩ := loop vs.toList (each_key g4 (by omega))
      refine ⟨b, fun {A E Q} hq => ?_⟩
      unfold hashByValue
      refine wpAny_bind (wpAny_specialOf ty F.slot_tuple_hash.lookup ?_)
      show wpAny _ _ (seqItems? (.ref a) >>= _) _ _ s
      refine wpAny_bind (wpAny_seqItems g1 g3 ?_)
      refine wpAny_bind ?_
      show wpAny _ _ (forIn vs _ _) _ _ s
      rw [← Array.forIn_toList]
      refine hb ?_
      cases b with
      | true => exact wpAny_pure hq
      | false => exact wpAny_pure hq
    | text _ _ => exact ⟨false, fun hq => wpAny_pure hq⟩
    | _ => exact ⟨true, fun hq => wpAny_pure hq⟩
end
/-! ### the table -/
abbrev Key (h : Heap) (k : NestedKey) (b : Addr) : Prop := NestedIs h k (.ref b) ∧ k.depth ≤ 8
def rowN (w : World) (L : List (Addr × NestedKey)) : List (Int × Value) := L.map fun q => (q.2.hash w, Value.ref q.1)
theorem rowN_length (w : World) (L : List (Addr × NestedKey)) : (rowN w L).length = L.length := List.length_map _
structure Tbl (w : World) (h : Heap) (a : Addr) (L : List (Addr × NestedKey)) (es : Array (Int × Value)) (ep : Nat) (t : SetTable) : Prop where
  obj : ∃ o, h.get? a = some o ∧ o.ExactSet ∧ o.data = .set es ep t
  row : es.toList = rowN w L
  tab : TabOk t (L.map fun q => q.2.hash w)
  uniq : (L.map Prod.snd).Nodup
  key : ∀ q ∈ L, Key h q.2 q.1
  ord : w.params.followText "set-order" = true ∨ t.led = true
  gap : L.length * 5 < t.mask * 3
  few : L.length ≤ 75
abbrev pr (m : Nat) (h : Int) (c : Nat) : SetTable.Probe := nth m (runAt m (SetTable.bits h % (m + 1)) (SetTable.bits h)) c
theorem pr_plus (m : Nat) (h : Int) (c q : Nat) : nth m (pr m h c) q = pr m h (c + q) := (nth_add m c _ q).symm
theorem pr_calm (m : Nat) (h : Int) : ∀ c, (pr m h c).dummy = none := by
  have gen : ∀ (c : Nat) (p : SetTable.Probe), p.dummy = none → (nth m p c).dummy = none := by
    intro c
    induction c with
    | zero => exact fun _ e => e
    | succ c ih =>
      refine fun p e => ih _ ?_
      unfold adv
      split <;> exact e
  exact fun c => gen c _ rfl
section
variable {P : Program} {w : World} {A : Around} {E : Value → Shared → Prop} {s : Shared} {a : Addr} {L : List (Addr × NestedKey)} {es : Array (Int × Value)} {ep : Nat} {t : SetTable}
theorem Tbl.size (R : Tbl w s.heap a L es ep t) : es.size = L.length := by rw [← Array.length_toList, R.row, rowN_length]
theorem Tbl.psize (R : Tbl w s.heap a L es ep t) : t.place.size = L.length := by
  have := R.tab.sz
  rwa [List.length_map] at this
theorem Tbl.holds (R : Tbl w s.heap a L es ep t) : t.fits es.size = true := by
  have h1 := R.psize
  have h2 := R.gap
  unfold SetTable.fits SetTable.fill
  rw [R.tab.dm, R.size, h1]
  show (L.length == L.length && decide (L.length + 0 ≤ t.mask)) = true
  rw [beq_self_eq_true, decide_eq_true (by omega)]
  rfl
theorem Tbl.at_ (R : Tbl w s.heap a L es ep t) {i : Nat} {q : Addr × NestedKey} (h : L[i]? = some q) : es[i]? = some (q.2.hash w, .ref q.1) := by
  have e : es[i]? = (rowN w L)[i]? := by rw [← R.row, Array.getElem?_toList]
  rw [e]
  unfold rowN
  rw [List.getElem?_map, h]
  rfl
/-- nothing is shown by a search among keys -/
theorem unseen {k : NestedKey} {b : Addr} (hk : Key s.heap k b) {Q : Bool → Shared → Prop} : ∀ ys : List Value, (∀ y ∈ ys, ∃ k' c, y = Value.ref c ∧ Key s.heap k' c) → Q false s → wpAny (model P w) A (searchCouldBeSeen (.ref b) ys) Q E s := by
  intro ys hy hq
  unfold searchCouldBeSeen
  refine wpAny_bind ?_
  refine wpAny_forIn_list _ (fun l r s' => (r.1 = none ∧ s' = s) ∧ ∀ y ∈ l, ∃ k' c, y = Value.ref c ∧ Key s.heap k' c) _ ?_ ?_ _ _ ⟨⟨rfl, rfl⟩, hy⟩
  · rintro y l r s' ⟨⟨hr, rfl⟩, hl⟩
    obtain ⟨k', c, rfl, hc⟩ := hl y List.mem_cons_self
    have hl' := fun z hz => hl z (List.mem_cons_of_mem _ hz)
    dsimp only
    by_cases e : (b == c || (carriedByValue (.ref b) && carriedByValue (.ref c))) = true
    · exact wp_if_pos e (wpAny_pure ⟨⟨rfl, rfl⟩, hl'⟩)
    · refine wp_if_neg e (wpAny_bind ((nestedKind P w).quiet hk ?_))
      simp only [Bool.not_true, Bool.false_eq_true, if_false]
      refine wpAny_bind ((nestedKind P w).quiet hc ?_)
      simp only [Bool.not_true, Bool.false_eq_true, if_false]
      refine wpAny_bind (no_class 8 _ _ hk.1 hk.2 ?_)
      simp only [Bool.false_eq_true, if_false]
      refine wpAny_bind (no_class 8 _ _ hc.1 hc.2 ?_)
      simp only [Bool.false_eq_true, if_false]
      exact wpAny_pure ⟨⟨rfl, rfl⟩, hl'⟩
  · rintro ⟨r1, r2⟩ s' ⟨⟨hr, rfl⟩, _⟩
    simp only at hr
    subst hr
    exact wpAny_pure hq
/-- the search from the c-th step of a key's way -/
theorem seek (R : Tbl w s.heap a L es ep t) {x : Addr} {k : NestedKey} (hk : Key s.heap k x) (hu : A.units + 8 < cLine) {K : Nat} (k1 : K < 10 * SetTable.turns t.mask) (k2 : way t.mask (k.hash w) K ∉ t.place.toList)
    (k3 : ∀ c, c < K → way t.mask (k.hash w) c ∈ t.place.toList) {Q : SetFound → Shared → Prop} (there : k ∈ L.map Prod.snd → Q (.there none) s) (free : k ∉ L.map Prod.snd → Q (.free (way t.mask (k.hash w) K) false) s) :
    ∀ (fuel c : Nat) (st : Option SetTable.Probe), st.getD (t.probeStart (k.hash w)) = pr t.mask (k.hash w) c → c ≤ K → K - c < fuel →
      (∀ (i : Nat) q, L[i]? = some q → q.2 = k → ∃ d, c ≤ d ∧ d < K ∧ t.place.toList[i]? = some (way t.mask (k.hash w) d)) →
      wpAny (model P w) A (setSearchFrom a (.ref x) (k.hash w) true fuel st) Q E s := by
  obtain ⟨o, ho, hex, hdat⟩ := R.obj
  have hfit := R.holds
  have ask : ∀ {Q' : Array (Int × Value) × Nat × SetTable → Shared → Prop}, Q' (es, ep, t) s → wpAny (model P w) A (setState a) Q' E s := fun h => wpAny_setState_of ho hdat hfit h
  have odd : ¬ t.gaveWay = true := by
    unfold SetTable.gaveWay
    rw [mask_odd R.tab.mok]
    decide
  have hh : ∀ (i : Nat) q, L[i]? = some q → (fun i => (es[i]?.map (·.1)).getD 0) i = q.2.hash w := fun i q h => by
    show (es[i]?.map (·.1)).getD 0 = _
    rw [R.at_ h]
    rfl
  intro fuel
  induction fuel with
  | zero => exact fun c st _ _ hf => absurd hf (Nat.not_lt_zero _)
  | succ fuel ih =>
    intro c st hst hc hf hre
    have wayq : ∀ q, (nth t.mask (pr t.mask (k.hash w) c) q).j = way t.mask (k.hash w) (c + q) := fun q => congrArg SetTable.Probe.j (pr_plus ..)
    rw [setSearchFrom_succ]
    refine wpAny_bind (ask ?_)
    dsimp only
    refine wp_if_neg odd ?_
    try refine wpAny_bind (wpAny_pure ?_)
    rw [hst]
    have two := go_spec t R.tab.ris R.tab.dm (fun i => (es[i]?.map (·.1)).getD 0) (k.hash w) (10 * SetTable.turns t.mask) (K - c) (pr t.mask (k.hash w) c) (pr_calm ..) (by omega)
      (fun q hq => by rw [wayq]; exact k3 _ (by omega)) (by rw [wayq, Nat.add_sub_cancel' hc]; exact k2)
    rcases two with ⟨q, i, hq, hi, -, hno, hpr⟩ | ⟨hno, hpr⟩
    · rw [wayq] at hi
      rw [wayq, pr_plus] at hpr
      rw [show t.probe (fun i => (es[i]?.map (·.1)).getD 0) (k.hash w) (pr t.mask (k.hash w) c) = some (.candidate (way t.mask (k.hash w) (c + q)) i (pr t.mask (k.hash w) (c + (q + 1)))) from hpr]
      dsimp only
      have il : i < L.length := by
        have := (List.getElem?_eq_some_iff.mp hi).1
        rw [Array.length_toList, R.psize] at this
        exact this
      obtain ⟨z, hz⟩ : ∃ z, L[i]? = some z := ⟨_, List.getElem?_eq_getElem il⟩
      have zin : z ∈ L := List.mem_of_getElem? hz
      have live : t.slot (way t.mask (k.hash w) (c + q)) = .live i := slot_live R.tab.ris hi
      have tail : wpAny (model P w) A (searchRest a (.ref x) (k.hash w) true fuel es t (way t.mask (k.hash w) (c + q)) i (pr t.mask (k.hash w) (c + (q + 1)))) Q E s := by
        unfold searchRest
        rw [R.at_ hz]
        dsimp only
        refine wpAny_bind (wpAny_holding ((nestedKind P w).eqBool hu (R.key z zin) hk ?_))
        refine wpAny_bind (ask ?_)
        dsimp only
        by_cases same : z.2 = k
        · exact wp_if_pos (by simp [same]) (wpAny_pure (there (List.mem_map.mpr ⟨z, zin, same⟩)))
        · refine wp_if_neg (by simp [same]) ?_
          try refine wpAny_bind (wpAny_pure ?_)
          rw [sameMem]
          dsimp only
          simp only [if_true, live, R.at_ hz]
          refine wpAny_bind (wpAny_isSame_ref_self (wpAny_bind (wpAny_pure ?_)))
          simp only [if_true]
          refine wp_if_neg (by simp [same]) ?_
          refine ih (c + (q + 1)) _ rfl (by omega) (by omega) fun j y hy hyk => ?_
          obtain ⟨d, d1, d2, d3⟩ := hre j y hy hyk
          refine ⟨d, ?_, d2, d3⟩
          rcases Nat.lt_trichotomy d (c + q) with l1 | l1 | l1
          · exact absurd ((hh j y hy).trans (by rw [hyk])) (hno (d - c) j (by omega) (by rw [wayq, Nat.add_sub_cancel' d1]; exact d3))
          · subst l1
            have l2 := slot_live R.tab.ris d3
            rw [live] at l2
            injection l2 with l2
            rw [← l2, hz] at hy
            exact absurd (by rw [Option.some.inj hy]; exact hyk) same
          · omega
      by_cases hl : t.led = true
      · refine wp_if_neg (by simp [hl]) ?_
        try refine wpAny_bind (wpAny_pure ?_)
        exact tail
      · refine wp_if_pos (by simp [hl]) (wpAny_bind (unseen hk _ (fun y hy => ?_) (wp_if_neg (by decide) ?_)))
        · obtain ⟨e, he, rfl⟩ := List.mem_map.mp hy
          have he' : e ∈ es.toList := by
            have : e ∈ es ∧ e.1 = k.hash w := by simpa using he
            simpa using this.1
          rw [R.row] at he'
          obtain ⟨y, hy', rfl⟩ := List.mem_map.mp he'
          exact ⟨y.2, y.1, rfl, R.key y hy'⟩
        · try refine wpAny_bind (wpAny_pure ?_)
          exact tail
    · rw [wayq, Nat.add_sub_cancel' hc] at hpr
      rw [show t.probe (fun i => (es[i]?.map (·.1)).getD 0) (k.hash w) (pr t.mask (k.hash w) c) = some (.empty (way t.mask (k.hash w) K) none) from hpr]
      dsimp only
      refine wpAny_pure (free fun hm => ?_)
      obtain ⟨y, hy, e⟩ := List.mem_map.mp hm
      obtain ⟨j, hj⟩ := List.getElem?_of_mem hy
      obtain ⟨d, d1, d2, d3⟩ := hre j y hj e
      exact hno (d - c) j (by omega) (by rw [wayq, Nat.add_sub_cancel' d1]; exact d3) ((hh j y hj).trans (by rw [e]))
end
/-! ### adding -/
theorem key_beside {h h' : Heap} {k : NestedKey} {a b : Addr} {o : Obj} {es : Array (Int × Value)} {ep : Nat} {t : SetTable} (x : Key h k b) (ho : h.get? a = some o) (hd : o.data = .set es ep t) (sb : Heap.SameBut a h h') : Key h' k b := by
  refine ⟨NestedIs.at (fun c u vs n g1 g2 => (sb.2 c fun e => ?_).trans g1) _ _ x.1, x.2⟩
  subst e
  rw [ho] at g1
  rw [← Option.some.inj g1, hd] at g2
  cases g2
theorem key_up {h h' : Heap} {k : NestedKey} {b : Addr} (x : Key h k b) (hk : ∀ c o, h.get? c = some o → h'.get? c = some o) : Key h' k b := ⟨NestedIs.at (fun c u _ _ g _ => hk c u g) _ _ x.1, x.2⟩
theorem slip_perm {α : Type} (l : List α) (n : Nat) (x : α) : (l.take n ++ x :: l.drop n).Perm (x :: l) := by
  have := List.perm_middle (a := x) (l₁ := l.take n) (l₂ := l.drop n)
  rwa [List.take_append_drop] at this
/-- the rows in a new order -/
theorem rows_by (w : World) (L : List (Addr × NestedKey)) (es : Array (Int × Value)) (hr : es.toList = rowN w L) (ord : Array Nat) (hp : ord.toList.Perm (List.range L.length)) :
    ∃ L2 : List (Addr × NestedKey), L2.Perm L ∧ (ord.filterMap (es[·]?)).toList = rowN w L2 ∧ L2.map (fun q => q.2.hash w) = ord.toList.map fun i => (es.map (·.1)).getD i 0 := by
  have sz : es.size = L.length := by rw [← Array.length_toList, hr, rowN_length]
  have lt : ∀ i ∈ ord.toList, i < L.length := fun i hi => List.mem_range.mp (hp.mem_iff.mp hi)
  have ge : ∀ i (hi : i < L.length), es[i]? = some (L[i].2.hash w, .ref L[i].1) := fun i hi => by
    have e : es[i]? = (rowN w L)[i]? := by rw [← hr, Array.getElem?_toList]
    rw [e]
    unfold rowN
    rw [List.getElem?_map, List.getElem?_eq_getElem hi]
    rfl
  refine ⟨ord.toList.filterMap (L[·]?), ?_, ?_, ?_⟩
  · refine (hp.filterMap _).trans ?_
    have : ∀ n, n ≤ L.length → (List.range n).filterMap (L[·]?) = L.take n := fun n => by
      induction n with
      | zero => intro _; rfl
      | succ n ih =>
        intro hn
        rw [List.range_succ, List.filterMap_append, ih (by omega), List.take_succ]
        simp only [List.filterMap_cons, List.filterMap_nil]
        rw [List.getElem?_eq_getElem (show n < L.length from hn)]
        rfl
    rw [this _ (Nat.le_refl _), List.take_length]
  · rw [Array.toList_filterMap]
    revert lt
    generalize ord.toList = l
    intro lt
    induction l with
    | nil => rfl
    | cons i l ih =>
      have hi := lt i List.mem_cons_self
      rw [List.filterMap_cons_some (ge i hi), List.filterMap_cons_some (List.getElem?_eq_getElem hi), ih fun j hj => lt j (List.mem_cons_of_mem _ hj)]
      rfl
  · revert lt
    generalize ord.toList = l
    intro lt
    induction l with
    | nil => rfl
    | cons i l ih =>
      have hi := lt i List.mem_cons_self
      rw [List.filterMap_cons_some (List.getElem?_eq_getElem hi), List.map_cons, List.map_cons, ih fun j hj => lt j (List.mem_cons_of_mem _ hj)]
      have e5 : (es.map (·.1))[i]? = some (L[i].2.hash w) := by rw [Array.getElem?_map, ge i hi]; rfl
      rw [show (es.map (·.1)).getD i 0 = L[i].2.hash w by simp [Array.getD_eq_getD_getElem?, e5]]
section
variable {P : Program} {w : World} {A : Around} {E : Value → Shared → Prop} {s : Shared} {a : Addr} {L : List (Addr × NestedKey)} {es : Array (Int × Value)} {ep : Nat} {t : SetTable}
theorem look (R : Tbl w s.heap a L es ep t) {x : Addr} {k : NestedKey} (hk : Key s.heap k x) (hu : A.units + 8 < cLine) {Q : SetFound → Shared → Prop} (there : k ∈ L.map Prod.snd → Q (.there none) s)
    (free : ∀ K, k ∉ L.map Prod.snd → way t.mask (k.hash w) K ∉ t.place.toList → (∀ c, c < K → way t.mask (k.hash w) c ∈ t.place.toList) → Q (.free (way t.mask (k.hash w) K) false) s) :
    wpAny (model P w) A (setSearch a (.ref x) (k.hash w) true) Q E s := by
  have gap := R.gap
  obtain ⟨K, f1, f2, f3⟩ := R.tab.first (by rw [List.length_map]; omega) (k.hash w)
  have far : 10 * SetTable.turns t.mask ≤ 1420 := by
    unfold SetTable.turns
    have := R.tab.mok
    unfold MaskOk at this
    omega
  unfold setSearch
  refine seek R hk hu f1 f2 f3 there (fun hn => free K hn f2 f3) 100000 0 none rfl (Nat.zero_le _) (by omega) fun i q h1 h2 => ?_
  have il : i < t.place.toList.length := by
    rw [Array.length_toList, R.psize]
    exact (List.getElem?_eq_some_iff.mp h1).1
  obtain ⟨d, d1, d2⟩ := R.tab.before f2 (i := i) (by rw [List.getElem?_map, h1, ← h2]; rfl) (List.getElem?_eq_getElem il)
  exact ⟨d, Nat.zero_le _, d1, by rw [d2, List.getElem?_eq_getElem il]⟩
/-- a larger table -/
theorem widen {o : Obj} (ho : s.heap.get? a = some o) (hex : o.ExactSet) (hd : o.data = .set es ep t) (hr : es.toList = rowN w L) (hp : t.place.size = L.length) (hdm : t.dummies = #[]) (hle : L.length ≤ t.mask)
    (uniq : (L.map Prod.snd).Nodup) (key : ∀ q ∈ L, Key s.heap q.2 q.1) (ord : w.params.followText "set-order" = true ∨ t.led = true) (few : L.length ≤ 75) {n M : Nat} (hM : SetTable.sizeAbove n = M + 1) (hMM : MaskOk M)
    (gap : L.length * 5 < M * 3) {Q : Unit → Shared → Prop} (done : ∀ h' L' es' ep' t', Heap.SameBut a s.heap h' → Tbl w h' a L' es' ep' t' → L'.Perm L → Q () { s with heap := h' }) : wpAny (model P w) A (setRelay a n) Q E s := by
  have sz : es.size = L.length := by rw [← Array.length_toList, hr, rowN_length]
  have M127 : M ≤ 127 := by
    unfold MaskOk at hMM
    omega
  have fit : t.fits es.size = true := by
    unfold SetTable.fits SetTable.fill
    rw [hdm, sz, hp]
    show (L.length == L.length && decide (L.length + 0 ≤ t.mask)) = true
    rw [beq_self_eq_true, decide_eq_true (by omega)]
    rfl
  obtain ⟨t2, order, e, pm, T, em, el, -, -⟩ := relaid_ok t (hs := es.map (·.1)) (wanted := n) (M := M) (by omega) hMM (by rw [Array.size_map, sz]; omega)
  rw [Array.size_map, sz] at pm
  obtain ⟨L2, p2, r2, h2⟩ := rows_by w L es hr order pm
  rw [← h2] at T
  have sz2 : (order.filterMap (es[·]?)).size = es.size := by rw [← Array.length_toList, r2, rowN_length, p2.length_eq, sz]
  rw [setRelay_eq]
  refine wpAny_bind (wpAny_setState_of ho hd fit ?_)
  dsimp only
  refine wp_if_neg (by rw [hM, sizeLine_eq]; omega) ?_
  try refine wpAny_bind (wpAny_pure ?_)
  rw [e]
  dsimp only
  refine wpAny_bind (wp_if_neg (by rw [sz2]; simp) ?_)
  try refine wpAny_bind (wpAny_pure ?_)
  refine wpAny_pure (wpAny_storeSet_of ho hd ?_ (by rw [sz2, sz, sizeLine_eq]; omega))
  have sb : Heap.SameBut a s.heap (s.heap.update a (Obj.putSet (order.filterMap (es[·]?)) t2)) := Heap.SameBut.update ..
  exact done _ L2 _ _ t2 sb ⟨⟨_, store_at ho hd, ⟨hex.1, hex.2.1, hex.2.2⟩, rfl⟩, r2, T, (p2.map Prod.snd).nodup_iff.mpr uniq, fun q hq => key_beside (key q (p2.mem_iff.mp hq)) ho hd sb, by rw [el]; exact ord, by rw [p2.length_eq, em]; exact gap, by rw [p2.length_eq]; exact few⟩ p2
/-- a key is added -/
theorem put_in (R : Tbl w s.heap a L es ep t) {x : Addr} {k : NestedKey} (hk : Key s.heap k x) (hu : A.units + 8 < cLine) (few : L.length + 1 ≤ 75) {Q : Bool → Shared → Prop}
    (done : ∀ b h' L' es' ep' t', Heap.SameBut a s.heap h' → Tbl w h' a L' es' ep' t' → (k ∈ L.map Prod.snd → L' = L) → (k ∉ L.map Prod.snd → L'.Perm ((x, k) :: L)) → Q b { s with heap := h' }) :
    wpAny (model P w) A (setAddHashed a (.ref x) (k.hash w)) Q E s := by
  obtain ⟨o, ho, hex, hd⟩ := R.obj
  have gap := R.gap
  unfold setAddHashed
  refine wpAny_holding ?_
  rw [show (100000 : Nat) = 99999 + 1 from rfl, setAddHashedIn_succ]
  refine wpAny_bind (wpAny_setState_of ho hd R.holds ?_)
  dsimp only
  refine wp_if_neg (by simp [byScan, Value.scannable]) ?_
  try refine wpAny_bind (wpAny_pure ?_)
  refine wpAny_bind (look R hk hu (fun hm => ?_) fun K hm f2 f3 => ?_)
  · dsimp only
    exact wpAny_pure (done false s.heap L es ep t (Heap.SameBut.refl a s.heap) R (fun _ => rfl) fun z => absurd hm z)
  · dsimp only
    refine wpAny_bind (wpAny_setState_of ho hd R.holds ?_)
    dsimp only
    obtain ⟨q1, q2, q3, q4, q5, q6, q7, q8, q9⟩ := R.tab.put f2 f3
    generalize hpt : t.put (way t.mask (k.hash w) K) = pt at q1 q3 q4 q5 q6 q7 q8 q9 ⊢
    obtain ⟨t1, p⟩ := pt
    dsimp only at q1 q3 q4 q5 q6 q7 q8 q9 ⊢
    subst q1
    obtain ⟨vb, hvb⟩ := by_value (P := P) (w := w) (s := s) 8 k (.ref x) hk.1 hk.2
    rw [List.length_map] at q9
    generalize hn : SetTable.below t.place (way t.mask (k.hash w) K) = n at q2 q3 hpt ⊢
    have pm := slip_perm L n (x, k)
    have rows1 : (SetTable.insertAt es n (k.hash w, Value.ref x)).toList = rowN w (L.take n ++ (x, k) :: L.drop n) := by
      rw [SetTable.toList_insertAt, R.row]
      unfold rowN
      rw [List.map_append, List.map_cons, List.map_take, List.map_drop]
    have hs1 : (L.map fun q => q.2.hash w).take n ++ k.hash w :: (L.map fun q => q.2.hash w).drop n = (L.take n ++ (x, k) :: L.drop n).map fun q => q.2.hash w := by
      rw [List.map_append, List.map_cons, List.map_take, List.map_drop]
    rw [hs1] at q3
    generalize L.take n ++ (x, k) :: L.drop n = L1 at pm rows1 q3
    generalize SetTable.insertAt es n (k.hash w, Value.ref x) = es1 at rows1 ⊢
    have len1 : L1.length = L.length + 1 := pm.length_eq
    have sz1 : es1.size = L.length + 1 := by rw [← Array.length_toList, rows1, rowN_length, len1]
    have uniq1 : (L1.map Prod.snd).Nodup := (pm.map Prod.snd).nodup_iff.mpr (List.nodup_cons.mpr ⟨hm, R.uniq⟩)
    have fin : ∀ t2 : SetTable, TabOk t2 (L1.map fun q => q.2.hash w) → t2.mask = t.mask → t2.led = t.led → t2.fill = L.length + 1 →
        wpAny (model P w) A (do
          storeSet a es1 t2
          if (!false && t2.tooFull) = true then do
            setRelay a (SetTable.grown (es.size + 1))
            pure true
          else pure true) Q E s := by
      intro t2 T2 m2 l2 fl2
      refine wpAny_bind (wpAny_storeSet_of ho hd ?_ (by rw [sz1, sizeLine_eq]; omega))
      have sb : Heap.SameBut a s.heap (s.heap.update a (Obj.putSet es1 t2)) := Heap.SameBut.update ..
      have ho1 := store_at (es' := es1) (t' := t2) ho hd
      generalize s.heap.update a (Obj.putSet es1 t2) = h1 at sb ho1 ⊢
      have key1 : ∀ q ∈ L1, Key h1 q.2 q.1 := fun q hq => by
        rcases List.mem_cons.mp (pm.mem_iff.mp hq) with rfl | hq
        · exact key_beside hk ho hd sb
        · exact key_beside (R.key q hq) ho hd sb
      have ord1 : w.params.followText "set-order" = true ∨ t2.led = true := by rw [l2]; exact R.ord
      by_cases full : t2.tooFull = true
      · refine wp_if_pos (by simp [full]) (wpAny_bind ?_)
        have big : (L.length + 1) * 5 ≥ t2.mask * 3 := by
          unfold SetTable.tooFull at full
          rw [decide_eq_true_eq, fl2] at full
          exact full
        have two : (t.mask = 7 ∧ L.length = 4) ∨ (t.mask = 31 ∧ L.length = 18) := by
          have := R.tab.mok
          unfold MaskOk at this
          rw [m2] at big
          omega
        have psz : t2.place.size = L1.length := by
          have := T2.sz
          rwa [List.length_map] at this
        have go : ∀ M, SetTable.sizeAbove (SetTable.grown (es.size + 1)) = M + 1 → MaskOk M → L1.length * 5 < M * 3 → wpAny (model P w) A (setRelay a (SetTable.grown (es.size + 1))) (fun _ s' => wpAny (model P w) A (pure true) Q E s') E { s with heap := h1 } := fun M h1' h2' h3' =>
          widen (s := { s with heap := h1 }) ho1 ⟨hex.1, hex.2.1, hex.2.2⟩ rfl rows1 psz T2.dm (by rw [len1, m2]; omega) uniq1 key1 ord1 (by omega) h1' h2' h3'
            fun h2 L2 es2 ep2 t3 sb2 R2 pm2 => wpAny_pure (done true h2 L2 es2 ep2 t3 (sb.trans sb2) R2 (fun z => absurd z hm) fun _ => pm2.trans pm)
        rw [R.size] at go ⊢
        rcases two with ⟨_, e2⟩ | ⟨_, e2⟩
        · exact go 31 (by rw [e2, size_20]) (.inr (.inl rfl)) (by omega)
        · exact go 127 (by rw [e2, size_76]) (.inr (.inr rfl)) (by omega)
      · refine wp_if_neg (by simp [full]) ?_
        refine wpAny_pure (done true h1 L1 es1 (ep + 1) t2 sb ⟨⟨_, ho1, ⟨hex.1, hex.2.1, hex.2.2⟩, rfl⟩, rows1, T2, uniq1, key1, ord1, ?_, by omega⟩ (fun z => absurd z hm) fun _ => pm)
        unfold SetTable.tooFull at full
        rw [decide_eq_true_eq, fl2] at full
        rw [len1]
        omega
    have fin2 : ∀ b : Bool, wpAny (model P w) A (do
          storeSet a es1 (if b = true then t1 else { t1 with plain := false })
          if (!false && (if b = true then t1 else { t1 with plain := false }).tooFull) = true then do
            setRelay a (SetTable.grown (es.size + 1))
            pure true
          else pure true) Q E s := fun b => by
      cases b with
      | true => exact fin t1 q3 q4 q5 q9
      | false => exact fin { t1 with plain := false } ⟨q3.ris, q3.dm, q3.sz, q3.mok, q3.bd, q3.reach⟩ q4 q5 q9
    by_cases hp : t1.plain = true
    · exact wp_if_pos hp (wpAny_bind (hvb (fin2 vb)))
    · exact wp_if_neg hp (wpAny_bind (wpAny_pure (fin2 true)))
end
/-! ### set(xs) -/
/-- what has come from the first n items -/
structure Fed (ks : List (Addr × NestedKey)) (n : Nat) (L : List (Addr × NestedKey)) : Prop where
  from_ : ∀ q ∈ L, q ∈ ks.take n
  each : ∀ q ∈ ks.take n, q.2 ∈ L.map Prod.snd
  le : L.length ≤ n
theorem Fed.next {ks L L' : List (Addr × NestedKey)} {n : Nat} {z : Addr × NestedKey} (g : Fed ks n L) (hz : ks[n]? = some z) (h1 : z.2 ∈ L.map Prod.snd → L' = L) (h2 : z.2 ∉ L.map Prod.snd → L'.Perm (z :: L)) : Fed ks (n + 1) L' := by
  have tk : ks.take (n + 1) = ks.take n ++ [z] := by rw [List.take_succ, hz]; rfl
  by_cases c : z.2 ∈ L.map Prod.snd
  · rw [h1 c]
    refine ⟨fun q hq => by rw [tk]; exact List.mem_append_left _ (g.from_ q hq), fun q hq => ?_, Nat.le_succ_of_le g.le⟩
    rw [tk] at hq
    rcases List.mem_append.mp hq with y | y
    · exact g.each q y
    · rw [List.mem_singleton.mp y]; exact c
  · have pm := h2 c
    refine ⟨fun q hq => ?_, fun q hq => ?_, ?_⟩
    · rw [tk]
      rcases List.mem_cons.mp (pm.mem_iff.mp hq) with y | y
      · rw [y]; exact List.mem_append_right _ (List.mem_singleton.mpr rfl)
      · exact List.mem_append_left _ (g.from_ q y)
    · rw [(pm.map Prod.snd).mem_iff, List.map_cons]
      rw [tk] at hq
      rcases List.mem_append.mp hq with y | y
      · exact List.mem_cons_of_mem _ (g.each q y)
      · rw [List.mem_singleton.mp y]; exact List.mem_cons_self
    · rw [pm.length_eq, List.length_cons]
      exact Nat.succ_le_succ g.le
section
variable {P : Program} {w : World} {A : Around} {E : Value → Shared → Prop} {s : Shared}
theorem Tbl.carry {h h' : Heap} {a : Addr} {L : List (Addr × NestedKey)} {es : Array (Int × Value)} {ep : Nat} {t : SetTable} (R : Tbl w h a L es ep t) (ha : ∀ o, h.get? a = some o → h'.get? a = some o) (hk : ∀ q ∈ L, Key h' q.2 q.1) : Tbl w h' a L es ep t := by
  obtain ⟨o, ho, r⟩ := R.obj
  exact ⟨⟨o, ha o ho, r⟩, R.row, R.tab, R.uniq, hk, R.ord, R.gap, R.few⟩
abbrev newSet0 (w : World) : Obj := { cls := .type "set", dict := none, data := .set #[] 0 (.fresh 0 0 (!w.params.followText "set-order")) }
theorem Tbl.new {h : Heap} {a : Addr} (ho : h.get? a = some (newSet0 w)) : Tbl w h a [] #[] 0 (.fresh 0 0 (!w.params.followText "set-order")) where
  obj := ⟨_, ho, ⟨rfl, rfl, rfl⟩, rfl⟩
  row := rfl
  tab := ⟨List.Pairwise.nil, rfl, rfl, .inl rfl, (fun x hx => nomatch hx), fun i h j hi => by simp at hi⟩
  uniq := List.nodup_nil
  key := fun q hq => nomatch hq
  ord := by
    show _ ∨ (!w.params.followText "set-order") = true
    by_cases e : w.params.followText "set-order" = true
    · exact .inl e
    · exact .inr (by rw [Bool.eq_false_iff.mpr e]; rfl)
  gap := by show 0 * 5 < 7 * 3; decide
  few := Nat.zero_le _
/-- the loop that feeds a set -/
theorem feed {I : Addr} {fp wr : List Addr} {G : Array GenState → Array GenState → Prop} {n : Nat} {Pv : Nat → Value → Prop} {St : Nat → Shared → Prop} {R : Result → Shared → Prop} (W : WalksS P w A.in1 I fp wr G n Pv St) (S : Addr) (hS : S ∉ fp)
    (ks : List (Addr × NestedKey)) (hn : n = ks.length) (few : ks.length ≤ 75) (val : ∀ i v, Pv i v → ∃ q, ks[i]? = some q ∧ v = .ref q.1) (h0 : Heap) (hk : ∀ q ∈ ks, Key h0 q.2 q.1) (S0 : h0.get? S = none) (W0 : ∀ b ∈ wr, h0.get? b = none)
    (hu : A.in1.units + 8 < cLine) : ∀ (m i : Nat) (s : Shared), n - i = m → i ≤ n → St i s → (∀ b o, h0.get? b = some o → s.heap.get? b = some o) → (∃ L es ep t, Tbl w s.heap S L es ep t ∧ Fed ks i L) →
      (∀ s' L es ep t, Moved (S :: wr) G s s' → Tbl w s'.heap S L es ep t → Fed ks n L → (∀ b o, h0.get? b = some o → s'.heap.get? b = some o) → R (.ok (.ret .none)) s') →
      codeAny (model P w) A (.builtin "set.update.loop" ⟨[.ref S, .ref I], []⟩) R s := by
  have Swr : S ∉ wr := fun h => hS (W.sub _ h)
  have wid : ∀ b ∈ wr, b ∈ S :: wr := fun b hb => List.mem_cons_of_mem _ hb
  have stay : ∀ {s s' : Shared}, Moved wr G s s' → (∀ b o, h0.get? b = some o → s.heap.get? b = some o) → ∀ b o, h0.get? b = some o → s'.heap.get? b = some o := fun mv hs b o e =>
    mv.heap b o (fun hb => by rw [W0 b hb] at e; cases e) (hs b o e)
  intro m
  induction m with
  | zero =>
    intro i s hm hi hst hs ⟨L, es, ep, t, T, g⟩ fin
    obtain rfl : i = n := by omega
    refine codeAny_builtin F.entry_set_update_loop ?_
    rw [Around.under_plainId F.plain_set_update_loop _]
    show wpAny _ A.in1 (pyNext (.ref I) >>= _) _ _ s
    refine wpAny_bind (W.done s _ _ hst fun s' mv => ?_)
    show wpAny _ A.in1 (ret Value.none) _ _ s'
    have hs' := stay mv hs
    exact wpAny_pure (fin s' L es ep t (mv.mono wid) (T.carry (fun o e => mv.heap S o Swr e) fun q hq => key_up (hk q (List.mem_of_mem_take (g.from_ q hq))) hs') g hs')
  | succ m ih =>
    intro i s hm hi hst hs ⟨L, es, ep, t, T, g⟩ fin
    have lt : i < n := by omega
    refine codeAny_builtin F.entry_set_update_loop ?_
    rw [Around.under_plainId F.plain_set_update_loop _]
    show wpAny _ A.in1 (pyNext (.ref I) >>= _) _ _ s
    refine wpAny_bind (W.item i s _ _ lt hst fun v s' hP hst' mv => ?_)
    obtain ⟨z, hz, rfl⟩ := val i v hP
    have hs' := stay mv hs
    have T' : Tbl w s'.heap S L es ep t := T.carry (fun o e => mv.heap S o Swr e) fun q hq => key_up (hk q (List.mem_of_mem_take (g.from_ q hq))) hs'
    have zk : Key s'.heap z.2 z.1 := key_up (hk z (List.mem_of_getElem? hz)) hs'
    show wpAny _ A.in1 (holding [Value.ref z.1] (setAdd S (.ref z.1)) >>= _) _ _ s'
    refine wpAny_bind (wpAny_holding ?_)
    unfold setAdd
    refine wpAny_holding (wpAny_bind ((nestedKind P w).pyHash hu zk ?_))
    have il := g.le
    refine put_in (s := { s' with toks := s'.toks + (nestedKind P w).draws z.2 }) T' zk hu (by omega) fun b h' L' es' ep' t' sb T2 c1 c2 => ?_
    have hs2 : ∀ b o, h0.get? b = some o → h'.get? b = some o := fun b o e => (sb.2 b (fun z => by rw [z, S0] at e; cases e)).trans (hs' b o e)
    refine wpAny_pure ⟨plainId_quiet F.plain_set_update_loop _, ih (i + 1) _ (by omega) lt (W.frame _ s' _ _ hst' (Nat.le_add_right _ _) fun b hb o e => ?_) hs2 ⟨L', es', ep', t', T2, g.next hz c1 c2⟩ fun s3 L3 es3 ep3 t3 mv3 T3 g3 hs3 => ?_⟩
    · rw [sb.2 b (fun e' : b = S => hS (e' ▸ hb))]; exact e
    · refine fin s3 L3 es3 ep3 t3 (Moved.trans W.gtrans ((mv.mono wid).then_heap (Nat.le_add_right _ _) fun b o hb e => ?_) mv3) T3 g3 hs3
      rw [sb.2 b (fun e' : b = S => hb (by rw [e']; exact List.mem_cons_self))]; exact e
end
section
variable {P : Program} {w : World} {A : Around} {E : Value → Shared → Prop} {s : Shared}
theorem none_above {h : Heap} {b : Addr} (hb : h.objs.size ≤ b) : h.get? b = none := by
  cases q : h.get? b with
  | none => rfl
  | some o => exact absurd (Heap.lt_size q) (Nat.not_lt.mpr hb)
set_option maxHeartbeats 4000000 in
/-- set(xs), xs a list of keys -/
theorem set_of_list {l : Addr} {its : Array Value} (ks : List (Addr × NestedKey)) {Q : Value → Shared → Prop} (calm : A.handled = none) (il : s.heap.IsList l its) (ei : its.toList = ks.map fun q => Value.ref q.1) (hk : ∀ q ∈ ks, Key s.heap q.2 q.1)
    (few : ks.length ≤ 75) (hu : A.units + 12 < cLine)
    (done : ∀ (h' : Heap) (tk : Nat) L es ep t, Tbl w h' s.heap.objs.size L es ep t → Fed ks ks.length L → (∀ b o, s.heap.get? b = some o → h'.get? b = some o) → Q (.ref s.heap.objs.size) { s with heap := h', toks := tk }) :
    wpAny (model P w) A (call (.type "set") [.ref l]) Q E s := by
  have nits : its.size = ks.length := by rw [← Array.length_toList, ei, List.length_map]
  obtain ⟨c, tl, r0⟩ := F.called_set.mro
  have r1 := F.called_set.made
  have r2 := F.called_set.sub
  refine wpAny_call (codeAny_of_tree ?_)
  show wpAny _ _ (callAny (.type "set") _) _ _ _
  refine wpAny_pure ⟨Code.quiet_builtin _ (by decide +kernel), codeAny_builtin F.entry_type_call ?_⟩
  rw [Around.under_plain (weight_type_call_type "set" [.ref l] []) rfl]
  have r3 := F.called_set.notType
  have r4 := F.called_set.canCreate
  have r5 := F.typeCall_set_1 (.ref l)
  repeat (any_goals (first | assumption | wp_step))
  refine codeAny_mono (code_set_led1 (.ref l) (E := E) (Q₁ := fun v s1 => v = .ref s.heap.objs.size ∧ s1 = { s with heap := s.heap.push (newSet0 w) }) ⟨rfl, rfl⟩) fun r s1 hr => ?_
  cases r with
  | error e => exact hr
  | ok fl =>
    cases fl with
    | ret v =>
      obtain ⟨rfl, rfl⟩ := hr
      have at0 : (s.heap.push (newSet0 w)).get? s.heap.objs.size = some (newSet0 w) := Heap.get?_push_size _ rfl
      have ty0 : Shared.TypeIs { s with heap := s.heap.push (newSet0 w) } (.ref s.heap.objs.size) "set" := ⟨_, at0, rfl⟩
      have r6 := F.called_set.init.lookup
      have r7 := F.called_set.init.bind (.ref s.heap.objs.size)
      repeat (any_goals (first | assumption | wp_step))
      refine codeAny_mono (codeAny_call_builtin (R := wants (fun r s2 => r = .none ∧ ∃ h' tk L es ep t, s2 = { s with heap := h', toks := tk } ∧ Tbl w h' s.heap.objs.size L es ep t ∧ Fed ks ks.length L ∧
          (∀ b o, s.heap.get? b = some o → h'.get? b = some o)) E) F.called_set.init.plain F.entry_set_init (check_set_init_1 ty0 ?_)) fun q2 s2 hq2 => ?_
      · obtain ⟨⟨lc, ldict, ldat, lsl⟩, lo, hc, n, hd⟩ := il
        simp only at hc hd
        subst hc hd
        have lo1 : (s.heap.push (newSet0 w)).get? l = some { cls := .type "list", dict := ldict, data := .seq its n, slots := lsl } := Heap.get?_push_of_some _ lo
        have z1 := F.sub_list_set
        have z2 := F.sub_list_frozenset
        have z3 : (Value.type "list" == Value.type "dict") = false := by decide
        have il1 : (s.heap.push (newSet0 w)).IsList l its := ⟨_, lo1, rfl, n, rfl⟩
        unfold Builtin.«set.__init__» noKeywords Builtin.Frozenset.updateFrom
        generalize hI : pyIter = itf
        wp_walk
        subst hI
        refine wpAny_pyIter_list il1 (wpAny_bind (wpAny_runValue ?_))
        have lt0 : l < s.heap.objs.size := Heap.lt_size lo
        have sz1 : (s.heap.push (newSet0 w)).objs.size = s.heap.objs.size + 1 := Heap.size_push ..
        have calm3 : A.in1.in1.in1.handled = none := by simp [calm]
        refine feed ((Walks.list calm3 _ l (show l ≠ (s.heap.push (newSet0 w)).objs.size by rw [sz1]; exact Nat.ne_of_lt (Nat.lt_succ_of_lt lt0)) its).toS) s.heap.objs.size ?hnot ks nits few (fun i v hv => ?hval) s.heap hk (none_above (Nat.le_refl _)) (fun b hb => none_above (by
            rw [List.mem_singleton.mp hb, Heap.size_push]
            exact Nat.le_succ _)) (by simp only [Around.in1_units]; omega) (its.size - 0) 0 _ (by omega) (Nat.zero_le _) ⟨⟨_, Heap.get?_push_size _ rfl, rfl, rfl⟩, (il1.push _)⟩ (fun b o e => Heap.get?_push_of_some _ (Heap.get?_push_of_some _ e)) ?hnew ?hfin
        case hnot =>
          simp only [List.mem_cons, List.not_mem_nil, or_false, not_or]
          exact ⟨by rw [Heap.size_push]; exact Nat.ne_of_lt (Nat.lt_succ_self _), Nat.ne_of_gt lt0⟩
        case hval =>
          have q : its.toList[i]? = some v := by rw [Array.getElem?_toList]; exact hv
          rw [ei, List.getElem?_map] at q
          cases hq : ks[i]? with
          | none => rw [hq] at q; cases q
          | some z => rw [hq] at q; exact ⟨z, rfl, (Option.some.inj q).symm⟩
        case hnew => exact ⟨[], #[], 0, _, Tbl.new (Heap.get?_push_of_some _ at0), (fun _ h => nomatch h), (fun q h => by simp at h), Nat.le_refl _⟩
        case hfin =>
          intro s3 L es ep t mv T g keep
          obtain ⟨h3, g3, d3, t3, o3⟩ := s3
          have e1 : g3 = s.gens := mv.gens
          have e2 : d3 = s.drawn := mv.drawn
          have e3 : o3 = s.os := mv.os
          subst e1 e2 e3
          show wpAny _ _ _ _ _ _
          refine wpAny_pure ?_
          show wpAny _ _ (ret Value.none) _ _ _
          rw [nits] at g
          exact wpAny_pure ⟨rfl, h3, t3, L, es, ep, t, rfl, T, g, keep⟩
      · cases q2 with
        | error e => exact hq2
        | ok f2 =>
          cases f2 with
          | ret r =>
            obtain ⟨rfl, h', tk, L, es, ep, t, rfl, T, g, keep⟩ := hq2
            repeat (any_goals (first | assumption | wp_step))
            exact done _ _ _ _ _ _ T g keep
          | _ => exact hq2.elim
    | _ => exact hr.elim
end
/-! ### data that are keys -/
mutual
def keyOf : PyData → Option NestedKey
  | .none => some .none
  | .bool b => some (.num (if b = true then 1 else 0))
  | .int i => some (.num i)
  | .str x => some (.text x)
  | .tuple ds => (keysOf ds).map .tup
  | .list _ => none
  | .dict _ => none
def keysOf : List PyData → Option (List NestedKey)
  | [] => some []
  | d :: ds => match keyOf d, keysOf ds with
    | some k, some ks => some (k :: ks)
    | _, _ => none
end
theorem keysOf_cons {d : PyData} {ds : List PyData} {ks : List NestedKey} (h : keysOf (d :: ds) = some ks) : ∃ k ks', ks = k :: ks' ∧ keyOf d = some k ∧ keysOf ds = some ks' := by
  rw [keysOf] at h
  split at h
  · rename_i k ks' h1 h2
    exact ⟨k, ks', (Option.some.inj h).symm, h1, h2⟩
  · cases h
theorem keyOf_tup {ds : List PyData} {k : NestedKey} (h : keyOf (.tuple ds) = some k) : ∃ ks, k = .tup ks ∧ keysOf ds = some ks := by
  rw [keyOf] at h
  cases e : keysOf ds with
  | none => rw [e] at h; cases h
  | some ks => rw [e] at h; exact ⟨ks, (Option.some.inj h).symm, rfl⟩
mutual
/-- what reads as such data is the key -/
theorem is_of_reads {h : Heap} : ∀ (d : PyData) (k : NestedKey) (v : Value) (as : List Addr), keyOf d = some k → Reads h v d as → NestedIs h k v ∧ as = [] ∧ k.depth = d.depth
  | .none, k, v, as, e, r => by cases r; cases e; exact ⟨.none, rfl, by simp [NestedKey.depth, PyData.depth]⟩
  | .bool b, k, v, as, e, r => by cases r; cases e; exact ⟨.bool rfl, rfl, by simp [NestedKey.depth, PyData.depth]⟩
  | .int i, k, v, as, e, r => by cases r; cases e; exact ⟨.int _ _, rfl, by simp [NestedKey.depth, PyData.depth]⟩
  | .str x, k, v, as, e, r => by cases r; cases e; exact ⟨.text _ _, rfl, by simp [NestedKey.depth, PyData.depth]⟩
  | .tuple ds, k, v, as, e, r => by
    obtain ⟨ks, rfl, e2⟩ := keyOf_tup e
    cases r with
    | tuple h1 h2 h3 h4 =>
      obtain ⟨z1, z2, z3⟩ := are_of_reads ds ks _ _ e2 h4
      exact ⟨.tup h1 h2 h3 (by simpa using z1), z2, by simp [NestedKey.depth, PyData.depth, z3]⟩
  | .list _, _, _, _, e, _ => by simp [keyOf] at e
  | .dict _, _, _, _, e, _ => by simp [keyOf] at e
theorem are_of_reads {h : Heap} : ∀ (ds : List PyData) (ks : List NestedKey) (vs : List Value) (as : List Addr), keysOf ds = some ks → ReadsAll h vs ds as → NestedAll h ks vs ∧ as = [] ∧ NestedKey.depthAll ks = PyData.depthAll ds
  | [], ks, vs, as, e, r => by cases r; cases e; exact ⟨.nil, rfl, by simp [NestedKey.depthAll, PyData.depthAll]⟩
  | d :: ds, ks, vs, as, e, r => by
    obtain ⟨k, ks', rfl, e1, e2⟩ := keysOf_cons e
    cases r with
    | cons r1 r2 =>
      obtain ⟨z1, z2, z3⟩ := is_of_reads d k _ _ e1 r1
      obtain ⟨y1, y2, y3⟩ := are_of_reads ds ks' _ _ e2 r2
      exact ⟨.cons z1 y1, by rw [z2, y2]; rfl, by simp [NestedKey.depthAll, PyData.depthAll, z3, y3]⟩
end
mutual
/-- alike data with one key are one -/
theorem one_key : ∀ (d d' : PyData) (k : NestedKey), PySem.W.alike d d' = true → keyOf d = some k → keyOf d' = some k → d = d'
  | .none, .none, _, _, _, _ => rfl
  | .bool a, .bool b, k, _, e, e' => by
    rw [keyOf] at e e'
    rw [← e] at e'
    injection e' with e'
    injection e' with e'
    cases a <;> cases b <;> simp_all
  | .int a, .int b, k, _, e, e' => by
    rw [keyOf] at e e'
    rw [← e] at e'
    injection e' with e'
    injection e' with e'
    rw [e']
  | .str a, .str b, k, _, e, e' => by
    rw [keyOf] at e e'
    rw [← e] at e'
    injection e' with e'
    injection e' with e'
    rw [e']
  | .tuple a, .tuple b, k, h, e, e' => by
    obtain ⟨ks, rfl, e1⟩ := keyOf_tup e
    obtain ⟨ks', e2, e3⟩ := keyOf_tup e'
    injection e2 with e2
    subst e2
    rw [PySem.W.alike] at h
    rw [one_keys a b ks h e1 e3]
  | .list _, _, _, _, e, _ => by simp [keyOf] at e
  | .dict _, _, _, _, e, _ => by simp [keyOf] at e
  | .none, .bool _, _, h, _, _ | .none, .int _, _, h, _, _ | .none, .str _, _, h, _, _ | .none, .list _, _, h, _, _ | .none, .tuple _, _, h, _, _ | .none, .dict _, _, h, _, _ => by simp [PySem.W.alike] at h
  | .bool _, .none, _, h, _, _ | .bool _, .int _, _, h, _, _ | .bool _, .str _, _, h, _, _ | .bool _, .list _, _, h, _, _ | .bool _, .tuple _, _, h, _, _ | .bool _, .dict _, _, h, _, _ => by simp [PySem.W.alike] at h
  | .int _, .none, _, h, _, _ | .int _, .bool _, _, h, _, _ | .int _, .str _, _, h, _, _ | .int _, .list _, _, h, _, _ | .int _, .tuple _, _, h, _, _ | .int _, .dict _, _, h, _, _ => by simp [PySem.W.alike] at h
  | .str _, .none, _, h, _, _ | .str _, .bool _, _, h, _, _ | .str _, .int _, _, h, _, _ | .str _, .list _, _, h, _, _ | .str _, .tuple _, _, h, _, _ | .str _, .dict _, _, h, _, _ => by simp [PySem.W.alike] at h
  | .tuple _, .none, _, h, _, _ | .tuple _, .bool _, _, h, _, _ | .tuple _, .int _, _, h, _, _ | .tuple _, .str _, _, h, _, _ | .tuple _, .list _, _, h, _, _ | .tuple _, .dict _, _, h, _, _ => by simp [PySem.W.alike] at h
theorem one_keys : ∀ (ds es : List PyData) (ks : List NestedKey), PySem.W.alikeAll ds es = true → keysOf ds = some ks → keysOf es = some ks → ds = es
  | [], [], _, _, _, _ => rfl
  | [], _ :: _, ks, _, e, e' => by
    obtain ⟨_, _, rfl, _, _⟩ := keysOf_cons e'
    cases e
  | _ :: _, [], ks, _, e, e' => by
    obtain ⟨_, _, rfl, _, _⟩ := keysOf_cons e
    cases e'
  | d :: ds, e0 :: es, ks, h, e, e' => by
    obtain ⟨k, ks1, rfl, h1, h2⟩ := keysOf_cons e
    obtain ⟨k', ks2, e4, h3, h4⟩ := keysOf_cons e'
    injection e4 with e4 e5
    subst e4 e5
    obtain ⟨a1, a2⟩ := PySem.W.alike_all_cons h
    rw [one_key d e0 k a1 h1 h3, one_keys ds es ks1 a2 h2 h4]
end
theorem perm_back {α β : Type} (f : α → β) : ∀ (l : List α) (vs : List β), vs.Perm (l.map f) → ∃ l1 : List α, l1.Perm l ∧ vs = l1.map f
  | [], vs, h => ⟨[], .refl _, h.eq_nil⟩
  | x :: l, vs, h => by
    have hx : f x ∈ vs := h.mem_iff.mpr List.mem_cons_self
    obtain ⟨a, b, rfl⟩ := List.append_of_mem hx
    have h2 : (a ++ b).Perm (l.map f) := (List.perm_middle.symm.trans h).cons_inv
    obtain ⟨l1, p1, e1⟩ := perm_back f l (a ++ b) h2
    obtain ⟨u, v, rfl, rfl, rfl⟩ := List.map_eq_append_iff.mp e1.symm
    exact ⟨u ++ x :: v, List.perm_middle.trans (p1.cons x), by rw [List.map_append, List.map_cons]⟩
end NS

set_option maxRecDepth 100000
set_option maxHeartbeats 1000000
/-! DLu: sorted(set(xs)) of nested tuples. -/
namespace NS
open PySem PyProof.Rows L2
section
variable {P : Program} {w : World} {A : Around} {E : Value → Shared → Prop} {s : Shared}
theorem each_ref {h : Heap} (D : Addr × NestedKey → PyData) : ∀ L : List (Addr × NestedKey), (∀ q ∈ L, Reads h (.ref q.1) (D q) []) → ∀ a : Addr,
    PySem.W.EachIs (fun (v : Value) (q : Addr × NestedKey) => v = .ref q.1) (L.map fun q => Value.ref q.1) L ∧ PySem.W.EachIs (fun (v : Value) (q : Addr × NestedKey) => ∃ as, Reads h v (D q) as ∧ a ∉ as) (L.map fun q => Value.ref q.1) L
  | [], _, _ => ⟨.nil, .nil⟩
  | q :: L, hr, a => by
    obtain ⟨h1, h2⟩ := each_ref D L (fun z hz => hr z (List.mem_cons_of_mem _ hz)) a
    exact ⟨.cons rfl h1, .cons ⟨[], hr q List.mem_cons_self, by simp⟩ h2⟩
theorem ref_each : ∀ {vs : List Value} {L : List (Addr × NestedKey)}, PySem.W.EachIs (fun (v : Value) (q : Addr × NestedKey) => v = .ref q.1) vs L → vs = L.map fun q => Value.ref q.1
  | _, _, .nil => rfl
  | _, _, .cons h t => by rw [h, ref_each t]; rfl
/-- sorted(set) -/
theorem sorted_of_set {a : Addr} {L : List (Addr × NestedKey)} {es : Array (Int × Value)} {ep : Nat} {t : SetTable} {Q : Value → Shared → Prop} (R : Tbl w s.heap a L es ep t) (calm : A.handled = none) (D : Addr × NestedKey → PyData)
    (rd : ∀ q ∈ L, Reads s.heap (.ref q.1) (D q) []) (al : PySem.W.AllAlike (L.map D)) (so : PySem.W.Sortable (L.map D)) (hu : ∀ q ∈ L, A.units + 3 + (D q).depth < cLine)
    (done : ∀ s' p c (L1 : List (Addr × NestedKey)), (∀ b o, s.heap.get? b = some o → s'.heap.get? b = some o) → s'.gens = s.gens → s'.os = s.os → s.heap.objs.size ≤ p → L1.Perm L →
      s'.heap.get? p = some (seqObj "list" ((L1.mergeSort (PySem.W.dataLe false D)).map fun q => Value.ref q.1).toArray c) → Q (.ref p) s') :
    wpAny (model P w) A (call (.builtin "sorted") [.ref a]) Q E s := by
  obtain ⟨o, ho, hex, hd⟩ := R.obj
  have few := R.few
  refine Calls.call_function_entry kind_sorted plain_sorted entry_sorted (args_sorted1 _) ?_
  unfold Builtin.«sorted»
  refine wpAny_bind (m := checkCount "sorted" 1 1 _) (wpAny_pure ?_)
  refine wpAny_bind (collect_set (A := A.in1) calm ⟨o, ho, hex.1, hd⟩ R.holds (by rw [R.size]; unfold scanBound; omega) R.tab.ris R.ord fun s1 vs keep sz1 g1 o1 pm => ?_)
  have e1 : es.toList.map (·.2) = L.map fun q => Value.ref q.1 := by
    rw [R.row]
    unfold rowN
    rw [List.map_map]
    rfl
  rw [e1] at pm
  obtain ⟨L1, p1, rfl⟩ := perm_back (fun q : Addr × NestedKey => Value.ref q.1) L vs pm
  have len1 : L1.length ≤ 75 := by rw [p1.length_eq]; exact few
  refine wpAny_bind (wpAny_newList ?_ (by rw [List.length_map, sizeLine_eq]; omega))
  have oL : (s1.heap.push (seqObj "list" (L1.map fun q => Value.ref q.1).toArray 0)).get? s1.heap.objs.size = some (seqObj "list" (L1.map fun q => Value.ref q.1).toArray 0) := Heap.get?_push_size _ rfl
  have rd1 : ∀ q ∈ L1, Reads (s1.heap.push (seqObj "list" (L1.map fun q => Value.ref q.1).toArray 0)) (.ref q.1) (D q) [] := fun q hq => PyProof.Rows.Reads.keeps (fun b u e => Heap.get?_push_of_some _ (keep b u e)) (rd q (p1.mem_iff.mp hq))
  obtain ⟨x1, x2⟩ := each_ref D L1 rd1 s1.heap.objs.size
  have al1 : PySem.W.AllAlike (L1.map D) := fun d hd d' hd' => al d ((p1.map D).mem_iff.mp hd) d' ((p1.map D).mem_iff.mp hd')
  have so1 : PySem.W.Sortable (L1.map D) := by
    rcases so with z | z
    · exact .inl fun d hd => z d ((p1.map D).mem_iff.mp hd)
    · exact .inr fun d hd => z d ((p1.map D).mem_iff.mp hd)
  refine wpAny_bind (wpAny_holding (PySem.W.list_sort_data (s := { s1 with heap := s1.heap.push (seqObj "list" (L1.map fun q => Value.ref q.1).toArray 0) }) (enc := D) oL x1 x2 al1 so1 (by rw [sizeLine_eq]; omega)
    (fun q hq => by have := hu q (p1.mem_iff.mp hq); simp only [Around.in1_units]; omega) fun out lo eo => ?_))
  obtain ⟨c, hc⟩ := sortedHeap_at (vs := L1.map fun q => Value.ref q.1) (out := out.toArray) oL
  have eo' := ref_each eo
  subst eo'
  refine wpAny_pure ⟨_, rfl, done _ s1.heap.objs.size c L1 (fun b u e => ?_) g1 o1 sz1 p1 hc⟩
  have q := keep b u e
  have lt := Heap.lt_size q
  show (sortedHeap _ s1.heap.objs.size _ _).get? b = some u
  rw [sortedHeap_old (Nat.ne_of_lt lt) (by rw [size_push']; exact Nat.lt_succ_of_lt lt)]
  exact Heap.get?_push_of_some _ q
end
/-! ### the same, as rules of the walk -/
def Tbl0 (w : World) (h : Heap) (a : Addr) (L : List (Addr × NestedKey)) : Prop := ∃ (es : Array (Int × Value)) (ep : Nat) (t : SetTable), (∃ o, h.get? a = some o ∧ o.ExactSet ∧ o.data = .set es ep t) ∧ es.toList = rowN w L ∧ TabOk t (L.map fun q => q.2.hash w) ∧
  (L.map Prod.snd).Nodup ∧ (w.params.followText "set-order" = true ∨ t.led = true) ∧ L.length * 5 < t.mask * 3 ∧ L.length ≤ 75
def SetN (w : World) (a : Addr) (L : List (Addr × NestedKey)) : HO := .ext fun h => Tbl0 w h a L
theorem Tbl.bare {w : World} {h : Heap} {a : Addr} {L : List (Addr × NestedKey)} {es : Array (Int × Value)} {ep : Nat} {t : SetTable} (R : Tbl w h a L es ep t) : Tbl0 w h a L := ⟨es, ep, t, R.obj, R.row, R.tab, R.uniq, R.ord, R.gap, R.few⟩
theorem setN_ok {P : Program} {w : World} {H : Hp} {h : Heap} {a : Addr} {L : List (Addr × NestedKey)} (R : Tbl0 w h a L) : ObjOk P w H h a (SetN w a L) := by
  have ⟨_, _, _, ⟨o, ho, _⟩, _⟩ := R
  refine ⟨R, ⟨o, ho⟩, fun h1 h2 q keep => ?_⟩
  have ⟨es, ep, t, ⟨o', ho', r'⟩, q'⟩ : Tbl0 w h1 a L := q
  exact ⟨es, ep, t, ⟨o', keep o' ho', r'⟩, q'⟩
/-- value, datum and key stand together -/
inductive Trip (K : PySem.W.Frag) (H : Hp) : List V → List PyData → List (Addr × NestedKey) → Prop
  | nil : Trip K H [] [] []
  | cons {a : Addr} {k : NestedKey} {d : PyData} {xs : List V} {ds : List PyData} {ks : List (Addr × NestedKey)} : Dp K H (.ref a) d → keyOf d = some k → d.depth ≤ 8 → Trip K H xs ds ks → Trip K H (.ref a :: xs) (d :: ds) ((a, k) :: ks)
theorem Trip.mem {K : PySem.W.Frag} {H : Hp} : ∀ {xs : List V} {ds : List PyData} {ks : List (Addr × NestedKey)}, Trip K H xs ds ks → ∀ q ∈ ks, ∃ d ∈ ds, Dp K H (.ref q.1) d ∧ keyOf d = some q.2 ∧ d.depth ≤ 8
  | _, _, _, .nil, _, h => nomatch h
  | _, _, _, .cons h1 h2 h3 t, q, hq => by
    rcases List.mem_cons.mp hq with rfl | hq
    · exact ⟨_, List.mem_cons_self, h1, h2, h3⟩
    · obtain ⟨d, z1, z2⟩ := t.mem q hq
      exact ⟨d, List.mem_cons_of_mem _ z1, z2⟩
theorem Trip.back {K : PySem.W.Frag} {H : Hp} : ∀ {xs : List V} {ds : List PyData} {ks : List (Addr × NestedKey)}, Trip K H xs ds ks → ∀ d ∈ ds, ∃ q ∈ ks, keyOf d = some q.2
  | _, _, _, .nil, _, h => nomatch h
  | _, _, _, .cons h1 h2 h3 t, d, hd => by
    rcases List.mem_cons.mp hd with rfl | hd
    · exact ⟨_, List.mem_cons_self, h2⟩
    · obtain ⟨q, z1, z2⟩ := t.back d hd
      exact ⟨q, List.mem_cons_of_mem _ z1, z2⟩
theorem Trip.len {K : PySem.W.Frag} {H : Hp} : ∀ {xs : List V} {ds : List PyData} {ks : List (Addr × NestedKey)}, Trip K H xs ds ks → ks.length = ds.length ∧ xs = ks.map fun q => V.ref q.1
  | _, _, _, .nil => ⟨rfl, rfl⟩
  | _, _, _, .cons _ _ _ t => ⟨by rw [List.length_cons, List.length_cons, t.len.1], by rw [t.len.2]; rfl⟩
theorem vals_ref : ∀ {ks : List (Addr × NestedKey)} {us : List Value}, Vals (ks.map fun q => V.ref q.1) us → us = ks.map fun q => Value.ref q.1
  | [], _, .nil => rfl
  | _ :: _, _, .cons r t => by rw [show _ = _ from r, vals_ref t]; rfl
theorem ref_vals : ∀ ks : List (Addr × NestedKey), Vals (ks.map fun q => V.ref q.1) (ks.map fun q => Value.ref q.1)
  | [] => .nil
  | _ :: ks => .cons rfl (ref_vals ks)
section
variable {X : Cx}
def rSetN (K : PySem.W.Frag) (w : World) : List V → Hp → VK → Prop := fun vs H Q => ∃ (l : Addr) (xs : List V) (ds : List PyData) (ks : List (Addr × NestedKey)), vs = [.ref l] ∧ SqL K H l xs ∧ Trip K H xs ds ks ∧ ks.length ≤ 75 ∧
  ∀ a L, H a = none → (∀ q ∈ L, q ∈ ks) → (∀ q ∈ ks, q.2 ∈ L.map Prod.snd) → (L.map Prod.snd).Nodup → L.length ≤ ks.length → Q (.ref a) (upd H a (SetN w a L))
theorem cr_setN (hc : X.calm = true) (hu : X.A.units + 65 < cLine) : CallR X (.type "set") (rSetN X.K X.w) := by
  intro pins s σ H vs us Q I r h
  obtain ⟨l, xs, ds, ks, rfl, hl, ht, few, q⟩ := h
  obtain ⟨its, rv, p1, _⟩ := I.list hl
  rw [Vals.ref1 r]
  obtain ⟨-, ex⟩ := ht.len
  rw [ex] at rv
  have ei := vals_ref rv
  subst ei
  refine set_of_list (P := X.prog) (w := X.w) ks (I.ok.hd hc) p1.isList (by simp) (fun q hq => ?_) few (by omega) fun h' tk L es ep t R g keep => ?_
  · obtain ⟨d, _, z1, z2, z3⟩ := ht.mem q hq
    obtain ⟨as, rd⟩ := Dp.reads I d _ _ z1 (show RelV (.ref q.1) (.ref q.1) from rfl)
    obtain ⟨y1, _, y3⟩ := is_of_reads d _ _ _ z2 rd
    exact ⟨y1, by omega⟩
  · refine ⟨.ref s.heap.objs.size, _, I.laid (t' := tk) (o := SetN X.w s.heap.objs.size L) keep (Nat.le_refl _) (setN_ok R.bare), rfl, q _ L (I.hok.fresh (Nat.le_refl _)) (fun z hz => List.mem_of_mem_take (g.from_ z hz)) (fun z hz => g.each z (by rw [List.take_length]; exact hz)) R.uniq g.le⟩
def rSortedN (K : PySem.W.Frag) (w : World) : List V → Hp → VK → Prop := fun vs H Q => ∃ (a : Addr) (L : List (Addr × NestedKey)) (D : Addr × NestedKey → PyData), vs = [.ref a] ∧ H a = some (SetN w a L) ∧ (∀ q ∈ L, Dp K H (.ref q.1) (D q) ∧ keyOf (D q) = some q.2 ∧ (D q).depth ≤ 8) ∧
  PySem.W.AllAlike (L.map D) ∧ PySem.W.Sortable (L.map D) ∧ ∀ (L1 : List (Addr × NestedKey)) (p : Addr), L1.Perm L → H p = none → Q (.ref p) (upd H p (.lst ((L1.mergeSort (PySem.W.dataLe false D)).map fun q => V.ref q.1)))
theorem cr_sortedN (hc : X.calm = true) (hu : X.A.units + 65 < cLine) : CallR X (.builtin "sorted") (rSortedN X.K X.w) := by
  intro pins s σ H vs us Q I r h
  obtain ⟨a, L, D, rfl, ha, hD, al, so, q⟩ := h
  obtain ⟨es, ep, t, b1, b2, b3, b4, b5, b6, b7⟩ : Tbl0 X.w s.heap a L := (I.hok a _ ha).1
  have rd : ∀ z ∈ L, Reads s.heap (.ref z.1) (D z) [] ∧ Key s.heap z.2 z.1 := fun z hz => by
    obtain ⟨z1, z2, z3⟩ := hD z hz
    obtain ⟨as, rd⟩ := Dp.reads I _ _ _ z1 (show RelV (.ref z.1) (.ref z.1) from rfl)
    obtain ⟨y1, y2, y3⟩ := is_of_reads _ _ _ _ z2 rd
    subst y2
    exact ⟨rd, y1, by omega⟩
  have R : Tbl X.w s.heap a L es ep t := ⟨b1, b2, b3, b4, fun z hz => (rd z hz).2, b5, b6, b7⟩
  rw [Vals.ref1 r]
  refine sorted_of_set R (I.ok.hd hc) D (fun z hz => (rd z hz).1) al so (fun z hz => by have := (hD z hz).2.2; omega) fun s' p c L1 keep g o hp pm hg => ?_
  have hn : H p = none := I.hok.fresh hp
  have ln : ((L1.mergeSort (PySem.W.dataLe false D)).map fun q => V.ref q.1).length ≤ sizeLine := by rw [List.length_map, List.length_mergeSort, pm.length_eq, sizeLine_eq]; omega
  have J : Inv X pins σ (upd H p (.lst ((L1.mergeSort (PySem.W.dataLe false D)).map fun q => V.ref q.1))) { s with heap := s'.heap, gens := s'.gens, drawn := s'.drawn, toks := s'.toks } :=
    I.call (ch := []) (Un.laid keep hp hn) (I.hok.laid keep hp ⟨ln, _, c, ref_vals _, hg⟩) (by rw [g]; exact I.bare) (fun _ z => nomatch z)
  have e : s' = { s with heap := s'.heap, gens := s'.gens, drawn := s'.drawn, toks := s'.toks } := by
    cases s'; cases s; cases o; rfl
  rw [e]
  exact ⟨.ref p, _, J, rfl, q L1 p pm hn⟩
end
end NS

namespace DL
open PySem PySem.Spec PyProof.Rows L2
/-- may be made a set and sorted -/
def SetOk (ds : List PyData) : Prop := PySem.W.AllAlike ds ∧ (∀ d ∈ ds, (∃ x r, d = .tuple (x :: r)) ∧ (∃ k, NS.keyOf d = some k) ∧ d.depth ≤ 8 ∧ noDict d = true) ∧ ds.length ≤ 75
def fSortSet : WF := fun ds P => match ds with
  | [.list xs] => SetOk xs ∧ ∀ es : List PyData, es.Nodup → es.length ≤ xs.length → (∀ d, d ∈ es ↔ d ∈ xs) → P (.list (sortD es))
  | _ => False
theorem trip_of {κ : Kit} {H : Hp} : ∀ {xs : List V} {ds : List PyData}, RpAll κ H xs ds → (∀ d ∈ ds, (∃ x r, d = .tuple (x :: r)) ∧ (∃ k, NS.keyOf d = some k) ∧ d.depth ≤ 8 ∧ noDict d = true) → ∃ ks, NS.Trip κ.K H xs ds ks
  | _, _, .nil, _ => ⟨[], .nil⟩
  | _, _, .cons h t, hd => by
    obtain ⟨⟨x, r, e⟩, ⟨k, hk⟩, h3, h4⟩ := hd _ List.mem_cons_self
    obtain ⟨ks, hks⟩ := trip_of t fun d m => hd d (List.mem_cons_of_mem _ m)
    subst e
    cases h with
    | tup g1 g2 g3 => exact ⟨_, .cons (Rp.dp h4 (.tup g1 g2 g3)) hk h3 hks⟩
theorem trip_rp {κ : Kit} {F H : Hp} : ∀ {xs : List V} {ds : List PyData} {ks : List (Addr × NestedKey)}, RpAll κ F xs ds → NS.Trip κ.K H xs ds ks → ∀ q ∈ ks, ∃ d ∈ ds, Rp κ F (.ref q.1) d ∧ NS.keyOf d = some q.2
  | _, _, _, .nil, .nil, _, h => nomatch h
  | _, _, _, .cons r t, .cons _ h2 _ t2, q, hq => by
    rcases List.mem_cons.mp hq with rfl | hq
    · exact ⟨_, List.mem_cons_self, r, h2⟩
    · obtain ⟨d, z1, z2⟩ := trip_rp t t2 q hq
      exact ⟨d, List.mem_cons_of_mem _ z1, z2⟩
theorem rp_maps {κ : Kit} {F : Hp} (D : Addr × NestedKey → PyData) : ∀ L : List (Addr × NestedKey), (∀ q ∈ L, Rp κ F (.ref q.1) (D q)) → RpAll κ F (L.map fun q => V.ref q.1) (L.map D)
  | [], _ => .nil
  | q :: L, h => .cons (h q List.mem_cons_self) (rp_maps D L fun z hz => h z (List.mem_cons_of_mem _ hz))
section
variable {X : Cx} {ka : Kd} {a : Expr} {fa : WE} {pos p p2 pos2 : Pos}
theorem dx_sortSet (hu : X.A.units + 65 < cLine) (ha : DX ka X a fa) (hm : X.mg "sorted" = none) (hm2 : X.mg "set" = none) (hc : X.calm = true := by rfl) (hg : Gl X "sorted" := by rfl) (hg2 : Gl X "set" := by rfl)
    (he2 : starEach [a] X.env = (false, eval a X.env) :: starEach [] X.env := by rfl) (hpl2 : (backTo pos2 (starEach [] X.env)).any (·.1) = false := by rfl)
    (he : starEach [.Call (.Name "set" p2) [a] [] pos2] X.env = (false, eval (.Call (.Name "set" p2) [a] [] pos2) X.env) :: starEach [] X.env := by rfl) (hpl : (backTo pos (starEach [] X.env)).any (·.1) = false := by rfl) :
    DX .F X (.Call (.Name "sorted" p) [.Call (.Name "set" p2) [a] [] pos2] [] pos) (wApp fSortSet (aCons fa aNil)) := by
  have inner := pe_callTy (NS.cr_setN (X := X) hc hu) hg2 hm2 (by decide +kernel) (pa_cons ha.pe pa_nil he2) (by decide) (by decide) he2 hpl2 (p := p2) (pos := pos2)
  have outer := pe_callB (NS.cr_sortedN (X := X) hc hu) hg hm (by decide +kernel) (pa_cons inner pa_nil he) (by decide) (by decide) he hpl (p := p) (pos := pos)
  refine .of outer fun ρ σ F H P Q rr hp q => ?_
  refine ha.sem.toM ρ σ F H _ _ rr hp fun d F1 H1 v p1 e1 z1 => ?_
  have p1' : fSortSet [d] P := p1
  cases d with
  | list ds =>
    obtain ⟨⟨al, ok, few⟩, pp⟩ := p1'
    obtain ⟨l, xs, rfl, g1, g2, g3⟩ := RpM.list e1.sub z1
    have s1 : Same F1 H1 := e1.sub
    obtain ⟨ks, tr⟩ := trip_of (κ := kitOf X) (g3.mono s1) ok
    refine ⟨l, xs, ds, ks, rfl, g1, tr, by rw [tr.len.1]; exact few, fun b L hn sub all uniq lL => ?_⟩
    have fb : F1 b = none := s1.free hn
    have s2 : Same H1 (upd H1 b (NS.SetN X.w b L)) := fun c u z => by rw [upd_ne (ne_of_none z hn)]; exact z
    have pick : ∀ q ∈ L, ∃ d ∈ ds, Rp (kitOf X) F1 (.ref q.1) d ∧ NS.keyOf d = some q.2 := fun q hq => trip_rp g3 tr q (sub q hq)
    have hD : ∀ q ∈ L, ((ds.find? fun d => decide (NS.keyOf d = some q.2)).getD .none) ∈ ds ∧ NS.keyOf ((ds.find? fun d => decide (NS.keyOf d = some q.2)).getD .none) = some q.2 ∧ Rp (kitOf X) F1 (.ref q.1) ((ds.find? fun d => decide (NS.keyOf d = some q.2)).getD .none) := fun q hq => by
      obtain ⟨d, d1, d2, d3⟩ := pick q hq
      cases e : ds.find? fun d => decide (NS.keyOf d = some q.2) with
      | none => exact absurd (List.find?_eq_none.mp e d d1) (by simp [d3])
      | some d' =>
        have m := List.mem_of_find?_eq_some e
        have k' : NS.keyOf d' = some q.2 := by simpa using List.find?_some e
        have e2 : d = d' := NS.one_key d d' q.2 (al d d1 d' m) d3 k'
        subst e2
        exact ⟨m, k', d2⟩
    generalize hDD : (fun q : Addr × NestedKey => (ds.find? fun d => decide (NS.keyOf d = some q.2)).getD .none) = D at hD
    have hD' : ∀ q ∈ L, D q ∈ ds ∧ NS.keyOf (D q) = some q.2 ∧ Rp (kitOf X) F1 (.ref q.1) (D q) := fun q hq => by
      rw [← hDD]
      exact hD q hq
    clear hD
    have inDs : ∀ d ∈ L.map D, d ∈ ds := fun d hd => by
      obtain ⟨q, hq, rfl⟩ := List.mem_map.mp hd
      exact (hD' q hq).1
    have ofDs : ∀ d ∈ ds, d ∈ L.map D := fun d hd => by
      obtain ⟨q0, z1, z2⟩ := tr.back d hd
      obtain ⟨q, hq, e⟩ := List.mem_map.mp (all q0 z1)
      have y := hD' q hq
      refine List.mem_map.mpr ⟨q, hq, ?_⟩
      exact NS.one_key _ _ q.2 (al _ y.1 _ hd) y.2.1 (by rw [z2, ← e])
    refine ⟨b, L, D, rfl, upd_same, fun q hq => ?_, fun d hd d' hd' => al d (inDs d hd) d' (inDs d' hd'), .inl fun d hd => (ok d (inDs d hd)).1, fun L1 p0 pm hp => ?_⟩
    · have y := hD' q hq
      exact ⟨Rp.dp (κ := kitOf X) (ok _ y.1).2.2.2 (y.2.2.mono (s1.trans s2)), y.2.1, (ok _ y.1).2.2.1⟩
    · have h1p : H1 p0 = none := by
        by_cases e : p0 = b
        · rw [e]; exact hn
        · rw [upd_ne e] at hp; exact hp
      have fp : F1 p0 = none := s1.free h1p
      have s3 : Same (upd H1 b (NS.SetN X.w b L)) (upd (upd H1 b (NS.SetN X.w b L)) p0 (.lst ((L1.mergeSort (PySem.W.dataLe false D)).map fun q => V.ref q.1))) := fun c u z => by rw [upd_ne (ne_of_none z hp)]; exact z
      have mem1 : ∀ q ∈ L1.mergeSort (PySem.W.dataLe false D), q ∈ L := fun q hq => pm.mem_iff.mp ((List.mergeSort_perm _ _).mem_iff.mp hq)
      have rpl := rp_maps (κ := kitOf X) (F := F1) D (L1.mergeSort (PySem.W.dataLe false D)) fun q hq => (hD' q (mem1 q hq)).2.2
      have esd : (L1.mergeSort (PySem.W.dataLe false D)).map D = sortD (L1.map D) := by
        unfold sortD
        exact List.map_mergeSort (f := D) (s := PySem.W.dataLe false id) fun _ _ _ _ => rfl
      rw [esd] at rpl
      have nd : (L1.map D).Nodup := by
        have h1 : ((L1.map D).map NS.keyOf).Nodup := by
          have e : (L1.map D).map NS.keyOf = (L1.map Prod.snd).map some := by
            rw [List.map_map, List.map_map]
            exact List.map_congr_left fun q hq => (hD' q (pm.mem_iff.mp hq)).2.1
          rw [e]
          exact List.Pairwise.map some (fun a b hab e => hab (Option.some.inj e)) ((pm.map Prod.snd).nodup_iff.mpr uniq)
        exact List.Pairwise.of_map NS.keyOf (fun a b hne e => hne (congrArg NS.keyOf e)) h1
      have pq := pp (L1.map D) nd (by rw [List.length_map, pm.length_eq]; have := tr.len.1; omega) fun d => ⟨fun h => inDs d ((pm.map D).mem_iff.mp h), fun h => (pm.map D).mem_iff.mpr (ofDs d h)⟩
      have ln : ((L1.mergeSort (PySem.W.dataLe false D)).map fun q => V.ref q.1).length ≤ sizeLine := by
        have l1 := pm.length_eq
        have l2 := tr.len.1
        rw [List.length_map, List.length_mergeSort, l1, sizeLine_eq]
        omega
      exact q _ F1 _ (.ref p0) pq ⟨e1.ff, e1.hh.trans (s2.trans s3), s1.trans (s2.trans s3), fun c u z n => e1.new c u z n⟩ ⟨p0, rfl, e1.hh.free h1p, fp, .inl ⟨_, _, rfl, upd_same, ln, rpl⟩⟩
  | _ => exact p1'.elim
end
end DL

set_option maxRecDepth 100000
set_option maxHeartbeats 1000000
/-! DLv: xs[::-1] of lists and tuples; <= of tuples of whole numbers; ranges with a step. -/
namespace NS
open PySem PyProof.Rows L2 HT
section
variable {prog : Program} {w : World} {A : Around} {E : Value → Shared → Prop} {s : Shared}
theorem back_adjust (n : Nat) : Builtin.Slice.sliceAdjust none none (-1) (n : Int) = ((n : Int) - 1, -1) := by
  unfold Builtin.Slice.sliceAdjust
  rfl
theorem back_places (n : Nat) : Builtin.Slice.slicePlaces ((n : Int) - 1) (-1) (-1) = n := by
  unfold Builtin.Slice.slicePlaces
  rw [if_neg (by decide)]
  by_cases h : n = 0
  · subst h; rfl
  · rw [show (- -1 : Int) = 1 by decide, Int.ediv_one]
    split <;> omega
theorem back_pick (xs : Array Value) : ((List.range xs.size).filterMap fun (m : Nat) => xs[((xs.size : Int) - 1 + (m : Int) * -1).toNat]?).toArray = xs.toList.reverse.toArray := by
  have e : ((List.range xs.size).filterMap fun (m : Nat) => xs[((xs.size : Int) - 1 + (m : Int) * -1).toNat]?) = xs.toList.reverse := by
    have h1 := PySem.W.krv_all xs
    have h2 : ((List.range xs.size).filterMap fun (m : Nat) => xs[((xs.size : Int) - 1 + (m : Int) * -1).toNat]?) = ((List.range xs.size).map fun k => xs.size - 1 - k).filterMap (xs[·]?) := by
      rw [List.filterMap_map]
      have gen : ∀ l : List Nat, (∀ m ∈ l, m < xs.size) → (l.filterMap fun (m : Nat) => xs[((xs.size : Int) - 1 + (m : Int) * -1).toNat]?) = l.filterMap ((fun x => xs[x]?) ∘ fun k => xs.size - 1 - k) := by
        intro l
        induction l with
        | nil => exact fun _ => rfl
        | cons m l ih =>
          intro hl
          have hm := hl m List.mem_cons_self
          rw [List.filterMap_cons, List.filterMap_cons, ih fun z hz => hl z (List.mem_cons_of_mem _ hz)]
          have e : ((fun x => xs[x]?) ∘ fun k => xs.size - 1 - k) m = xs[((xs.size : Int) - 1 + (m : Int) * -1).toNat]? := by
            rw [show ((xs.size : Int) - 1 + (m : Int) * -1).toNat = xs.size - 1 - m by omega]
            rfl
          rw [e]
      exact gen _ fun m hm => List.mem_range.mp hm
    rw [h2, PySem.W.krv_range, List.filterMap_reverse, h1]
  rw [e]
theorem back_applied {sl : Addr} {vl vu vs : Value} {n : Nat} {Q : Int × Int × Nat → Shared → Prop} (hs : s.heap.IsSliceOf sl vl vu vs) (pl : IsPart vl none) (pu : IsPart vu none) (ps : IsPart vs (some (-1)))
    (h : Q ((n : Int) - 1, -1, n) s) : wpAny (model prog w) A (Builtin.Slice.sliceApplied (.ref sl) (pure (n : Int))) Q E s := by
  obtain ⟨os, g1, g2, g3⟩ := id hs
  unfold Builtin.Slice.sliceApplied Builtin.Slice.sliceFields
  refine wpAny_bind (wpAny_bind (wpAny_field g1 g3 (x := vl) rfl (wpAny_bind (wpAny_field g1 g3 (x := vu) rfl (wpAny_bind (wpAny_field g1 g3 (x := vs) rfl (wpAny_pure ?_)))))))
  refine wpAny_bind (slicePart_ ps ?_)
  show wpAny _ _ (if ((-1 : Int) == 0) = true then _ else _) _ _ s
  rw [if_neg (by decide)]
  refine wpAny_bind (slicePart_ pl (wpAny_bind (slicePart_ pu (wpAny_bind (wpAny_pure ?_)))))
  show wpAny _ _ (match Builtin.Slice.sliceAdjust none none (-1) (n : Int) with | (lo, hi) => pure (lo, (-1 : Int), Builtin.Slice.slicePlaces lo hi (-1))) _ _ s
  rw [back_adjust]
  show wpAny _ _ (pure ((n : Int) - 1, (-1 : Int), Builtin.Slice.slicePlaces ((n : Int) - 1) (-1) (-1))) _ _ s
  rw [back_places]
  exact wpAny_pure h
theorem tuple_back {t sl : Addr} {items : Array Value} {vl vu vs : Value} {Q : Value → Shared → Prop} (ht : IsTup s.heap t items) (hs : s.heap.IsSliceOf sl vl vu vs) (pl : IsPart vl none) (pu : IsPart vu none) (ps : IsPart vs (some (-1)))
    (h : Q (.ref s.heap.objs.size) { s with heap := s.heap.push { cls := .type "tuple", data := .seq items.toList.reverse.toArray } }) (hsz : items.size ≤ sizeLine) : wpAny (model prog w) A (getItem (.ref t) (.ref sl)) Q E s := by
  have ok : sizeOk (.seq items.toList.reverse.toArray) := by
    show items.toList.reverse.toArray.size ≤ sizeLine
    rw [List.size_toArray, List.length_reverse, Array.length_toList]
    exact hsz
  obtain ⟨os, g1, g2, g3⟩ := id hs
  unfold getItem
  try with_reducible refine wpAny_holding ?_
  first | refine wpAny_bind (wpAny_pure ?_) | skip
  refine wpAny_bind (wpAny_sequenceKey ht.typeIs (by decide) ?_)
  refine wpAny_bind (wpAny_callSpecial?_slot (name := Str.ofString "__getitem__") ht.typeIs PyProof.Rows.slot_tuple_getitem
    (wpAny_call_entry PyProof.Rows.slot_tuple_getitem ht.typeIs entry_tuple_getitem ?_ (args_tuple_getitem _ _)))
  show wpAny _ _ (Builtin.Tuple.tupleItemsOf (.ref t) >>= _) _ _ s
  refine wpAny_bind (tupleItemsOf_ ht (wpAny_bind (wpAny_typeOf ⟨os, g1, g2⟩ ?_)))
  rw [if_pos (by decide)]
  refine wpAny_bind (back_applied hs pl pu ps ?_)
  show wpAny _ _ (if (((items.size : Int) - 1) == 0 && (-1 : Int) == 1 && items.size == items.size) = true then _ else _) _ _ s
  rw [if_neg (by simp), back_pick]
  first
    | exact wpAny_bind (m := Builtin.Tuple.tupleExact _) (wpAny_newObj_type (wpAny_pure ⟨_, rfl, wpAny_pure h⟩) ok)
    | exact wpAny_bind (m := Builtin.Tuple.tupleExact _) (wpAny_newObj_type (wpAny_bind (wpAny_pure (wpAny_pure ⟨_, rfl, wpAny_pure h⟩))) ok)
    | exact wpAny_bind (wpAny_bind (m := Builtin.Tuple.tupleExact _) (wpAny_newObj_type (wpAny_pure (wpAny_pure ⟨_, rfl, wpAny_pure h⟩)) ok))
    | exact wpAny_bind (wpAny_bind (m := Builtin.Tuple.tupleExact _) (wpAny_newObj_type (wpAny_pure ⟨_, rfl, wpAny_pure h⟩) ok))
end
section
variable {X : Cx}
def tBack (K : PySem.W.Frag) (te : TE) : TE := fun σ H Q => te σ H fun x H1 => ∃ a xs, x = .ref a ∧ ((SqL K H1 a xs ∧ ∀ p, H1 p = none → Q (.ref p) (upd H1 p (.lst xs.reverse))) ∨ (SqT K H1 a xs ∧ ∀ p, H1 p = none → Q (.ref p) (upd H1 p (.tup xs.reverse))))
theorem pe_back {e : Expr} {te : TE} {k : Nat} {p1 p2 p3 pos : Pos} (he : PE X e te) : PE X (.Subscript e (.Slice none none (some (.UnaryOp .USub (.Constant (.int 1) k p1) p2)) p3) pos) (tBack X.K te) := by
  refine ⟨fun pins s σ H Q I h => Subscript_ (thn (he.run pins s σ H _ I h) fun v s1 ⟨x, H1, I1, r1, q1⟩ => ?_)⟩
  obtain ⟨a, xs, rfl, q⟩ := q1
  cases r1
  have st : PO X (some (.UnaryOp .USub (.Constant (.int 1) k p1) p2)) (tPart (tUn (rU fun i => .int (-i)) (tC (.int 1)))) := po_some (pe_un un_neg pe_int)
  refine wpAny_Slice (thn (po_none.run pins s1 σ H1 (fun o H2 => o = none ∧ H2 = H1) I1 ⟨rfl, rfl⟩) fun vl s2 ⟨l, H2, I2, pl, el, e2⟩ => ?_)
  subst el e2
  refine thn (po_none.run pins s2 σ H2 (fun o H3 => o = none ∧ H3 = H2) I2 ⟨rfl, rfl⟩) fun vu s3 ⟨u, H3, I3, pu, eu, e3⟩ => ?_
  subst eu e3
  refine thn (st.run pins s3 σ H3 (fun o H4 => o = some (-1) ∧ H4 = H3) I3 ⟨1, rfl, -1, rfl, rfl, rfl⟩) fun vs s4 ⟨o, H4, I4, ps, eo, e4⟩ => ?_
  subst eo e4
  have J : Inv X pins σ H4 { s4 with heap := s4.heap.push { cls := .type "slice", data := .fields #[vl, vu, vs] } } := I4.kept (t' := s4.toks) fun b ob q => Heap.get?_push_of_some _ q
  show wpAny (model X.prog X.w) X.A (subscriptTail e (.Slice none none (some (.UnaryOp .USub (.Constant (.int 1) k p1) p2)) p3) (.ref a) (.ref s4.heap.objs.size)) (EP X pins σ Q) X.xe { s4 with heap := s4.heap.push { cls := .type "slice", data := .fields #[vl, vu, vs] } }
  rcases q with ⟨hx, q⟩ | ⟨hx, q⟩
  · obtain ⟨its, r, ht, hz⟩ := J.list hx
    have hl := r.length
    refine tail_any (ops := [.ref a, .ref s4.heap.objs.size]) ht.isList.typeIs PySem.slot_list_getitem.lookup ?_ (by with_unfolding_all rfl)
    refine wpAny_getItem_list_slice ht.isList (Heap.IsSliceOf.new _ vl vu vs) pl pu ps (by decide) ?_ (by rw [List.size_toArray]; omega)
    rw [PySem.W.krv_pick]
    refine ⟨.ref _, _, J.laid (t' := s4.toks) (o := .lst xs.reverse) (fun b ob q => Heap.get?_push_of_some _ q) (Nat.le_refl _) ?_, rfl, q _ (J.hok.fresh (Nat.le_refl _))⟩
    exact ⟨by rw [List.length_reverse]; exact hz, _, 0, r.reverse, Heap.get?_push_size _ rfl⟩
  · obtain ⟨its, r, ht, hz⟩ := J.tuple hx
    have hl := r.length
    refine tail_any (ops := [.ref a, .ref s4.heap.objs.size]) ht.typeIs PyProof.Rows.slot_tuple_getitem.lookup ?_ (by with_unfolding_all rfl)
    refine tuple_back ht (Heap.IsSliceOf.new _ vl vu vs) pl pu ps ?_ (by rw [List.size_toArray]; omega)
    refine ⟨.ref _, _, J.laid (t' := s4.toks) (o := .tup xs.reverse) (fun b ob q => Heap.get?_push_of_some _ q) (Nat.le_refl _) ?_, rfl, q _ (J.hok.fresh (Nat.le_refl _))⟩
    exact ⟨by rw [List.length_reverse]; exact hz, its.reverse, r.reverse, IsTup.new _ _⟩
end
end NS

namespace DL
open PySem PySem.Spec PyProof.Rows L2
theorem lex_lt (ns ms : List Int) : ∀ k i, i + k = min ns.length ms.length →
    Ob.lexAt (fun j => decide (ns.getD j 0 = ms.getD j 0)) (fun j => decide (ns.getD j 0 ≤ ms.getD j 0)) (decide (ns.length ≤ ms.length)) i k = !PySem.W.listLt (ms.drop i) (ns.drop i) := by
  intro k
  induction k with
  | zero =>
    intro i hi
    rw [Ob.lexAt_zero]
    by_cases h : ns.length ≤ ms.length
    · rw [decide_eq_true h, List.drop_eq_nil_of_le (show ns.length ≤ i by omega)]
      cases ms.drop i <;> rfl
    · rw [decide_eq_false h, List.drop_eq_nil_of_le (show ms.length ≤ i by omega), List.drop_eq_getElem_cons (show i < ns.length by omega)]
      rfl
  | succ k ih =>
    intro i hi
    have h1 : i < ns.length := by omega
    have h2 : i < ms.length := by omega
    have g1 : ns.getD i 0 = ns[i] := by rw [List.getD_eq_getElem?_getD, List.getElem?_eq_getElem h1]; rfl
    have g2 : ms.getD i 0 = ms[i] := by rw [List.getD_eq_getElem?_getD, List.getElem?_eq_getElem h2]; rfl
    rw [Ob.lexAt_succ, ih (i + 1) (by omega), List.drop_eq_getElem_cons h1, List.drop_eq_getElem_cons h2, PySem.W.listLt, g1, g2]
    by_cases e : ns[i] = ms[i]
    · rw [if_pos (decide_eq_true e), if_pos e.symm]
    · rw [if_neg (by simp [e]), if_neg (fun q => e q.symm)]
      show decide (ns[i] ≤ ms[i]) = !decide (ms[i] < ns[i])
      by_cases l : ns[i] ≤ ms[i]
      · rw [decide_eq_true l, decide_eq_false (by omega)]; rfl
      · rw [decide_eq_false l, decide_eq_true (by omega)]; rfl
theorem ints_rp {κ : Kit} {F : Hp} : ∀ {ns : List Int} {xs : List V}, RpAll κ F xs (ns.map .int) → xs = ns.map .int
  | [], _, .nil => rfl
  | n :: ns, _, .cons h t => by
    cases h
    rw [List.map_cons, ints_rp t]
section
variable {X : Cx} {ka : Kd} {a : Expr} {fa : WE}
def rLeA (K : PySem.W.Frag) : R2 := fun x y H Q => rI0 (fun i j => .bl (decide (i ≤ j))) x y H Q ∨ rLeT K x y H Q
theorem x_le (hu : X.A.units + 64 < cLine) : OpR X (compareOp .LtE) (rLeA X.K) ∧ Op2 (kitOf X) .E (rLeA X.K) oLe := by
  refine ⟨op_le.or (op_leT (by omega)), fun x y dx dy F H P Q s hx hy p q => ?_⟩
  unfold oLe at p
  split at p
  · exact .inl ⟨_, _, RpM.int hx, RpM.int hy, bool_ s q p⟩
  · obtain ⟨ns, ms, rfl, rfl, p⟩ := p
    obtain ⟨a1, xs, e1, h1, l1, r1, _⟩ := RpM.tuple s hx
    obtain ⟨a2, ys, e2, h2, l2, r2, _⟩ := RpM.tuple s hy
    rw [ints_rp r1] at h1
    rw [ints_rp r2] at h2
    refine .inr ⟨a1, a2, ns, ms, e1, e2, h1, h2, ?_⟩
    rw [lex_lt ns ms _ 0 (Nat.zero_add _)]
    exact bool_ s q p
  · exact p.elim
/-! ### a[::-1] -/
theorem rp_rev {κ : Kit} {F : Hp} : ∀ {xs : List V} {ds : List PyData}, RpAll κ F xs ds → RpAll κ F xs.reverse ds.reverse
  | _, _, .nil => .nil
  | _, _, .cons h t => by rw [List.reverse_cons, List.reverse_cons]; exact (rp_rev t).append (.cons h .nil)
theorem dx_rev {k : Nat} {p1 p2 p3 pos : Pos} (ha : DX ka X a fa) : DX .E X (.Subscript a (.Slice none none (some (.UnaryOp .USub (.Constant (.int 1) k p1) p2)) p3) pos) (w1 oRev fa) := by
  refine .of (NS.pe_back ha.pe) fun ρ σ F H P Q rr hp q => ?_
  refine ha.sem.toM ρ σ F H _ _ rr hp fun d F1 H1 v p1 e1 z1 => ?_
  have s := e1.sub
  have q' : ∀ d F' H' v, P d → Ext F1 H1 F' H' → RK .E (kitOf X) H1 F' H' v d → Q v H' := fun d F' H' v p e' z' => q d F' H' v p (e1.trans e') z'
  unfold oRev at p1
  split at p1
  · obtain ⟨a1, xs, ev, h1, l1, r1⟩ := RpM.list s z1
    refine ⟨a1, xs, ev, .inl ⟨h1, fun p hp => ?_⟩⟩
    obtain ⟨e4, z4⟩ := ext_lst (κ := kitOf X) s hp (by rw [List.length_reverse]; exact l1) (rp_rev r1)
    exact frzQ q' _ _ _ _ p1 e4 z4
  · obtain ⟨a1, xs, ev, h1, l1, r1, R1⟩ := RpM.tuple s z1
    refine ⟨a1, xs, ev, .inr ⟨h1, fun p hp => ?_⟩⟩
    obtain ⟨e4, z4⟩ := ext_tup (κ := kitOf X) s hp (by rw [List.length_reverse]; exact l1) (rp_rev r1)
    exact q' _ _ _ _ p1 e4 z4
  · exact p1.elim
theorem dx_revL {k : Nat} {p1 p2 p3 pos : Pos} (ha : DX ka X a fa) : DX .F X (.Subscript a (.Slice none none (some (.UnaryOp .USub (.Constant (.int 1) k p1) p2)) p3) pos) (w1 oRevL fa) := by
  refine .of (NS.pe_back ha.pe) fun ρ σ F H P Q rr hp q => ?_
  refine ha.sem.toM ρ σ F H _ _ rr hp fun d F1 H1 v p1 e1 z1 => ?_
  have s := e1.sub
  unfold oRevL at p1
  split at p1
  · obtain ⟨a1, xs, ev, h1, l1, r1⟩ := RpM.list s z1
    refine ⟨a1, xs, ev, .inl ⟨h1, fun p hp => ?_⟩⟩
    obtain ⟨e4, z4⟩ := ext_lst (κ := kitOf X) s hp (by rw [List.length_reverse]; exact l1) (rp_rev r1)
    exact q _ _ _ _ p1 (e1.trans e4) (z4.start e1.hh)
  · exact p1.elim
end
end DL
namespace DL
open PySem PySem.Spec PyProof.Rows L2
/-! ### range(a, b, c) -/
def rangeC (lo c : Int) (n : Nat) : List PyData := (List.range n).map fun (m : Nat) => .int (lo + (m : Int) * c)
def iRange3 (a b c : WE) : WA := fun ρ P => a ρ fun d => b ρ fun e => c ρ fun f => match d, e, f with
  | .int i, .int j, .int k => (k ≠ 0 ∧ k.natAbs < 1073741824 ∧ Builtin.Range.small i j k = true ∧ Builtin.Range.rangeSize i j k ≤ 16777216) ∧ P (rangeC i k (Builtin.Range.rangeSize i j k).toNat)
  | _, _, _ => False
theorem size_pos (i j k : Int) (hk : k ≠ 0) : 0 ≤ Builtin.Range.rangeSize i j k := by
  unfold Builtin.Range.rangeSize
  split
  · split
    · have := Int.ediv_nonneg (show 0 ≤ j - i - 1 by omega) (show 0 ≤ k by omega)
      omega
    · exact Int.le_refl _
  · split
    · have := Int.ediv_nonneg (show 0 ≤ i - j - 1 by omega) (show 0 ≤ -k by omega)
      omega
    · exact Int.le_refl _
theorem walk_rc {κ : Kit} {F : Hp} {lo c : Int} {n : Nat} : WalkD κ F (Itc lo c n) (rangeC lo c n) := fun F2 H2 s1 s2 => by
  unfold rangeC
  refine ⟨fun i d hd => ?_, ?_⟩
  · rw [List.getElem?_map] at hd
    cases q : (List.range n)[i]? with
    | none => rw [q] at hd; cases hd
    | some j =>
      rw [q] at hd
      cases hd
      obtain ⟨h1, h2⟩ := List.getElem?_eq_some_iff.mp q
      rw [List.length_range] at h1
      rw [List.getElem_range] at h2
      subst h2
      exact ⟨h1, fun x H' y => by obtain ⟨rfl, rfl⟩ := y; exact ⟨F2, .refl s2, .int _⟩⟩
  · show n ≤ _
    rw [List.length_map, List.length_range]
    exact Nat.le_refl _
section
variable {X : Cx} {ka kb kc : Kd} {a b c : Expr} {fa fb fc : WE}
theorem di_range3 {tg : Expr} {pr pos : Pos} (ha : DX ka X a fa) (hb : DX kb X b fb) (hc : DX kc X c fc) (hm : X.mg "range" = none) (hg : Gl X "range" := by rfl)
    (h1 : starEach [a, b, c] X.env = (false, eval a X.env) :: starEach [b, c] X.env := by rfl) (h2 : starEach [b, c] X.env = (false, eval b X.env) :: starEach [c] X.env := by rfl) (h3 : starEach [c] X.env = (false, eval c X.env) :: starEach [] X.env := by rfl)
    (hpl : (backTo pos (starEach [b, c] X.env)).any (·.1) = false := by rfl) : DI X tg (.Call (.Name "range" pr) [a, b, c] [] pos) (iRange3 fa fb fc) := by
  refine (.of (pi_range3 hg hm (pa_cons ha.pe (pa_cons hb.pe (pa_cons hc.pe pa_nil h3) h2) h1) h1 hpl) (fun ρ σ F H P R rr hp q => ?_))
  refine ha.sem.toM ρ σ F H _ _ rr hp fun d F1 H1 v p1 e1 z1 => ?_
  refine hb.sem.toM ρ σ F1 H1 _ _ (rr.ext e1) p1 fun d2 F2 H2 v2 p2 e2 z2 => ?_
  refine hc.sem.toM ρ σ F2 H2 _ _ (rr.ext (e1.trans e2)) p2 fun d3 F3 H3 v3 p3 e3 z3 => ?_
  cases d with
  | int i =>
    cases d2 with
    | int j =>
      cases d3 with
      | int k =>
        obtain rfl := RpM.int z1
        obtain rfl := RpM.int z2
        obtain rfl := RpM.int z3
        obtain ⟨⟨c1, c2, c3, c4⟩, p⟩ := p3
        have hp := size_pos i j k c1
        refine ⟨i, j, k, (Builtin.Range.rangeSize i j k).toNat, rfl, ⟨c1, c2, c3, by omega⟩, ?_⟩
        exact q _ _ _ _ p (by unfold rangeC; rw [List.length_map, List.length_range, sizeLine_eq]; omega) ((e1.trans e2).trans e3) walk_rc
      | _ => exact p3.elim
    | _ => cases d3 <;> exact p3.elim
  | _ => cases d2 <;> cases d3 <;> exact p3.elim
end
end DL

set_option maxRecDepth 100000
set_option maxHeartbeats 1000000
/-! DLp: loops and comprehensions over plain data. -/
namespace DL
open PySem
section
variable {g : WG} {b : DTS} {D : DEnds} {t : WT} {e : WE} {ρ : Rho}
theorem forD_inv {xs : List PyData} (I : Rho → Prop) (h0 : I ρ) (step : ∀ x ∈ xs, ∀ (ρ : Rho) (N : Rho → Prop), I ρ → (∀ ρ', I ρ' → N ρ') → g x ρ fun ρ' => b ⟨N, D.rt, D.nx, N⟩ ρ') (done : ∀ ρ, I ρ → D.nx ρ) : forD g b D xs ρ := by
  induction xs generalizing ρ with
  | nil => exact done ρ h0
  | cons x xs ih => exact step x (by simp) ρ _ h0 fun ρ' h => ih h fun y hy => step y (List.mem_cons_of_mem _ hy)
theorem forD_ix {xs : List PyData} (I : Nat → Rho → Prop) (h0 : I 0 ρ) (step : ∀ i x, xs[i]? = some x → ∀ (ρ : Rho) (N : Rho → Prop), I i ρ → (∀ ρ', I (i + 1) ρ' → N ρ') → g x ρ fun ρ' => b ⟨N, D.rt, D.nx, N⟩ ρ') (done : ∀ ρ, I xs.length ρ → D.nx ρ) : forD g b D xs ρ := by
  induction xs generalizing ρ I with
  | nil => exact done ρ h0
  | cons x xs ih => exact step 0 x rfl ρ _ h0 fun ρ' h => ih (fun i => I (i + 1)) h (fun i y hy => step (i + 1) y hy) done
/-- by what was gone through -/
theorem forD_pre {xs : List PyData} (I : List PyData → Rho → Prop) (h0 : I [] ρ) (step : ∀ p x q, xs = p ++ x :: q → ∀ (ρ : Rho) (N : Rho → Prop), I p ρ → (∀ ρ', I (p ++ [x]) ρ' → N ρ') → g x ρ fun ρ' => b ⟨N, D.rt, D.nx, N⟩ ρ') (done : ∀ ρ, I xs ρ → D.nx ρ) : forD g b D xs ρ := by
  have gen : ∀ (q p : List PyData) (ρ : Rho), xs = p ++ q → I p ρ → forD g b D q ρ := by
    intro q
    induction q with
    | nil =>
      intro p ρ e h
      rw [List.append_nil] at e
      subst e
      exact done ρ h
    | cons x q ih =>
      intro p ρ e h
      exact step p x q e ρ _ h fun ρ' h' => ih (p ++ [x]) ρ' (by rw [e, List.append_assoc]; rfl) h'
  exact gen xs [] ρ rfl h0
theorem forD_preE {α : Type} (enc : α → PyData) {l : List α} (I : List α → Rho → Prop) (h0 : I [] ρ) (step : ∀ p a q, l = p ++ a :: q → ∀ (ρ : Rho) (N : Rho → Prop), I p ρ → (∀ ρ', I (p ++ [a]) ρ' → N ρ') → g (enc a) ρ fun ρ' => b ⟨N, D.rt, D.nx, N⟩ ρ') (done : ∀ ρ, I l ρ → D.nx ρ) : forD g b D (l.map enc) ρ := by
  have gen : ∀ (q p : List α) (ρ : Rho), p ++ q = l → I p ρ → forD g b D (q.map enc) ρ := by
    intro q
    induction q with
    | nil =>
      intro p ρ e h
      rw [List.append_nil] at e
      subst e
      exact done ρ h
    | cons x q ih =>
      intro p ρ e h
      exact step p x q e.symm ρ _ h fun ρ' h' => ih (p ++ [x]) ρ' (by rw [← e, List.append_assoc]; rfl) h'
  exact gen l [] ρ rfl h0
theorem compD_map {xs : List PyData} {P : List PyData → Prop} (f : PyData → PyData) (h : ∀ x ∈ xs, ∀ (K1 : PyData → Prop) (K2 : Prop), K1 (f x) → g x ρ fun ρ' => t ρ' fun c => match c with
    | true => e ρ' K1
    | false => K2) (p : P (xs.map f)) : compD g t e ρ xs P := by
  induction xs generalizing P with
  | nil => exact p
  | cons x xs ih => exact h x (by simp) _ _ (ih (fun y hy => h y (List.mem_cons_of_mem _ hy)) p)
theorem compD_filter {xs : List PyData} {P : List PyData → Prop} (c : PyData → Bool) (f : PyData → PyData) (h : ∀ x ∈ xs, ∀ (K1 : PyData → Prop) (K2 : Prop), (c x = true → K1 (f x)) → (c x = false → K2) → g x ρ fun ρ' => t ρ' fun c => match c with
    | true => e ρ' K1
    | false => K2) (p : P ((xs.filter c).map f)) : compD g t e ρ xs P := by
  induction xs generalizing P with
  | nil => exact p
  | cons x xs ih =>
    have ih' := fun P p => ih (P := P) (fun y hy => h y (List.mem_cons_of_mem _ hy)) p
    refine h x (by simp) _ _ (fun hc => ih' _ ?_) fun hc => ih' _ ?_
    · rw [List.filter_cons_of_pos hc] at p
      exact p
    · rw [List.filter_cons_of_neg (by rw [hc]; exact Bool.false_ne_true)] at p
      exact p
/-- .. over things that stand for data -/
theorem compD_mapE {α : Type} (enc : α → PyData) (f : α → PyData) {l : List α} {P : List PyData → Prop} (h : ∀ a ∈ l, ∀ (K1 : PyData → Prop) (K2 : Prop), K1 (f a) → g (enc a) ρ fun ρ' => t ρ' fun c => match c with
    | true => e ρ' K1
    | false => K2) (p : P (l.map f)) : compD g t e ρ (l.map enc) P := by
  induction l generalizing P with
  | nil => exact p
  | cons x xs ih => exact h x (by simp) _ _ (ih (fun y hy => h y (List.mem_cons_of_mem _ hy)) p)
theorem compD_filterE {α : Type} (enc : α → PyData) (c : α → Bool) (f : α → PyData) {l : List α} {P : List PyData → Prop} (h : ∀ a ∈ l, ∀ (K1 : PyData → Prop) (K2 : Prop), (c a = true → K1 (f a)) → (c a = false → K2) → g (enc a) ρ fun ρ' => t ρ' fun c => match c with
    | true => e ρ' K1
    | false => K2) (p : P ((l.filter c).map f)) : compD g t e ρ (l.map enc) P := by
  induction l generalizing P with
  | nil => exact p
  | cons x xs ih =>
    have ih' := fun P p => ih (P := P) (fun y hy => h y (List.mem_cons_of_mem _ hy)) p
    refine h x (by simp) _ _ (fun hc => ih' _ ?_) fun hc => ih' _ ?_
    · rw [List.filter_cons_of_pos hc] at p
      exact p
    · rw [List.filter_cons_of_neg (by rw [hc]; exact Bool.false_ne_true)] at p
      exact p
/-- .. whose elements come out as things of a kind -/
theorem compD_out {α : Type} (enc : α → PyData) (Ok : α → Prop) {xs : List PyData} {P : List PyData → Prop} (h : ∀ x ∈ xs, ∀ (K1 : PyData → Prop) (K2 : Prop), (∀ a, Ok a → K1 (enc a)) → g x ρ fun ρ' => t ρ' fun c => match c with
    | true => e ρ' K1
    | false => K2) (p : ∀ l : List α, l.length = xs.length → (∀ a ∈ l, Ok a) → P (l.map enc)) : compD g t e ρ xs P := by
  induction xs generalizing P with
  | nil => exact p [] rfl fun _ h => nomatch h
  | cons x xs ih =>
    refine h x (by simp) _ _ fun a ha => ih (fun z hz => h z (List.mem_cons_of_mem _ hz)) fun l hl ho => ?_
    exact p (a :: l) (by rw [List.length_cons, List.length_cons, hl]) fun z hz => by
      rcases List.mem_cons.mp hz with rfl | hz
      · exact ha
      · exact ho z hz
/-- the element may come out in several ways -/
theorem compD_rel {xs : List PyData} {P : List PyData → Prop} (R : PyData → PyData → Prop) (h : ∀ x ∈ xs, ∀ (K1 : PyData → Prop) (K2 : Prop), (∀ y, R x y → K1 y) → g x ρ fun ρ' => t ρ' fun c => match c with
    | true => e ρ' K1
    | false => K2) (p : ∀ ys, Paired R xs ys → P ys) : compD g t e ρ xs P := by
  induction xs generalizing P with
  | nil => exact p [] .nil
  | cons x xs ih => exact h x (by simp) _ _ fun y hy => ih (fun z hz => h z (List.mem_cons_of_mem _ hz)) fun ys hs => p (y :: ys) (.cons hy hs)
end
theorem dec_true {p : Prop} [Decidable p] (h : p) : decide p = true := decide_eq_true h
/-- indexing -/
theorem atI_of {α : Type} {xs : List α} {i : Int} {v : α} (h0 : 0 ≤ i) (h : xs[i.toNat]? = some v) : L2.atI xs i = some v := by
  have := L2.atI_nat h
  rw [show ((i.toNat : Nat) : Int) = i by omega] at this
  exact this
theorem atI_in {α : Type} {xs : List α} {i : Int} (h0 : 0 ≤ i) (h1 : i < xs.length) : ∃ v, L2.atI xs i = some v ∧ v ∈ xs := by
  have hl : i.toNat < xs.length := by omega
  exact ⟨xs[i.toNat], atI_of h0 (List.getElem?_eq_getElem hl), List.getElem_mem hl⟩
theorem bools_map {α : Type} (f : α → Bool) : ∀ l : List α, boolsOf (l.map fun x => PyData.bool (f x)) = some (l.map f)
  | [] => rfl
  | x :: l => by
    rw [List.map_cons, boolsOf, bools_map f l]
    rfl
theorem strs_map {α : Type} (f : α → Str) : ∀ l : List α, strsOf (l.map fun x => PyData.str (f x)) = some (l.map f)
  | [] => rfl
  | x :: l => by
    rw [List.map_cons, strsOf, strs_map f l]
    rfl
theorem eqvAll_ints : ∀ xs ys : List Int, PyData.eqvAll (xs.map .int) (ys.map .int) = decide (xs = ys)
  | [], [] => by simp [PyData.eqvAll]
  | [], _ :: _ => by simp [PyData.eqvAll]
  | _ :: _, [] => by simp [PyData.eqvAll]
  | x :: xs, y :: ys => by
    rw [List.map_cons, List.map_cons, PyData.eqvAll, PyData.eqv, eqvAll_ints xs ys]
    by_cases h : x = y
    · subst h; simp
    · simp [h]
theorem flat_ints (xs : List Int) : Flat (.tuple (xs.map .int)) ∧ Flat (.list (xs.map .int)) := by
  have h1 : ∀ xs : List Int, noDict.noDicts (xs.map PyData.int) = true := fun xs => by
    induction xs with
    | nil => rfl
    | cons x xs ih => rw [List.map_cons, noDict.noDicts, ih]; rfl
  have h2 := PySem.W.depth_ints xs
  exact ⟨⟨by rw [noDict]; exact h1 xs, by rw [PyData.depth, h2]; decide⟩, ⟨by rw [noDict]; exact h1 xs, by rw [PyData.depth, h2]; decide⟩⟩
theorem flat_int (i : Int) : Flat (.int i) := ⟨rfl, by simp [PyData.depth]⟩
theorem flat_bool (i : Bool) : Flat (.bool i) := ⟨rfl, by simp [PyData.depth]⟩
theorem flat_none : Flat .none := ⟨rfl, by simp [PyData.depth]⟩
theorem flat_str (i : Str) : Flat (.str i) := ⟨rfl, by simp [PyData.depth]⟩
/-! ### operators at data of a known form -/
section
variable {P : PyData → Prop}
theorem prop_of {A B : Prop} {P : Prop} (a : A) (b : B) : (A ∧ B ∧ P) = P := propext ⟨fun h => h.2.2, fun h => ⟨a, b, h⟩⟩
theorem eqv_int (i j : Int) : PyData.eqv (.int i) (.int j) = decide (i = j) := by
  rw [PyData.eqv]
  exact Bool.beq_eq_decide_eq i j
theorem eqv_str (i j : Str) : PyData.eqv (.str i) (.str j) = decide (i = j) := by
  rw [PyData.eqv]
  exact Bool.beq_eq_decide_eq i j
theorem eqv_tup (xs ys : List Int) : PyData.eqv (.tuple (xs.map .int)) (.tuple (ys.map .int)) = decide (xs = ys) := by rw [PyData.eqv, eqvAll_ints]
theorem eqv_lst (xs ys : List Int) : PyData.eqv (.list (xs.map .int)) (.list (ys.map .int)) = decide (xs = ys) := by rw [PyData.eqv, eqvAll_ints]
theorem oEq_int (i j : Int) : oEq (.int i) (.int j) P = P (.bool (decide (i = j))) := by rw [oEq, eqv_int]; exact prop_of (flat_int i) (flat_int j)
theorem oNe_int (i j : Int) : oNe (.int i) (.int j) P = P (.bool (!decide (i = j))) := by rw [oNe, eqv_int]; exact prop_of (flat_int i) (flat_int j)
theorem oEq_str (i j : Str) : oEq (.str i) (.str j) P = P (.bool (decide (i = j))) := by rw [oEq, eqv_str]; exact prop_of (flat_str i) (flat_str j)
theorem oNe_str (i j : Str) : oNe (.str i) (.str j) P = P (.bool (!decide (i = j))) := by rw [oNe, eqv_str]; exact prop_of (flat_str i) (flat_str j)
theorem oEq_bool (i j : Bool) : oEq (.bool i) (.bool j) P = P (.bool (decide (i = j))) := by
  rw [oEq, PyData.eqv, Bool.beq_eq_decide_eq]; exact prop_of (flat_bool i) (flat_bool j)
theorem oNe_bool (i j : Bool) : oNe (.bool i) (.bool j) P = P (.bool (!decide (i = j))) := by
  rw [oNe, PyData.eqv, Bool.beq_eq_decide_eq]; exact prop_of (flat_bool i) (flat_bool j)
theorem oEq_tup (xs ys : List Int) : oEq (.tuple (xs.map .int)) (.tuple (ys.map .int)) P = P (.bool (decide (xs = ys))) := by rw [oEq, eqv_tup]; exact prop_of (flat_ints xs).1 (flat_ints ys).1
theorem oNe_tup (xs ys : List Int) : oNe (.tuple (xs.map .int)) (.tuple (ys.map .int)) P = P (.bool (!decide (xs = ys))) := by rw [oNe, eqv_tup]; exact prop_of (flat_ints xs).1 (flat_ints ys).1
theorem oEq_lst (xs ys : List Int) : oEq (.list (xs.map .int)) (.list (ys.map .int)) P = P (.bool (decide (xs = ys))) := by rw [oEq, eqv_lst]; exact prop_of (flat_ints xs).2 (flat_ints ys).2
theorem oNe_lst (xs ys : List Int) : oNe (.list (xs.map .int)) (.list (ys.map .int)) P = P (.bool (!decide (xs = ys))) := by rw [oNe, eqv_lst]; exact prop_of (flat_ints xs).2 (flat_ints ys).2
theorem oEq_tup0 (xs : List Int) : oEq (.tuple (xs.map .int)) (.tuple []) P = P (.bool (decide (xs = []))) := oEq_tup xs []
theorem oNe_tup0 (xs : List Int) : oNe (.tuple (xs.map .int)) (.tuple []) P = P (.bool (!decide (xs = []))) := oNe_tup xs []
theorem oEq_lst0 (xs : List Int) : oEq (.list (xs.map .int)) (.list []) P = P (.bool (decide (xs = []))) := oEq_lst xs []
theorem oNe_lst0 (xs : List Int) : oNe (.list (xs.map .int)) (.list []) P = P (.bool (!decide (xs = []))) := oNe_lst xs []
theorem oEq_tup00 : oEq (.tuple []) (.tuple []) P = P (.bool true) := oEq_tup [] []
theorem oNe_tup00 : oNe (.tuple []) (.tuple []) P = P (.bool false) := oNe_tup [] []
theorem oEq_lst00 : oEq (.list []) (.list []) P = P (.bool true) := oEq_lst [] []
theorem oNe_lst00 : oNe (.list []) (.list []) P = P (.bool false) := oNe_lst [] []
theorem oLt_int (i j : Int) : oLt (.int i) (.int j) P = P (.bool (decide (i < j))) := rfl
theorem oLe_int (i j : Int) : oLe (.int i) (.int j) P = P (.bool (decide (i ≤ j))) := rfl
theorem oGt_int (i j : Int) : oGt (.int i) (.int j) P = P (.bool (decide (j < i))) := rfl
theorem oGe_int (i j : Int) : oGe (.int i) (.int j) P = P (.bool (decide (j ≤ i))) := rfl
theorem oNeg_int (i : Int) : oNeg (.int i) P = P (.int (-i)) := rfl
theorem oAdd_int (i j : Int) : oAdd (.int i) (.int j) P = P (.int (i + j)) := rfl
theorem oSub_int (i j : Int) : oSub (.int i) (.int j) P = P (.int (i - j)) := rfl
theorem oMod_int (i j : Int) (h : 0 < j) : oMod (.int i) (.int j) P = P (.int (i % j)) := propext ⟨fun q => q.2, fun q => ⟨h, q⟩⟩
theorem oDiv_int (i j : Int) (h : 0 < j) (h2 : j < 1073741824) : oDiv (.int i) (.int j) P = P (.int (i / j)) := propext ⟨fun q => q.2, fun q => ⟨⟨h, h2⟩, q⟩⟩
theorem oMulR_int (i j : Int) (h : -(2 ^ 64) < j) (h2 : j < 2 ^ 64) : oMul (.int i) (.int j) P = P (.int (i * j)) := propext ⟨fun q => q.2, fun q => ⟨.inr ⟨h, h2⟩, q⟩⟩
theorem oMulL_int (i j : Int) (h : -(2 ^ 64) < i) (h2 : i < 2 ^ 64) : oMul (.int i) (.int j) P = P (.int (i * j)) := propext ⟨fun q => q.2, fun q => ⟨.inl ⟨h, h2⟩, q⟩⟩
theorem oIx_lastT (a : List PyData) (x : PyData) : oIx (.tuple (a ++ [x])) (.int (-1)) P = P x := propext ⟨fun ⟨v, h, q⟩ => by rw [L2.atI_last] at h; cases h; exact q, fun q => ⟨x, L2.atI_last _ _, q⟩⟩
theorem oIx_lastL (a : List PyData) (x : PyData) : oIx (.list (a ++ [x])) (.int (-1)) P = P x := propext ⟨fun ⟨v, h, q⟩ => by rw [L2.atI_last] at h; cases h; exact q, fun q => ⟨x, L2.atI_last _ _, q⟩⟩
theorem cut_last {α : Type} (l : List α) (x : α) : cutD (l ++ [x]) none (some (-1)) = l := by
  unfold cutD
  have e : HT.sIx (l ++ [x]).length (l ++ [x]).length (some (-1)) = l.length := by
    simp only [HT.sIx, List.length_append, List.length_singleton]
    rw [if_pos (by decide)]
    omega
  rw [HT.sIx_none, e, List.drop_zero, Nat.sub_zero]
  simp
theorem snoc_cases {α : Type} (l : List α) : l = [] ∨ ∃ a x, l = a ++ [x] := by
  rcases List.eq_nil_or_concat l with h | ⟨a, x, h⟩
  · exact .inl h
  · exact .inr ⟨a, x, by rw [h]; simp⟩
theorem lt_ints (xs ys : List Int) : PySem.W.dataLt (.tuple (xs.map .int)) (.tuple (ys.map .int)) = PySem.W.listLt xs ys := by
  unfold PySem.W.dataLt
  rw [PySem.W.keyToks, PySem.W.keyToks]
  exact PySem.W.lexAll_map xs ys
theorem alike_ints (xs ys : List Int) : PySem.W.alike (.tuple (xs.map .int)) (.tuple (ys.map .int)) = true := by
  rw [PySem.W.alike]
  exact PySem.W.alikeAll_map xs ys
theorem oLt_tup (xs ys : List Int) : oLt (.tuple (xs.map .int)) (.tuple (ys.map .int)) P = P (.bool (PySem.W.listLt xs ys)) := by
  rw [← lt_ints]
  exact propext ⟨fun h => h.2.2.2.2, fun h => ⟨alike_ints xs ys, nofun, (flat_ints xs).1, (flat_ints ys).1, h⟩⟩
theorem listLt_pre : ∀ (p a b : List Int), PySem.W.listLt (p ++ a) (p ++ b) = PySem.W.listLt a b
  | [], _, _ => rfl
  | x :: p, a, b => by
    rw [List.cons_append, List.cons_append, PySem.W.listLt, if_pos rfl]
    exact listLt_pre p a b
theorem int_len {n : Int} {k : Nat} (h0 : 0 ≤ n) (hk : 0 < k) (h1 : n < 10 ^ k) : (Str.ofString (toString n)).length ≤ k := PyProof.Rows.toString_length_le h0 hk h1
theorem range_get {lo hi : Int} {i : Nat} {x : PyData} (h : (rangeD lo hi)[i]? = some x) : x = .int (lo + i) ∧ (i : Int) < hi - lo := by
  unfold rangeD at h
  rw [List.getElem?_map] at h
  cases q : (List.range (hi - lo).toNat)[i]? with
  | none => rw [q] at h; cases h
  | some j =>
    rw [q] at h
    obtain ⟨h1, h2⟩ := List.getElem?_eq_some_iff.mp q
    rw [List.length_range] at h1
    rw [List.getElem_range] at h2
    subst h2
    cases h
    exact ⟨rfl, by omega⟩
theorem range_len (lo hi : Int) : (rangeD lo hi).length = (hi - lo).toNat := by unfold rangeD; rw [List.length_map, List.length_range]
theorem flat_all : ∀ {ds : List PyData} {n : Nat}, (∀ d ∈ ds, noDict d = true ∧ d.depth ≤ n) → noDict.noDicts ds = true ∧ PyData.depthAll ds ≤ n
  | [], _, _ => ⟨rfl, by simp [PyData.depthAll]⟩
  | d :: ds, n, h => by
    obtain ⟨h1, h2⟩ := h d List.mem_cons_self
    obtain ⟨h3, h4⟩ := flat_all (ds := ds) (n := n) fun e he => h e (List.mem_cons_of_mem _ he)
    exact ⟨by rw [noDict.noDicts, h1, h3]; rfl, by rw [PyData.depthAll]; omega⟩
theorem deep_tup {ds : List PyData} {n : Nat} (h : ∀ d ∈ ds, noDict d = true ∧ d.depth ≤ n) : noDict (.tuple ds) = true ∧ (PyData.tuple ds).depth ≤ n + 1 := by
  obtain ⟨h1, h2⟩ := flat_all h
  exact ⟨by rw [noDict]; exact h1, by rw [PyData.depth]; omega⟩
theorem deep_lst {ds : List PyData} {n : Nat} (h : ∀ d ∈ ds, noDict d = true ∧ d.depth ≤ n) : noDict (.list ds) = true ∧ (PyData.list ds).depth ≤ n + 1 := by
  obtain ⟨h1, h2⟩ := flat_all h
  exact ⟨by rw [noDict]; exact h1, by rw [PyData.depth]; omega⟩
theorem flat_tup {ds : List PyData} (h : ∀ d ∈ ds, noDict d = true ∧ d.depth ≤ 63) : Flat (.tuple ds) := deep_tup h
theorem flat_lst {ds : List PyData} (h : ∀ d ∈ ds, noDict d = true ∧ d.depth ≤ 63) : Flat (.list ds) := deep_lst h
theorem eqv_tup0 (ds : List PyData) : PyData.eqv (.tuple ds) (.tuple []) = ds.isEmpty := by
  rw [PyData.eqv]
  cases ds with
  | nil => rw [PyData.eqvAll]; rfl
  | cons a l => rw [PyData.eqvAll] <;> simp
theorem eqv_lst0 (ds : List PyData) : PyData.eqv (.list ds) (.list []) = ds.isEmpty := by
  rw [PyData.eqv]
  cases ds with
  | nil => rw [PyData.eqvAll]; rfl
  | cons a l => rw [PyData.eqvAll] <;> simp
theorem oNe_nilT {ds : List PyData} (h : Flat (.tuple ds)) : oNe (.tuple ds) (.tuple []) P = P (.bool (!ds.isEmpty)) := by
  rw [oNe, eqv_tup0]
  exact prop_of h (flat_ints []).1
theorem oNe_nilL {ds : List PyData} (h : Flat (.list ds)) : oNe (.list ds) (.list []) P = P (.bool (!ds.isEmpty)) := by
  rw [oNe, eqv_lst0]
  exact prop_of h (flat_ints []).2
theorem oEq_nilT {ds : List PyData} (h : Flat (.tuple ds)) : oEq (.tuple ds) (.tuple []) P = P (.bool ds.isEmpty) := by
  rw [oEq, eqv_tup0]
  exact prop_of h (flat_ints []).1
theorem oEq_nilL {ds : List PyData} (h : Flat (.list ds)) : oEq (.list ds) (.list []) P = P (.bool ds.isEmpty) := by
  rw [oEq, eqv_lst0]
  exact prop_of h (flat_ints []).2
end
end DL

set_option maxRecDepth 100000
/-! DLr: the same equations, as rewriting steps that the kernel checks one at a time. -/
namespace DL
open PySem
theorem wVar_q (i : Nat) (ρ : Rho) (P : PyData → Prop) : wVar i ρ P = (match ρ[i]? with
  | some (some (.dat d)) => P d
  | _ => False) := propext Iff.rfl
theorem wMut_q (i : Nat) (ρ : Rho) (P : PyData → Prop) : wMut i ρ P = (match ρ[i]? with
  | some (some (.own d)) => P d
  | _ => False) := propext Iff.rfl
theorem wC_q (d : PyData) (ρ : Rho) (P : PyData → Prop) : wC d ρ P = (P d) := propext Iff.rfl
theorem w1_q (g : W1) (a : WE) (ρ : Rho) (P : PyData → Prop) : w1 g a ρ P = (a ρ fun x => g x P) := propext Iff.rfl
theorem w2_q (g : W2) (a b : WE) (ρ : Rho) (P : PyData → Prop) : w2 g a b ρ P = (a ρ fun x => b ρ fun y => g x y P) := propext Iff.rfl
theorem aNil_q (ρ : Rho) (P : List PyData → Prop) : aNil  ρ P = (P []) := propext Iff.rfl
theorem aCons_q (a : WE) (r : WA) (ρ : Rho) (P : List PyData → Prop) : aCons a r ρ P = (a ρ fun x => r ρ fun xs => P (x :: xs)) := propext Iff.rfl
theorem wApp_q (g : WF) (as : WA) (ρ : Rho) (P : PyData → Prop) : wApp g as ρ P = (as ρ fun ds => g ds P) := propext Iff.rfl
theorem fList_q (ds : List PyData) (P : PyData → Prop) : fList  ds P = (P (.list ds)) := propext Iff.rfl
theorem fTup_q (ds : List PyData) (P : PyData → Prop) : fTup  ds P = (P (.tuple ds)) := propext Iff.rfl
theorem tVal_q (a : WE) (ρ : Rho) (P : Bool → Prop) : tVal a ρ P = (a ρ fun d => match d with
  | .bool b => P b
  | _ => False) := propext Iff.rfl
theorem tAnd_q (a b : WT) (ρ : Rho) (P : Bool → Prop) : tAnd a b ρ P = (a ρ fun c => match c with
  | true => b ρ P
  | false => P false) := propext Iff.rfl
theorem tOr_q (a b : WT) (ρ : Rho) (P : Bool → Prop) : tOr a b ρ P = (a ρ fun c => match c with
  | true => P true
  | false => b ρ P) := propext Iff.rfl
theorem tNot_q (a : WT) (ρ : Rho) (P : Bool → Prop) : tNot a ρ P = (a ρ fun c => P (!c)) := propext Iff.rfl
theorem tTru_q (a : WE) (ρ : Rho) (P : Bool → Prop) : tTru a ρ P = (a ρ fun d => truD d P) := propext Iff.rfl
theorem tYes_q (ρ : Rho) (P : Bool → Prop) : tYes  ρ P = (P true) := propext Iff.rfl
theorem wIf_q (t : WT) (a b : WE) (ρ : Rho) (P : PyData → Prop) : wIf t a b ρ P = (t ρ fun c => match c with
  | true => a ρ P
  | false => b ρ P) := propext Iff.rfl
theorem wOr_q (a b : WE) (ρ : Rho) (P : PyData → Prop) : wOr a b ρ P = (a ρ fun d => truD d fun c => match c with
  | true => P d
  | false => b ρ P) := propext Iff.rfl
theorem wAnd_q (a b : WE) (ρ : Rho) (P : PyData → Prop) : wAnd a b ρ P = (a ρ fun d => truD d fun c => match c with
  | true => b ρ P
  | false => P d) := propext Iff.rfl
theorem wNot_q (a : WE) (ρ : Rho) (P : PyData → Prop) : wNot a ρ P = (a ρ fun d => truD d fun c => P (.bool (!c))) := propext Iff.rfl
theorem wChain_q (g g' : W2) (a b c : WE) (ρ : Rho) (P : PyData → Prop) : wChain g g' a b c ρ P = (a ρ fun x => b ρ fun y => g x y fun z => match z with
  | .bool true => c ρ fun u => g' y u P
  | .bool false => P (.bool false)
  | _ => False) := propext Iff.rfl
theorem oPart_q (a : WE) (ρ : Rho) (P : Option Int → Prop) : oPart a ρ P = (a ρ fun d => match d with
  | .int i => P (some i)
  | _ => False) := propext Iff.rfl
theorem oNo_q (ρ : Rho) (P : Option Int → Prop) : oNo  ρ P = (P none) := propext Iff.rfl
theorem wSlice_q (a : WE) (lo hi : WO) (ρ : Rho) (P : PyData → Prop) : wSlice a lo hi ρ P = (a ρ fun d => lo ρ fun l => hi ρ fun h => sliceD d l h P) := propext Iff.rfl
theorem oIsi_q (ts : List String) (x : PyData) (P : PyData → Prop) : oIsi ts x P = (P (.bool (ts.any fun t => isTy t x))) := propext Iff.rfl
theorem wMs_q (g : Str → W1) (a b : WE) (ρ : Rho) (P : PyData → Prop) : wMs g a b ρ P = (a ρ fun x => match x with
  | .str s => b ρ fun y => g s y P
  | _ => False) := propext Iff.rfl
theorem iSeq_q (a : WE) (ρ : Rho) (P : List PyData → Prop) : iSeq a ρ P = (a ρ fun d => match d with
  | .list xs => P xs
  | .tuple xs => P xs
  | _ => False) := propext Iff.rfl
theorem iStr_q (a : WE) (ρ : Rho) (P : List PyData → Prop) : iStr a ρ P = (a ρ fun d => match d with
  | .str z => P (z.cps.toList.map fun c => .str ⟨#[c]⟩)
  | _ => False) := propext Iff.rfl
theorem iRange1_q (a : WE) (ρ : Rho) (P : List PyData → Prop) : iRange1 a ρ P = (a ρ fun d => match d with
  | .int j => (-(2 ^ 62) ≤ j ∧ j ≤ 16777216) ∧ P (rangeD 0 j)
  | _ => False) := propext Iff.rfl
theorem iRange2_q (a b : WE) (ρ : Rho) (P : List PyData → Prop) : iRange2 a b ρ P = (a ρ fun d => b ρ fun e => match d, e with
  | .int i, .int j => (-(2 ^ 62) ≤ i ∧ i < 2 ^ 62 ∧ -(2 ^ 62) ≤ j ∧ j < 2 ^ 62 ∧ j - i ≤ 16777216) ∧ P (rangeD i j)
  | _, _ => False) := propext Iff.rfl
theorem gNm_q (i : Nat) (d : PyData) (ρ : Rho) (P : Rho → Prop) : gNm i d ρ P = (P (ρ.set i (some (.dat d)))) := propext Iff.rfl
theorem gNl_q (ds : List PyData) (ρ : Rho) (P : Rho → Prop) : gNl  ds ρ P = (match ds with
  | [] => P ρ
  | _ => False) := propext Iff.rfl
theorem gCn_q (g : WG) (r : WGs) (ds : List PyData) (ρ : Rho) (P : Rho → Prop) : gCn g r ds ρ P = (match ds with
  | d :: ds => g d ρ fun ρ' => r ds ρ' P
  | [] => False) := propext Iff.rfl
theorem gTp_q (n : Nat) (r : WGs) (d : PyData) (ρ : Rho) (P : Rho → Prop) : gTp n r d ρ P = (match d with
  | .tuple ds => ds.length = n ∧ r ds ρ P
  | _ => False) := propext Iff.rfl
theorem wComp_q (it : WA) (own : List Nat) (g : WG) (t : WT) (e : WE) (ρ : Rho) (P : PyData → Prop) : wComp it own g t e ρ P = (it ρ fun xs => compD g t e (wipeD ρ own) xs fun ys => P (.list ys)) := propext Iff.rfl
theorem dNext_q (D : DEnds) (ρ : Rho) : dNext  D ρ = (D.nx ρ) := propext Iff.rfl
theorem dSeq_q (t u : DTS) (D : DEnds) (ρ : Rho) : dSeq t u D ρ = (t { D with nx := u D } ρ) := propext Iff.rfl
theorem dAsg_q (i : Nat) (a : WE) (D : DEnds) (ρ : Rho) : dAsg i a D ρ = (a ρ fun d => D.nx (ρ.set i (some (.dat d)))) := propext Iff.rfl
theorem dAsgM_q (i : Nat) (a : WE) (D : DEnds) (ρ : Rho) : dAsgM i a D ρ = (a ρ fun d => D.nx (ρ.set i (some (.own d)))) := propext Iff.rfl
theorem dAsgG_q (g : WG) (a : WE) (D : DEnds) (ρ : Rho) : dAsgG g a D ρ = (a ρ fun d => g d ρ D.nx) := propext Iff.rfl
theorem dPar_q (i j : Nat) (as : WA) (D : DEnds) (ρ : Rho) : dPar i j as D ρ = (as ρ fun ds => match ds with
  | [x, y] => D.nx ((ρ.set i (some (.dat x))).set j (some (.dat y)))
  | _ => False) := propext Iff.rfl
theorem dExpr_q (a : WE) (D : DEnds) (ρ : Rho) : dExpr a D ρ = (a ρ fun _ => D.nx ρ) := propext Iff.rfl
theorem dRet_q (a : WE) (D : DEnds) (ρ : Rho) : dRet a D ρ = (a ρ D.rt) := propext Iff.rfl
theorem dRetN_q (D : DEnds) (ρ : Rho) : dRetN  D ρ = (D.rt .none) := propext Iff.rfl
theorem dBreak_q (D : DEnds) (ρ : Rho) : dBreak  D ρ = (D.bk ρ) := propext Iff.rfl
theorem dCont_q (D : DEnds) (ρ : Rho) : dCont  D ρ = (D.ct ρ) := propext Iff.rfl
theorem dIf_q (t : WT) (a b : DTS) (D : DEnds) (ρ : Rho) : dIf t a b D ρ = (t ρ fun c => match c with
  | true => a D ρ
  | false => b D ρ) := propext Iff.rfl
theorem dFor_q (it : WA) (g : WG) (b : DTS) (D : DEnds) (ρ : Rho) : dFor it g b D ρ = (it ρ fun xs => forD g b D xs ρ) := propext Iff.rfl
theorem dWhile_q (t : WT) (b : DTS) (D : DEnds) (ρ : Rho) : dWhile t b D ρ = (∃ n, whileD t b D n ρ) := propext Iff.rfl
theorem dAppend_q (i : Nat) (a : WE) (D : DEnds) (ρ : Rho) : dAppend i a D ρ = (match ρ[i]? with
  | some (some (.own (.list xs))) => a ρ fun d => xs.length < sizeLine ∧ D.nx (ρ.set i (some (.own (.list (xs ++ [d])))))
  | _ => False) := propext Iff.rfl
theorem dPop_q (i : Nat) (D : DEnds) (ρ : Rho) : dPop i D ρ = (match ρ[i]? with
  | some (some (.own (.list xs))) => xs ≠ [] ∧ D.nx (ρ.set i (some (.own (.list xs.dropLast))))
  | _ => False) := propext Iff.rfl
theorem dSetL_q (i : Nat) (k a : WE) (D : DEnds) (ρ : Rho) : dSetL i k a D ρ = (a ρ fun d => match ρ[i]? with
  | some (some (.own (.list xs))) => k ρ fun j => match j with
    | .int j => ∃ n, L2.ixN xs.length j = some n ∧ D.nx (ρ.set i (some (.own (.list (xs.set n d)))))
    | _ => False
  | _ => False) := propext Iff.rfl
theorem dExtL_q (i : Nat) (a : WE) (D : DEnds) (ρ : Rho) : dExtL i a D ρ = (match ρ[i]? with
  | some (some (.own (.list xs))) => a ρ fun d => match d with
    | .list ys => xs.length + ys.length ≤ sizeLine ∧ D.nx (ρ.set i (some (.own (.list (xs ++ ys)))))
    | _ => False
  | _ => False) := propext Iff.rfl
theorem dAug_q (i : Nat) (g : W2) (a : WE) (D : DEnds) (ρ : Rho) : dAug i g a D ρ = (match ρ[i]? with
  | some (some (.dat x)) => a ρ fun y => g x y fun z => D.nx (ρ.set i (some (.dat z)))
  | _ => False) := propext Iff.rfl
theorem dFrz_q (i : Nat) (t : DTS) (D : DEnds) (ρ : Rho) : dFrz i t D ρ = (t D (frz ρ i)) := propext Iff.rfl
theorem wDef_q (m n : Nat) (t : DTS) (ds : List PyData) (P : PyData → Prop) : wDef m n t ds P = (ds.length = m ∧ t ⟨fun _ => P .none, P, fun _ => False, fun _ => False⟩ (startD n ds)) := propext Iff.rfl
theorem wDefF_q (m n : Nat) (t : DTS) (ds : List PyData) (P : PyData → Prop) : wDefF m n t ds P = (ds.length = m ∧ t ⟨fun _ => False, P, fun _ => False, fun _ => False⟩ (startD n ds)) := propext Iff.rfl
theorem oIs_q (x y : PyData) (P : PyData → Prop) : oIs  x y P = (match y with
  | .none => P (.bool (isNone x))
  | .bool b => match x with
    | .bool a => P (.bool (decide (a = b)))
    | _ => False
  | _ => False) := propext Iff.rfl
theorem oIsNot_q (x y : PyData) (P : PyData → Prop) : oIsNot  x y P = (match y with
  | .none => P (.bool (!isNone x))
  | .bool b => match x with
    | .bool a => P (.bool (!decide (a = b)))
    | _ => False
  | _ => False) := propext Iff.rfl
theorem fTupleOf_q (ds : List PyData) (P : PyData → Prop) : fTupleOf  ds P = (match ds with
  | [.list xs] => P (.tuple xs)
  | [.tuple xs] => P (.tuple xs)
  | _ => False) := propext Iff.rfl
theorem fListOf_q (ds : List PyData) (P : PyData → Prop) : fListOf  ds P = (match ds with
  | [.list xs] => P (.list xs)
  | [.tuple xs] => P (.list xs)
  | _ => False) := propext Iff.rfl
theorem truD_none (P : Bool → Prop) : truD .none P = P false := propext Iff.rfl
theorem truD_bool (b : Bool) (P : Bool → Prop) : truD (.bool b) P = P b := propext Iff.rfl
theorem truD_int (b : Int) (P : Bool → Prop) : truD (.int b) P = P (b != 0) := propext Iff.rfl
theorem truD_str (b : Str) (P : Bool → Prop) : truD (.str b) P = P (b.length != 0) := propext Iff.rfl
theorem truD_list (b : List PyData) (P : Bool → Prop) : truD (.list b) P = P (!b.isEmpty) := propext Iff.rfl
theorem truD_tuple (b : List PyData) (P : Bool → Prop) : truD (.tuple b) P = P (!b.isEmpty) := propext Iff.rfl
theorem sliceD_list (xs : List PyData) (lo hi : Option Int) (P : PyData → Prop) : sliceD (.list xs) lo hi P = P (.list (cutD xs lo hi)) := propext Iff.rfl
theorem sliceD_tuple (xs : List PyData) (lo hi : Option Int) (P : PyData → Prop) : sliceD (.tuple xs) lo hi P = P (.tuple (cutD xs lo hi)) := propext Iff.rfl
theorem sliceD_str (xs : Str) (lo hi : Option Int) (P : PyData → Prop) : sliceD (.str xs) lo hi P = P (.str (L2.cutS xs lo hi)) := propext Iff.rfl
theorem oLt_intq (i j : Int) (P : PyData → Prop) : oLt (.int i) (.int j) P = P (.bool (decide (i < j))) := propext Iff.rfl
theorem oLe_intq (i j : Int) (P : PyData → Prop) : oLe (.int i) (.int j) P = P (.bool (decide (i ≤ j))) := propext Iff.rfl
theorem oGt_intq (i j : Int) (P : PyData → Prop) : oGt (.int i) (.int j) P = P (.bool (decide (j < i))) := propext Iff.rfl
theorem oGe_intq (i j : Int) (P : PyData → Prop) : oGe (.int i) (.int j) P = P (.bool (decide (j ≤ i))) := propext Iff.rfl
theorem oNeg_intq (i : Int) (P : PyData → Prop) : oNeg (.int i) P = P (.int (-i)) := propext Iff.rfl
theorem oAdd_intq (i j : Int) (P : PyData → Prop) : oAdd (.int i) (.int j) P = P (.int (i + j)) := propext Iff.rfl
theorem oSub_intq (i j : Int) (P : PyData → Prop) : oSub (.int i) (.int j) P = P (.int (i - j)) := propext Iff.rfl
theorem oAdd_tup (a b : List PyData) (P : PyData → Prop) : oAdd (.tuple a) (.tuple b) P = (a.length + b.length ≤ sizeLine ∧ P (.tuple (a ++ b))) := propext Iff.rfl
theorem oAdd_lst (a b : List PyData) (P : PyData → Prop) : oAdd (.list a) (.list b) P = (a.length + b.length ≤ sizeLine ∧ P (.list (a ++ b))) := propext Iff.rfl
theorem oAdd_str (a b : Str) (P : PyData → Prop) : oAdd (.str a) (.str b) P = (a.length + b.length ≤ sizeLine ∧ P (.str (a ++ b))) := propext Iff.rfl
theorem oIx_inL {xs : List PyData} {i : Int} {P : PyData → Prop} (h0 : 0 ≤ i) (h1 : i < xs.length) (h : ∀ z ∈ xs, P z) : oIx (.list xs) (.int i) P := by
  obtain ⟨v, hv, hm⟩ := atI_in h0 h1
  exact ⟨v, hv, h v hm⟩
theorem oIx_inT {xs : List PyData} {i : Int} {P : PyData → Prop} (h0 : 0 ≤ i) (h1 : i < xs.length) (h : ∀ z ∈ xs, P z) : oIx (.tuple xs) (.int i) P := by
  obtain ⟨v, hv, hm⟩ := atI_in h0 h1
  exact ⟨v, hv, h v hm⟩
theorem oIx_atL {xs : List PyData} {i : Int} {v : PyData} {P : PyData → Prop} (h0 : 0 ≤ i) (h1 : xs[i.toNat]? = some v) (h : P v) : oIx (.list xs) (.int i) P := ⟨v, atI_of h0 h1, h⟩
theorem oIx_atT {xs : List PyData} {i : Int} {v : PyData} {P : PyData → Prop} (h0 : 0 ≤ i) (h1 : xs[i.toNat]? = some v) (h : P v) : oIx (.tuple xs) (.int i) P := ⟨v, atI_of h0 h1, h⟩
theorem isNone_none : isNone .none = true := rfl
theorem isNone_bool (b : Bool) : isNone (.bool b) = false := rfl
theorem isNone_int (b : Int) : isNone (.int b) = false := rfl
theorem isNone_str (b : Str) : isNone (.str b) = false := rfl
theorem isNone_list (b : List PyData) : isNone (.list b) = false := rfl
theorem isNone_tuple (b : List PyData) : isNone (.tuple b) = false := rfl
theorem fLen_list (xs : List PyData) (P : PyData → Prop) : fLen [.list xs] P = P (.int xs.length) := propext Iff.rfl
theorem fLen_tuple (xs : List PyData) (P : PyData → Prop) : fLen [.tuple xs] P = P (.int xs.length) := propext Iff.rfl
theorem fLen_str (xs : Str) (P : PyData → Prop) : fLen [.str xs] P = P (.int xs.length) := propext Iff.rfl
end DL

set_option maxRecDepth 100000
set_option maxHeartbeats 1000000
/-! DLs: texts of figures, plain. -/
namespace DL
open PySem
theorem oIn_one (c : Nat) (z : Str) (P : PyData → Prop) : oIn (.str ⟨#[c]⟩) (.str z) P = P (.bool (decide (c ∈ z.cps.toList))) := by
  show P (.bool (!(Builtin.Str.occurrences z ⟨#[c]⟩ 0 z.length 1).isEmpty)) = _
  rw [StrLaws.found_one]
def figC (c : Nat) : Bool := decide (48 ≤ c ∧ c ≤ 57)
theorem fig_mem (c : Nat) : decide (c ∈ (Str.ofString "0123456789").cps.toList) = figC c := by
  have e : (Str.ofString "0123456789").cps.toList = [48, 49, 50, 51, 52, 53, 54, 55, 56, 57] := by decide +kernel
  rw [e]
  unfold figC
  rw [decide_eq_decide]
  simp only [List.mem_cons, List.not_mem_nil, or_false]
  omega
def figB (w : Str) : Bool := w.cps.toList.all figC
theorem figB_all {w : Str} (h : figB w = true) : NumText.AllDigits w.cps.toList := fun c hc => of_decide_eq_true (List.all_eq_true.mp h c hc)
def valI (w : Str) : Int := ((NumText.digitsVal w.cps.toList : Nat) : Int)
theorem dv_lt : ∀ (k : Nat) (cs : List Nat), cs.length = k → NumText.AllDigits cs → NumText.digitsVal cs < 10 ^ k
  | 0, cs, h, _ => by
    obtain rfl := List.eq_nil_of_length_eq_zero h
    decide
  | k + 1, cs, h, ha => by
    rcases snoc_cases cs with rfl | ⟨a, x, rfl⟩
    · cases h
    · have h1 := dv_lt k a (by simpa using h) fun c hc => ha c (List.mem_append.mpr (.inl hc))
      have h2 := ha x (by simp)
      rw [NumText.digitsVal_snoc, Nat.pow_succ]
      omega
theorem val_bound {w : Str} {k : Nat} (h : figB w = true) (hl : w.length ≤ k) : 0 ≤ valI w ∧ valI w < 10 ^ k := by
  have := dv_lt w.cps.toList.length _ rfl (figB_all h)
  have h3 : 10 ^ w.cps.toList.length ≤ 10 ^ k := Nat.pow_le_pow_right (by decide) (by simpa [Str.length] using hl)
  unfold valI
  refine ⟨by omega, ?_⟩
  exact_mod_cast Nat.lt_of_lt_of_le this h3
theorem val_int {w : Str} (h : figB w = true) (h1 : 1 ≤ w.length) (h2 : w.length ≤ 640) : intText? w = some (valI w) := by
  refine intText_digits (figB_all h) (fun e => ?_) (by omega)
  have : w.cps.toList.length = 0 := by rw [e]; rfl
  simp only [Str.length] at h1
  rw [Array.length_toList] at this
  omega
theorem str_ext {a b : Str} (h : TL.tl a = TL.tl b) : a = b := by
  cases a; cases b
  exact congrArg Str.mk (Array.toList_inj.mp h)
theorem num_tl {n : Int} (h : 0 ≤ n) : TL.tl (Str.ofString (toString n)) = TL.numL n.toNat := by
  obtain ⟨m, rfl⟩ := Int.eq_ofNat_of_zero_le h
  exact TL.tl_num m
theorem num_fig {n : Int} (h : 0 ≤ n) : figB (Str.ofString (toString n)) = true := by
  unfold figB
  have e : (Str.ofString (toString n)).cps.toList = TL.numL n.toNat := num_tl h
  rw [e]
  exact List.all_eq_true.mpr fun c hc => decide_eq_true (TL.numL_digits _ c hc)
theorem num_val {n : Int} (h : 0 ≤ n) : valI (Str.ofString (toString n)) = n := by
  unfold valI
  have e : (Str.ofString (toString n)).cps.toList = TL.numL n.toNat := num_tl h
  rw [e, TL.numL_val]
  omega
theorem num_pos {n : Int} (h : 0 ≤ n) : 1 ≤ (Str.ofString (toString n)).length := by
  have e : (Str.ofString (toString n)).cps.toList = TL.numL n.toNat := num_tl h
  have := congrArg List.length e
  rw [Array.length_toList] at this
  have := List.length_pos_iff.mpr (TL.numL_ne n.toNat)
  simp only [Str.length]
  omega
theorem oIx_inS {z : Str} {i : Int} {P : PyData → Prop} (h0 : 0 ≤ i) (h1 : i < z.length) (h : ∀ c, c ∈ z.cps.toList → P (.str ⟨#[c]⟩)) : oIx (.str z) (.int i) P := by
  obtain ⟨c, hc, hm⟩ := atI_in (xs := z.cps.toList) h0 (by rw [Array.length_toList]; exact h1)
  exact ⟨c, hc, h c hm⟩
theorem str_app_len (a b : Str) : (a ++ b).length = a.length + b.length := Str.length_append a b
end DL

set_option maxRecDepth 100000
set_option maxHeartbeats 4000000
namespace Wy
open PySem DL
def c_MOST_NUMBER : PyData := .int 9999
def c_MOST_NUMBERS : PyData := .int 4
def c_MOST_PIECES : PyData := .int 16

def t_is_number : DTS := (dRet (wAnd (w1 (oIsi ["int"]) (wVar 0)) (wAnd (wNot (w1 (oIsi ["bool"]) (wVar 0))) (wChain oLe oLe (wC (.int 0)) (wVar 0) (wC c_MOST_NUMBER)))))
def W_is_number : WF := wDef 1 1 t_is_number
def t_is_make_1 : DTS := (dRet (wApp fAll (aCons (wComp (iSeq (wVar 0)) [1] (gNm 1) tYes (wApp W_is_number (aCons (wVar 1) aNil))) aNil)))

def t_is_make : DTS := (dSeq (dIf (tOr (tNot (tTru (w1 (oIsi ["tuple"]) (wVar 0)))) (tNot (tVal (wChain oLe oLe (wC (.int 1)) (wApp fLen (aCons (wVar 0) aNil)) (wC c_MOST_NUMBERS)))))
  (dRet (wC (.bool false)))
  dNext)
  t_is_make_1)
def W_is_make : WF := wDef 1 2 t_is_make
def t_is_piece_1 : DTS := (dRet (wOr (w2 oIs (w2 oIx (wVar 0) (wC (.int 1))) (wC .none)) (wAnd (wApp W_is_make (aCons (w2 oIx (wVar 0) (wC (.int 1))) aNil)) (w2 oLt (w2 oIx (wVar 0) (wC (.int 0))) (w2 oIx (wVar 0) (wC (.int 1)))))))

def t_is_piece : DTS := (dSeq (dIf (tOr (tNot (tTru (w1 (oIsi ["tuple"]) (wVar 0)))) (tOr (tVal (w2 oNe (wApp fLen (aCons (wVar 0) aNil)) (wC (.int 2)))) (tNot (tTru (wApp W_is_make (aCons (w2 oIx (wVar 0) (wC (.int 0))) aNil))))))
  (dRet (wC (.bool false)))
  dNext)
  t_is_piece_1)
def W_is_piece : WF := wDef 1 1 t_is_piece
def t_is_bound_1 : DTS := (dIf (tOr (tVal (w2 oIs (w2 oIx (w2 oIx (wVar 0) (w2 oSub (wVar 2) (wC (.int 1)))) (wC (.int 1))) (wC .none))) (tNot (tVal (w2 oLt (w2 oIx (w2 oIx (wVar 0) (w2 oSub (wVar 2) (wC (.int 1)))) (wC (.int 1))) (w2 oIx (w2 oIx (wVar 0) (wVar 2)) (wC (.int 0)))))))
  (dRet (wC (.bool false)))
  dNext)
def t_is_bound_2 : DTS := (dSeq (dFor (iRange2 (wC (.int 1)) (wApp fLen (aCons (wVar 0) aNil))) (gNm 2)
  t_is_bound_1)
  (dRet (wC (.bool true))))

def t_is_bound : DTS := (dSeq (dIf (tOr (tNot (tTru (w1 (oIsi ["tuple"]) (wVar 0)))) (tOr (tVal (w2 oGt (wApp fLen (aCons (wVar 0) aNil)) (wC c_MOST_PIECES))) (tNot (tTru (wApp fAll (aCons (wComp (iSeq (wVar 0)) [1] (gNm 1) tYes (wApp W_is_piece (aCons (wVar 1) aNil))) aNil))))))
  (dRet (wC (.bool false)))
  dNext)
  t_is_bound_2)
def W_is_bound : WF := wDef 1 3 t_is_bound

def t_holds : DTS := (dRet (wApp fAny (aCons (wComp (iSeq (wVar 0)) [2, 3] (gTp 2 (gCn (gNm 2) (gCn (gNm 3) gNl))) tYes (wAnd (w2 oLe (wVar 2) (wVar 1)) (wOr (w2 oIs (wVar 3) (wC .none)) (w2 oLt (wVar 1) (wVar 3))))) aNil)))
def W_holds : WF := wDef 2 4 t_holds

def t_law_whole : DTS := (dRet (wAnd (w1 (oIsi ["int"]) (wVar 0)) (wNot (w1 (oIsi ["bool"]) (wVar 0)))))
def W_law_whole : WF := wDef 1 1 t_law_whole

def t_law_mixed : DTS := (dSeq (dAsg 3 (wApp fList (aCons (wC (.int 99991)) (aCons (wC (.int 99989)) (aCons (wC (.int 99971)) (aCons (wC (.int 99961)) (aCons (wC (.int 99929)) (aCons (wC (.int 99923)) (aCons (wC (.int 99907)) (aCons (wC (.int 99901)) (aCons (wC (.int 99881)) (aCons (wC (.int 99877)) (aCons (wC (.int 99871)) aNil)))))))))))))
  (dSeq (dAsg 4 (w2 oMod (w2 oMul (w2 oAdd (wVar 0) (w2 oMul (wC (.int 7)) (wVar 1))) (wC (.int 48271))) (w2 oIx (wVar 3) (w2 oMod (wVar 1) (wC (.int 11))))))
  (dRet (w2 oMod (w2 oMod (w2 oAdd (w2 oAdd (w2 oMul (w2 oMul (wVar 4) (wVar 4)) (wC (.int 7))) (wVar 4)) (wVar 1)) (wC (.int 1000003))) (wVar 2)))))
def W_law_mixed : WF := wDef 3 5 t_law_mixed
def t_law_make_1 : DTS := (dSeq (dAsg 4 (wApp fList (aCons (wC (.int 0)) (aCons (wC (.int 1)) (aCons (wC (.int 2)) (aCons (wC (.int 9)) (aCons (wC (.int 9998)) (aCons (wC (.int 9999)) (aCons (wApp W_law_mixed (aCons (wVar 0) (aCons (w2 oAdd (w2 oAdd (wVar 1) (wVar 3)) (wC (.int 1))) (aCons (wC (.int 10000)) aNil)))) (aCons (wApp W_law_mixed (aCons (wVar 0) (aCons (w2 oAdd (w2 oAdd (wVar 1) (wVar 3)) (wC (.int 1))) (aCons (wC (.int 4)) aNil)))) aNil))))))))))
  (dAppend 2 (w2 oIx (wVar 4) (wApp W_law_mixed (aCons (wVar 0) (aCons (w2 oAdd (w2 oAdd (wVar 1) (wVar 3)) (wC (.int 2))) (aCons (wC (.int 8)) aNil)))))))

def t_law_make : DTS := (dSeq (dAsgM 2 (wApp fList aNil))
  (dSeq (dFor (iRange1 (w2 oAdd (wC (.int 1)) (wApp W_law_mixed (aCons (wVar 0) (aCons (wVar 1) (aCons (wC (.int 4)) aNil)))))) (gNm 3)
  t_law_make_1)
  (dRet (wApp fTupleOf (aCons (wMut 2) aNil)))))
def W_law_make : WF := wDef 2 5 t_law_make
def t_law_next_1 : DTS := (dSeq (dSetL 1 (w1 oNeg (wC (.int 1))) (w2 oAdd (w2 oIx (wMut 1) (w1 oNeg (wC (.int 1)))) (wC (.int 1))))
  (dRet (wApp fTupleOf (aCons (wMut 1) aNil))))
def t_law_next_2 : DTS := (dSeq (dIf (tVal (w2 oEq (wMut 1) (wApp fList aNil)))
  (dRet (wC .none))
  dNext)
  t_law_next_1)
def t_law_next_3 : DTS := (dSeq (dAsgM 1 (wApp fListOf (aCons (wVar 0) aNil)))
  (dSeq (dWhile (tAnd (tVal (w2 oNe (wMut 1) (wApp fList aNil))) (tVal (w2 oEq (w2 oIx (wMut 1) (w1 oNeg (wC (.int 1)))) (wC (.int 9999)))))
  (dPop 1))
  t_law_next_2))

def t_law_next : DTS := (dSeq (dIf (tVal (w2 oLt (wApp fLen (aCons (wVar 0) aNil)) (wC (.int 4))))
  (dRet (w2 oAdd (wVar 0) (wApp fTup (aCons (wC (.int 0)) aNil))))
  dNext)
  t_law_next_3)
def W_law_next : WF := wDef 1 2 t_law_next
def t_law_is_make_1 : DTS := (dRet (wApp fAll (aCons (wComp (iSeq (wVar 0)) [1] (gNm 1) tYes (wAnd (wApp W_law_whole (aCons (wVar 1) aNil)) (wAnd (w2 oLe (wC (.int 0)) (wVar 1)) (w2 oLe (wVar 1) (wC (.int 9999)))))) aNil)))

def t_law_is_make : DTS := (dSeq (dIf (tOr (tNot (tTru (w1 (oIsi ["tuple"]) (wVar 0)))) (tOr (tVal (w2 oLt (wApp fLen (aCons (wVar 0) aNil)) (wC (.int 1)))) (tVal (w2 oGt (wApp fLen (aCons (wVar 0) aNil)) (wC (.int 4))))))
  (dRet (wC (.bool false)))
  dNext)
  t_law_is_make_1)
def W_law_is_make : WF := wDef 1 2 t_law_is_make
def t_law_bound_1 : DTS := (dSeq (dAsg 4 (wApp W_law_make (aCons (w2 oAdd (wVar 0) (w2 oMul (wC (.int 13)) (wVar 3))) (aCons (wC (.int 2)) aNil))))
  (dSeq (dIf (tVal (w2 oEq (wApp W_law_mixed (aCons (wVar 0) (aCons (wC (.int 9)) (aCons (wC (.int 2)) aNil)))) (wC (.int 1))))
  (dAsg 4 (w2 oAdd (wApp fTup (aCons (wApp W_law_mixed (aCons (w2 oAdd (wVar 0) (wVar 3)) (aCons (wC (.int 3)) (aCons (w2 oAdd (wC (.int 3)) (w2 oMul (wC (.int 2)) (wVar 1))) aNil)))) aNil)) (wSlice (wVar 4) (oPart (wC (.int 1))) (oPart (wC (.int 2))))))
  dNext)
  (dAppend 2 (wVar 4))))
def t_law_bound_2 : DTS := (dSeq (dIf (tVal (w2 oEq (wApp W_law_mixed (aCons (wVar 0) (aCons (wC (.int 7)) (aCons (wC (.int 20)) aNil)))) (wC (.int 1))))
  (dAsgM 5 (wApp fList (aCons (wApp fTup (aCons (wApp fTup (aCons (wC (.int 0)) aNil)) (aCons (wC .none) aNil))) aNil)))
  dNext)
  (dRet (wApp fTupleOf (aCons (wMut 5) aNil))))
def t_law_bound_3 : DTS := (dSeq (dIf (tAnd (tVal (w2 oEq (wApp W_law_mixed (aCons (wVar 0) (aCons (wC (.int 6)) (aCons (wC (.int 8)) aNil)))) (wC (.int 1)))) (tVal (w2 oNe (wMut 5) (wApp fList aNil))))
  (dAsgM 5 (wApp fList (aCons (wApp fTup (aCons (w2 oIx (w2 oIx (wMut 5) (wC (.int 0))) (wC (.int 0))) (aCons (wApp W_law_next (aCons (w2 oIx (w2 oIx (wMut 5) (wC (.int 0))) (wC (.int 0))) aNil)) aNil))) aNil)))
  dNext)
  t_law_bound_2)
def t_law_bound_4 : DTS := (dSeq (dIf (tAnd (tVal (w2 oEq (wApp W_law_mixed (aCons (wVar 0) (aCons (wC (.int 5)) (aCons (wC (.int 4)) aNil)))) (wC (.int 1)))) (tVal (w2 oNe (wMut 5) (wApp fList aNil))))
  (dSetL 5 (w1 oNeg (wC (.int 1))) (wApp fTup (aCons (w2 oIx (w2 oIx (wMut 5) (w1 oNeg (wC (.int 1)))) (wC (.int 0))) (aCons (wC .none) aNil))))
  dNext)
  t_law_bound_3)
def t_law_bound_5 : DTS := (dSeq (dAsgM 5 (wComp (iRange3 (wC (.int 0)) (w2 oSub (wApp fLen (aCons (wMut 2) aNil)) (wC (.int 1))) (wC (.int 2))) [3] (gNm 3) tYes (wApp fTup (aCons (w2 oIx (wMut 2) (wVar 3)) (aCons (w2 oIx (wMut 2) (w2 oAdd (wVar 3) (wC (.int 1)))) aNil)))))
  (dSeq (dIf (tVal (w2 oEq (w2 oMod (wApp fLen (aCons (wMut 2) aNil)) (wC (.int 2))) (wC (.int 1))))
  (dAppend 5 (wApp fTup (aCons (w2 oIx (wMut 2) (w1 oNeg (wC (.int 1)))) (aCons (wC .none) aNil))))
  dNext)
  t_law_bound_4))
def t_law_bound_6 : DTS := (dSeq (dAsgM 2 (wApp fSortSet (aCons (wMut 2) aNil)))
  (dSeq (dIf (tAnd (tVal (w2 oEq (wApp W_law_mixed (aCons (wVar 0) (aCons (wC (.int 4)) (aCons (wC (.int 3)) aNil)))) (wC (.int 1)))) (tVal (w2 oNe (wMut 2) (wApp fList aNil))))
  (dSetL 2 (wC (.int 0)) (wApp fTup (aCons (wC (.int 0)) aNil)))
  dNext)
  t_law_bound_5))

def t_law_bound : DTS := (dSeq (dAsgM 2 (wApp fList aNil))
  (dSeq (dFor (iRange1 (w2 oMul (wC (.int 2)) (wApp W_law_mixed (aCons (wVar 0) (aCons (wC (.int 1)) (aCons (w2 oAdd (wVar 1) (wC (.int 1))) aNil)))))) (gNm 3)
  t_law_bound_1)
  t_law_bound_6))
def W_law_bound : WF := wDef 2 6 t_law_bound
def t_law_in_1 : DTS := (dIf (tAnd (tVal (w2 oLe (wVar 2) (wVar 1))) (tOr (tVal (w2 oIs (wVar 3) (wC .none))) (tVal (w2 oLt (wVar 1) (wVar 3)))))
  (dRet (wC (.bool true)))
  dNext)

def t_law_in : DTS := (dSeq (dFor (iSeq (wVar 0)) (gTp 2 (gCn (gNm 2) (gCn (gNm 3) gNl)))
  t_law_in_1)
  (dRet (wC (.bool false))))
def W_law_in : WF := wDef 2 4 t_law_in
def t_law_is_bound_1 : DTS := (dSeq (dIf (tAnd (tVal (w2 oGt (wVar 3) (wC (.int 0)))) (tOr (tVal (w2 oIs (wVar 2) (wC .none))) (tNot (tVal (w2 oLt (wVar 2) (w2 oIx (wVar 4) (wC (.int 0))))))))
  (dRet (wC (.bool false)))
  dNext)
  (dAsg 2 (w2 oIx (wVar 4) (wC (.int 1)))))
def t_law_is_bound_2 : DTS := (dSeq (dIf (tAnd (tVal (w2 oIsNot (w2 oIx (wVar 4) (wC (.int 1))) (wC .none))) (tOr (tNot (tTru (wApp W_law_is_make (aCons (w2 oIx (wVar 4) (wC (.int 1))) aNil)))) (tNot (tVal (w2 oLt (w2 oIx (wVar 4) (wC (.int 0))) (w2 oIx (wVar 4) (wC (.int 1))))))))
  (dRet (wC (.bool false)))
  dNext)
  t_law_is_bound_1)
def t_law_is_bound_3 : DTS := (dSeq (dAsg 4 (w2 oIx (wVar 0) (wVar 3)))
  (dSeq (dIf (tOr (tNot (tTru (w1 (oIsi ["tuple"]) (wVar 4)))) (tOr (tVal (w2 oNe (wApp fLen (aCons (wVar 4) aNil)) (wC (.int 2)))) (tNot (tTru (wApp W_law_is_make (aCons (w2 oIx (wVar 4) (wC (.int 0))) aNil))))))
  (dRet (wC (.bool false)))
  dNext)
  t_law_is_bound_2))
def t_law_is_bound_4 : DTS := (dSeq (dAsg 2 (wC .none))
  (dSeq (dFor (iRange1 (wApp fLen (aCons (wVar 0) aNil))) (gNm 3)
  t_law_is_bound_3)
  (dRet (wC (.bool true)))))

def t_law_is_bound : DTS := (dSeq (dIf (tOr (tNot (tTru (w1 (oIsi ["tuple"]) (wVar 0)))) (tVal (w2 oGt (wApp fLen (aCons (wVar 0) aNil)) (wVar 1))))
  (dRet (wC (.bool false)))
  dNext)
  t_law_is_bound_4)
def W_law_is_bound : WF := wDef 2 5 t_law_is_bound
def t_law_ends_1 : DTS := (dSeq (dAppend 1 (wVar 3))
  (dIf (tVal (w2 oIsNot (wVar 4) (wC .none)))
  (dAppend 1 (wVar 4))
  dNext))
def t_law_ends_2 : DTS := (dFor (iSeq (wVar 2)) (gTp 2 (gCn (gNm 3) (gCn (gNm 4) gNl)))
  t_law_ends_1)

def t_law_ends : DTS := (dSeq (dAsgM 1 (wApp fList (aCons (wApp fTup (aCons (wC (.int 0)) aNil)) aNil)))
  (dSeq (dFor (iSeq (wVar 0)) (gNm 2)
  t_law_ends_2)
  (dRet (wMut 1))))
def W_law_ends : WF := wDefF 1 5 t_law_ends
def t_law_changed_1 : DTS := (dRet (w2 oIx (wVar 2) (wApp W_law_mixed (aCons (wVar 1) (aCons (wC (.int 8)) (aCons (wApp fLen (aCons (wVar 2) aNil)) aNil))))))

def t_law_changed : DTS := (dSeq (dAsg 2 (wApp fList (aCons (w1 oRev (wVar 0)) (aCons (wApp fListOf (aCons (wVar 0) aNil)) (aCons (w2 oAdd (wVar 0) (wVar 0)) (aCons (w2 oAdd (wVar 0) (wApp fTup (aCons (wApp fTup (aCons (wApp fTup (aCons (wC (.int 9999)) (aCons (wC (.int 9999)) aNil))) (aCons (wApp fTup (aCons (wC (.int 9999)) (aCons (wC (.int 9999)) aNil))) aNil))) aNil))) (aCons (wC .none) (aCons (wApp fTup (aCons (wApp fTup aNil) aNil)) (aCons (w2 oAdd (wVar 0) (wApp fTup (aCons (wC (.int 5)) aNil))) aNil)))))))))
  (dSeq (dIf (tVal (w2 oNe (wVar 0) (wApp fTup aNil)))
  (dSeq (dAsgG (gTp 2 (gCn (gNm 3) (gCn (gNm 4) gNl))) (w2 oIx (wVar 0) (wC (.int 0))))
  (dSeq (dAsg 2 (w2 oAdd (wVar 2) (wApp fList (aCons (w2 oAdd (wApp fTup (aCons (wApp fTup (aCons (wVar 4) (aCons (wVar 3) aNil))) aNil)) (wSlice (wVar 0) (oPart (wC (.int 1))) oNo)) (aCons (w2 oAdd (wApp fTup (aCons (wApp fTup (aCons (wVar 3) (aCons (wVar 3) aNil))) aNil)) (wSlice (wVar 0) (oPart (wC (.int 1))) oNo)) (aCons (w2 oAdd (wApp fTup (aCons (wApp fTup (aCons (wVar 3) (aCons (wC .none) aNil))) aNil)) (wVar 0)) (aCons (wApp fTup (aCons (wApp fTup (aCons (wVar 3) (aCons (wVar 4) (aCons (wC (.int 1)) aNil)))) aNil)) aNil)))))))
  (dSeq (dAsg 2 (w2 oAdd (wVar 2) (wApp fList (aCons (w2 oAdd (wApp fTup (aCons (wApp fList (aCons (wVar 3) (aCons (wVar 4) aNil))) aNil)) (wSlice (wVar 0) (oPart (wC (.int 1))) oNo)) (aCons (wApp fTup (aCons (wApp fTup (aCons (w2 oAdd (wSlice (wVar 3) oNo (oPart (wC (.int 1)))) (wApp fTup (aCons (wC (.int 10000)) aNil))) (aCons (wVar 4) aNil))) aNil)) (aCons (wApp fTup (aCons (wApp fTup (aCons (wVar 3) (aCons (wC (.bool true)) aNil))) aNil)) (aCons (w2 oAdd (wSlice (wVar 0) (oPart (wC (.int 1))) oNo) (wSlice (wVar 0) oNo (oPart (wC (.int 1))))) aNil)))))))
  (dIf (tVal (w2 oIsNot (wVar 4) (wC .none)))
  (dAsg 2 (w2 oAdd (wVar 2) (w2 oMul (wApp fList (aCons (wApp fTup (aCons (wApp fTup (aCons (wVar 3) (aCons (wVar 4) aNil))) (aCons (wApp fTup (aCons (wVar 4) (aCons (wC .none) aNil))) aNil))) (aCons (wApp fTup (aCons (wApp fTup (aCons (wVar 3) (aCons (wVar 4) aNil))) (aCons (wApp fTup (aCons (w2 oAdd (wVar 4) (wApp fTup (aCons (wC (.int 0)) (aCons (wC (.int 0)) (aCons (wC (.int 0)) (aCons (wC (.int 0)) aNil)))))) (aCons (wC .none) aNil))) aNil))) aNil))) (wC (.int 2)))))
  dNext))))
  dNext)
  t_law_changed_1))
def W_law_changed : WF := wDef 2 5 t_law_changed

def t_law_many : DTS := (dRet (wApp fTupleOf (aCons (wComp (iRange1 (wVar 0)) [1] (gNm 1) tYes (wApp fTup (aCons (wApp fTup (aCons (w2 oMul (wC (.int 2)) (wVar 1)) aNil)) (aCons (wApp fTup (aCons (w2 oAdd (w2 oMul (wC (.int 2)) (wVar 1)) (wC (.int 1))) aNil)) aNil)))) aNil)))
def W_law_many : WF := wDef 1 2 t_law_many
def t_law_1 : DTS := (dSeq (dAsg 4 (wApp W_is_bound (aCons (wVar 3) aNil)))
  (dIf (tOr (tNot (tTru (w1 (oIsi ["bool"]) (wVar 4)))) (tVal (w2 oNe (wVar 4) (wApp W_law_is_bound (aCons (wVar 3) (aCons (wC (.int 16)) aNil))))))
  (dRet (wC (.bool false)))
  dNext))
def t_law_2 : DTS := (dSeq (dAsg 4 (wApp W_holds (aCons (wVar 2) (aCons (wVar 5) aNil))))
  (dIf (tOr (tNot (tTru (w1 (oIsi ["bool"]) (wVar 4)))) (tVal (w2 oNe (wVar 4) (wApp W_law_in (aCons (wVar 2) (aCons (wVar 5) aNil))))))
  (dRet (wC (.bool false)))
  dNext))
def t_law_3 : DTS := (dFor (iSeq (w2 oAdd (w2 oAdd (wApp W_law_ends (aCons (wApp fList (aCons (wVar 2) aNil)) aNil)) (wComp (iSeq (wVar 2)) [6, 7] (gTp 2 (gCn (gNm 6) (gCn (gNm 7) gNl))) tYes (wOr (wApp W_law_next (aCons (wVar 6) aNil)) (wVar 6)))) (wApp fList (aCons (wApp W_law_make (aCons (wVar 1) (aCons (wC (.int 5)) aNil))) aNil)))) (gNm 5)
  t_law_2)
def t_law_4 : DTS := (dSeq (dAsg 2 (wApp W_law_bound (aCons (wVar 1) (aCons (w2 oIx (wApp fList (aCons (wC (.int 2)) (aCons (wC (.int 4)) (aCons (wC (.int 16)) aNil)))) (wApp W_law_mixed (aCons (wVar 1) (aCons (wC (.int 10)) (aCons (wC (.int 3)) aNil))))) aNil))))
  (dSeq (dFor (iSeq (wApp fList (aCons (wVar 2) (aCons (wApp W_law_changed (aCons (wVar 2) (aCons (wVar 1) aNil))) (aCons (wApp W_law_many (aCons (w2 oAdd (wC (.int 15)) (wApp W_law_mixed (aCons (wVar 1) (aCons (wC (.int 3)) (aCons (wC (.int 3)) aNil))))) aNil)) aNil))))) (gNm 3)
  t_law_1)
  t_law_3))

def t_law : DTS := (dSeq (dFor (iSeq (w2 oAdd (wApp fList (aCons (wC (.int 3)) aNil)) (wApp fListOf (aCons (wSlice (wVar 0) oNo (oPart (wC (.int 80)))) aNil)))) (gNm 1)
  t_law_4)
  (dRet (wC (.bool true))))
def W_law : WF := wDef 1 8 t_law
end Wy

set_option maxRecDepth 100000
set_option maxHeartbeats 1000000
namespace Wy
open PySem DL
local macro_rules | `(tactic| walk_at "dl") => `(tactic| try simp only [t_is_make_1, t_is_piece_1, t_is_bound_2, t_law_make_1, t_law_next_1, t_law_next_2, t_law_next_3, t_law_is_make_1, t_law_in_1, t_law_is_bound_2, t_law_is_bound_4, t_law_changed_1, wVar_q, wMut_q, wC_q, w1_q, w2_q, aNil_q, aCons_q, wApp_q, fList_q, fTup_q, tVal_q, tAnd_q, tOr_q, tNot_q, tTru_q, tYes_q, wIf_q, wOr_q, wAnd_q, wNot_q, wChain_q, oPart_q, oNo_q, wSlice_q, wMs_q, iSeq_q, iStr_q, iRange1_q, iRange2_q, gNm_q, gNl_q, gCn_q, gTp_q, wComp_q, dNext_q, dSeq_q, dAsg_q, dAsgM_q, dAsgG_q, dPar_q, dExpr_q, dRet_q, dRetN_q, dBreak_q, dCont_q, dIf_q, dFor_q, dWhile_q, dAppend_q, dPop_q, dSetL_q, dExtL_q, dAug_q, dFrz_q, wDef_q, wDefF_q, oIs_q, oIsNot_q, fTupleOf_q, fListOf_q, startD, frz, wipeD, truD_none, truD_bool, truD_int, truD_str, truD_list, truD_tuple, sliceD_list, sliceD_tuple, sliceD_str, oAdd_tup, oAdd_lst, oAdd_str, fLen_list, fLen_tuple, fLen_str, isNone_none, isNone_bool, isNone_int, isNone_str, isNone_list, isNone_tuple, List.map_cons, List.map_nil, List.length_cons, List.length_nil, List.cons_append, List.nil_append, List.append_nil, List.getElem?_cons_zero, List.getElem?_cons_succ, List.set_cons_zero, List.set_cons_succ, List.replicate_succ, List.replicate_zero, Nat.reduceSub, Nat.reduceAdd, Nat.sub_self, true_and, Nat.zero_add, oEq_int, oNe_int, oEq_str, oNe_str, oEq_bool, oNe_bool, oEq_tup, oNe_tup, oEq_lst, oNe_lst, oEq_tup0, oEq_tup00, oNe_tup00, oEq_lst00, oNe_lst00, oNe_tup0, oEq_lst0, oNe_lst0, oLt_intq, oLe_intq, oGt_intq, oGe_intq, oNeg_intq, oAdd_intq, oSub_intq, oIx_lastT, oIx_lastL, List.length_map, Bool.not_true, Bool.not_false, decide_true, decide_false])
/-! ### the law's own helpers -/
theorem w_law_mixed (c k m : Int) (hm : 0 < m) (P : PyData → Prop) (h : ∀ r, 0 ≤ r → r < m → P (.int r)) : W_law_mixed [.int c, .int k, .int m] P := by
  unfold W_law_mixed t_law_mixed
  walk_at "dl"
  refine ⟨.inl ⟨by decide, by decide⟩, .inr ⟨by decide, by decide⟩, by decide, ?_⟩
  have h1 := Int.emod_nonneg k (show (11 : Int) ≠ 0 by decide)
  have h2 := Int.emod_lt_of_pos k (show (0 : Int) < 11 by decide)
  obtain ⟨p, hp, hmem⟩ := atI_in (xs := [PyData.int 99991, .int 99989, .int 99971, .int 99961, .int 99929, .int 99923, .int 99907, .int 99901, .int 99881, .int 99877, .int 99871]) (i := k % 11) h1 (by simpa using h2)
  obtain ⟨q, rfl, q1, q2⟩ : ∃ q : Int, p = .int q ∧ 0 < q ∧ q ≤ 100000 := by
    simp only [List.mem_cons, List.not_mem_nil, or_false] at hmem
    rcases hmem with rfl | rfl | rfl | rfl | rfl | rfl | rfl | rfl | rfl | rfl | rfl <;> exact ⟨_, rfl, by decide, by decide⟩
  refine ⟨_, hp, q1, ?_⟩
  generalize (c + 7 * k) * 48271 = z
  have h3 := Int.emod_nonneg z (show q ≠ 0 by omega)
  have h4 := Int.emod_lt_of_pos z q1
  exact ⟨.inl ⟨by omega, by omega⟩, .inr ⟨by decide, by decide⟩, by decide, hm, h _ (Int.emod_nonneg _ (by omega)) (Int.emod_lt_of_pos _ hm)⟩
structure MakeOk (ms : List Int) : Prop where
  l0 : 1 ≤ ms.length
  l1 : ms.length ≤ 4
  num : ∀ x ∈ ms, 0 ≤ x ∧ x ≤ 9999
theorem w_law_make (c k : Int) (P : PyData → Prop) (h : ∀ ms, MakeOk ms → P (.tuple (ms.map .int))) : W_law_make [.int c, .int k] P := by
  unfold W_law_make t_law_make
  walk_at "dl"
  refine w_law_mixed _ _ _ (by decide) _ fun r h0 h1 => ?_
  refine ⟨⟨by omega, by omega⟩, ?_⟩
  refine forD_ix (fun i ρ => ∃ (ms : List Int) (y3 y4 : Option Sl), ρ = [some (.dat (.int c)), some (.dat (.int k)), some (.own (.list (ms.map .int))), y3, y4] ∧ ms.length = i ∧ ∀ x ∈ ms, 0 ≤ x ∧ x ≤ 9999) ⟨[], none, none, rfl, rfl, fun _ h => nomatch h⟩ ?_ ?_
  · rintro i x hx ρ N ⟨ms, y3, y4, rfl, hl, hm⟩ hN
    obtain ⟨rfl, hi⟩ := range_get hx
    walk_at "dl"
    refine w_law_mixed _ _ _ (by decide) _ fun a a0 a1 => w_law_mixed _ _ _ (by decide) _ fun b b0 b1 => w_law_mixed _ _ _ (by decide) _ fun d d0 d1 => ?_
    obtain ⟨v, hv, hmem⟩ := atI_in (xs := [PyData.int 0, .int 1, .int 2, .int 9, .int 9998, .int 9999, .int a, .int b]) (i := d) d0 (by simpa using d1)
    obtain ⟨z, rfl, z0, z1⟩ : ∃ z : Int, v = .int z ∧ 0 ≤ z ∧ z ≤ 9999 := by
      simp only [List.mem_cons, List.not_mem_nil, or_false] at hmem
      rcases hmem with rfl | rfl | rfl | rfl | rfl | rfl | rfl | rfl <;> exact ⟨_, rfl, by omega, by omega⟩
    refine ⟨_, hv, by rw [sizeLine_eq]; omega, hN _ ⟨ms ++ [z], _, _, by rw [List.map_append]; rfl, by rw [List.length_append, hl]; rfl, fun x hx => ?_⟩⟩
    rcases List.mem_append.mp hx with q | q
    · exact hm x q
    · rw [List.mem_singleton.mp q]; exact ⟨z0, z1⟩
  · rintro ρ ⟨ms, y3, y4, rfl, hl, hm⟩
    rw [range_len] at hl
    walk_at "dl"
    exact h ms ⟨by omega, by omega, hm⟩
/-- without the last 9999s -/
def strip (l : List Int) : List Int := (l.reverse.dropWhile (· == 9999)).reverse
theorem strip_hit (l : List Int) : strip (l ++ [9999]) = strip l := by
  unfold strip
  rw [List.reverse_append]
  rfl
theorem strip_miss (l : List Int) {x : Int} (h : x ≠ 9999) : strip (l ++ [x]) = l ++ [x] := by
  unfold strip
  have e : (x == 9999) = false := beq_eq_false_iff_ne.mpr h
  rw [List.reverse_append, List.reverse_singleton, List.singleton_append, List.dropWhile_cons, e]
  simp
theorem strip_len (l : List Int) : (strip l).length ≤ l.length := by
  unfold strip
  rw [List.length_reverse]
  have := (List.dropWhile_sublist (p := (· == 9999)) (l := l.reverse)).length_le
  rwa [List.length_reverse] at this
def lastUp (l : List Int) : PyData := match l.reverse with
  | [] => .none
  | x :: r => .tuple ((r.reverse ++ [x + 1]).map .int)
theorem lastUp_snoc (a : List Int) (x : Int) : lastUp (a ++ [x]) = .tuple ((a ++ [x + 1]).map .int) := by simp [lastUp]
def nextM (m : List Int) : PyData := if m.length < 4 then .tuple ((m ++ [0]).map .int) else lastUp (strip m)
/-! ### is_make, next_make -/
def numB : PyData → Bool
  | .int i => decide (0 ≤ i) && decide (i ≤ 9999)
  | _ => false
theorem w_is_number (d : PyData) (P : PyData → Prop) (h : P (.bool (numB d))) : W_is_number [d] P := by
  unfold W_is_number t_is_number
  walk_at "dl"
  cases d with
  | int i =>
    by_cases h0 : 0 ≤ i
    · simpa [oIsi, isTy, oLe, truD, numB, c_MOST_NUMBER, h0] using h
    · simpa [oIsi, isTy, oLe, truD, numB, c_MOST_NUMBER, h0] using h
  | _ => simpa [oIsi, isTy, truD, numB] using h
def makeB : PyData → Bool
  | .tuple ds => decide (1 ≤ ds.length) && decide (ds.length ≤ 4) && ds.all numB
  | _ => false
theorem w_is_make (d : PyData) (P : PyData → Prop) (h : P (.bool (makeB d))) : W_is_make [d] P := by
  unfold W_is_make t_is_make
  walk_at "dl"
  cases d with
  | tuple ds =>
    by_cases h1 : (1 : Int) ≤ ds.length
    · by_cases h2 : (ds.length : Int) ≤ 4
      · simp only [oIsi, isTy, truD, fLen, oLe, c_MOST_NUMBERS, h1, h2, List.any_cons, List.any_nil, decide_true, Bool.not_true, Bool.or_false]
        refine compD_map (fun d => .bool (numB d)) (fun x hx K1 K2 hk => w_is_number x _ hk) ?_
        refine ⟨_, bools_map numB ds, ?_⟩
        have e : makeB (.tuple ds) = (ds.map numB).all id := by
          rw [makeB, decide_eq_true (by omega), decide_eq_true (by omega), List.all_map]
          rfl
        rw [← e]
        exact h
      · have e : makeB (.tuple ds) = false := by
          rw [makeB, decide_eq_false (p := ds.length ≤ 4) (by omega), Bool.and_false, Bool.false_and]
        rw [e] at h
        simpa [oIsi, isTy, truD, fLen, oLe, c_MOST_NUMBERS, h1, h2] using h
    · have e : makeB (.tuple ds) = false := by
        rw [makeB, decide_eq_false (p := 1 ≤ ds.length) (by omega), Bool.false_and, Bool.false_and]
      rw [e] at h
      simpa [oIsi, isTy, truD, fLen, oLe, c_MOST_NUMBERS, h1] using h
  | _ => simpa [oIsi, isTy, truD, makeB] using h
/-! ### pieces and bounds -/
theorem makeB_inv {d : PyData} (h : makeB d = true) : ∃ ms, d = .tuple (ms.map .int) ∧ MakeOk ms := by
  cases d with
  | tuple ds =>
    have h' : (decide (1 ≤ ds.length) && decide (ds.length ≤ 4) && ds.all numB) = true := h
    simp only [Bool.and_eq_true, decide_eq_true_eq] at h'
    obtain ⟨⟨h1, h2⟩, h3⟩ := h'
    have gen : ∀ l : List PyData, l.all numB = true → ∃ ms : List Int, l = ms.map .int ∧ ∀ x ∈ ms, 0 ≤ x ∧ x ≤ 9999 := by
      intro l
      induction l with
      | nil => exact fun _ => ⟨[], rfl, fun _ h => nomatch h⟩
      | cons a l ih =>
        intro hl
        rw [List.all_cons, Bool.and_eq_true] at hl
        obtain ⟨ms, rfl, hm⟩ := ih hl.2
        cases a with
        | int i =>
          have hi : (decide (0 ≤ i) && decide (i ≤ 9999)) = true := hl.1
          rw [Bool.and_eq_true, decide_eq_true_eq, decide_eq_true_eq] at hi
          exact ⟨i :: ms, rfl, fun x hx => by
            rcases List.mem_cons.mp hx with rfl | hx
            · exact hi
            · exact hm x hx⟩
        | _ => exact absurd hl.1 (by simp [numB])
    obtain ⟨ms, rfl, hm⟩ := gen ds h3
    exact ⟨ms, rfl, by simpa using h1, by simpa using h2, hm⟩
  | _ => exact absurd h (by simp [makeB])
theorem oLt_make {a b : PyData} (ha : makeB a = true) (hb : makeB b = true) (P : PyData → Prop) : oLt a b P = P (.bool (PySem.W.dataLt a b)) := by
  obtain ⟨ms, rfl, _⟩ := makeB_inv ha
  obtain ⟨ns, rfl, _⟩ := makeB_inv hb
  rw [oLt_tup, lt_ints]
def pieceB : PyData → Bool
  | .tuple [a, b] => makeB a && (isNone b || (makeB b && PySem.W.dataLt a b))
  | _ => false
theorem pair_cases (ds : List PyData) : (∃ a b, ds = [a, b]) ∨ ds.length ≠ 2 := by
  match ds with
  | [a, b] => exact .inl ⟨a, b, rfl⟩
  | [] => exact .inr (by simp)
  | [_] => exact .inr (by simp)
  | _ :: _ :: _ :: _ => exact .inr (by simp)
theorem pieceB_len {ds : List PyData} (h : ds.length ≠ 2) : pieceB (.tuple ds) = false := by
  match ds with
  | [a, b] => exact absurd rfl h
  | [] => rfl
  | [_] => rfl
  | _ :: _ :: _ :: _ => rfl
theorem oIx_0 (a b : PyData) (P : PyData → Prop) (h : P a) : oIx (.tuple [a, b]) (.int 0) P := oIx_atT (by decide) rfl h
theorem oIx_1 (a b : PyData) (P : PyData → Prop) (h : P b) : oIx (.tuple [a, b]) (.int 1) P := oIx_atT (by decide) rfl h
theorem w_is_piece (d : PyData) (P : PyData → Prop) (h : P (.bool (pieceB d))) : W_is_piece [d] P := by
  unfold W_is_piece t_is_piece
  walk_at "dl"
  cases d with
  | tuple ds =>
    simp only [oIsi, isTy, List.any_cons, List.any_nil, Bool.or_false, truD_bool]
    walk_at "dl"
    rcases pair_cases ds with ⟨a, b, rfl⟩ | hl
    · rw [show decide (((([a, b] : List PyData).length : Nat) : Int) = 2) = true from rfl]
      walk_at "dl"
      refine oIx_0 a b _ (w_is_make a _ ?_)
      have e : pieceB (.tuple [a, b]) = (makeB a && (isNone b || (makeB b && PySem.W.dataLt a b))) := rfl
      rw [e] at h
      cases ha : makeB a with
      | false =>
        rw [ha] at h
        walk_at "dl"
        exact h
      | true =>
        rw [ha, Bool.true_and] at h
        walk_at "dl"
        refine oIx_1 a b _ ?_
        cases hn : isNone b with
        | true =>
          rw [hn] at h
          cases b with
          | none => walk_at "dl"; exact h
          | _ => cases hn
        | false =>
          rw [hn, Bool.false_or] at h
          refine oIx_1 a b _ (w_is_make b _ ?_)
          cases hb : makeB b with
          | false =>
            rw [hb] at h
            walk_at "dl"
            exact h
          | true =>
            rw [hb, Bool.true_and] at h
            walk_at "dl"
            refine oIx_0 a b _ (oIx_1 a b _ ?_)
            rw [oLt_make ha hb]
            exact h
    · rw [decide_eq_false (by omega)]
      walk_at "dl"
      rw [pieceB_len hl] at h
      exact h
  | _ => simpa [oIsi, isTy, truD, pieceB] using h

/-- the end of a piece is ahead of the next one's low -/
def stepB : PyData → PyData → Bool
  | .tuple [_, h], .tuple [l, _] => !isNone h && PySem.W.dataLt h l
  | _, _ => false
def stepsB (ds : List PyData) : Bool := (List.range (ds.length - 1)).all fun j => stepB (ds.getD j .none) (ds.getD (j + 1) .none)
def boundB (m : Nat) : PyData → Bool
  | .tuple ds => decide (ds.length ≤ m) && ds.all pieceB && stepsB ds
  | _ => false
theorem boundB_tup (m : Nat) (ds : List PyData) : boundB m (.tuple ds) = (decide (ds.length ≤ m) && ds.all pieceB && stepsB ds) := rfl
theorem pieceB_inv {d : PyData} (h : pieceB d = true) : ∃ a b, d = .tuple [a, b] ∧ makeB a = true ∧ (b = .none ∨ (isNone b = false ∧ makeB b = true ∧ PySem.W.dataLt a b = true)) := by
  cases d with
  | tuple ds =>
    rcases pair_cases ds with ⟨a, b, rfl⟩ | hl
    · have e : pieceB (.tuple [a, b]) = (makeB a && (isNone b || (makeB b && PySem.W.dataLt a b))) := rfl
      rw [e, Bool.and_eq_true] at h
      refine ⟨a, b, rfl, h.1, ?_⟩
      cases hn : isNone b with
      | true => cases b <;> first | exact .inl rfl | cases hn
      | false =>
        have h2 := h.2
        rw [hn, Bool.false_or, Bool.and_eq_true] at h2
        exact .inr ⟨rfl, h2⟩
    · rw [pieceB_len hl] at h; cases h
  | _ => cases h
theorem w_is_bound (d : PyData) (P : PyData → Prop) (h : P (.bool (boundB 16 d))) : W_is_bound [d] P := by
  unfold W_is_bound t_is_bound
  walk_at "dl"
  cases d with
  | tuple ds =>
    simp only [oIsi, isTy, List.any_cons, List.any_nil, Bool.or_false, truD_bool, c_MOST_PIECES]
    walk_at "dl"
    rw [boundB_tup] at h
    by_cases h1 : (16 : Int) < ds.length
    · rw [decide_eq_true h1]
      rw [decide_eq_false (p := ds.length ≤ 16) (by omega), Bool.false_and, Bool.false_and] at h
      exact h
    · rw [decide_eq_false h1]
      rw [decide_eq_true (p := ds.length ≤ 16) (by omega), Bool.true_and] at h
      walk_at "dl"
      refine compD_map (fun d => .bool (pieceB d)) (fun x hx K1 K2 hk => by walk_at "dl"; exact w_is_piece x _ hk) ?_
      refine ⟨_, bools_map pieceB ds, ?_⟩
      rw [List.all_map]
      cases h2 : ds.all pieceB with
      | false =>
        rw [show ds.all (id ∘ pieceB) = false from h2]
        rw [h2, Bool.false_and] at h
        exact h
      | true =>
        rw [show ds.all (id ∘ pieceB) = true from h2]
        rw [h2, Bool.true_and] at h
        have pc : ∀ j (hj : j < ds.length), ∃ a b, ds[j] = .tuple [a, b] ∧ makeB a = true ∧ (b = .none ∨ (isNone b = false ∧ makeB b = true ∧ PySem.W.dataLt a b = true)) := fun j hj => pieceB_inv (List.all_eq_true.mp h2 _ (List.getElem_mem hj))
        walk_at "dl"
        refine ⟨⟨by omega, by omega, by omega, by omega, by omega⟩, ?_⟩
        refine forD_ix (fun i ρ => (∃ y, ρ = [some (.dat (.tuple ds)), none, y]) ∧ ∀ j, j < i → stepB (ds.getD j .none) (ds.getD (j + 1) .none) = true) ⟨⟨_, rfl⟩, fun j hj => absurd hj (Nat.not_lt_zero _)⟩ ?_ ?_
        · rintro i x hx ρ N ⟨⟨y, rfl⟩, hi⟩ hN
          obtain ⟨rfl, hlt⟩ := range_get hx
          have l1 : i < ds.length := by omega
          have l2 : i + 1 < ds.length := by omega
          obtain ⟨a, b, e1, ma, hb⟩ := pc i l1
          obtain ⟨a', b', e2, ma', hb'⟩ := pc (i + 1) l2
          have g1 : ds[(((1 : Int) + (i : Int)) - 1).toNat]? = some (.tuple [a, b]) := by
            rw [show (((1 : Int) + (i : Int)) - 1).toNat = i by omega, List.getElem?_eq_getElem l1, e1]
          have g2 : ds[((1 : Int) + (i : Int)).toNat]? = some (.tuple [a', b']) := by
            rw [show ((1 : Int) + (i : Int)).toNat = i + 1 by omega, List.getElem?_eq_getElem l2, e2]
          have es : stepB (ds.getD i .none) (ds.getD (i + 1) .none) = (!isNone b && PySem.W.dataLt b a') := by
            rw [List.getD_eq_getElem?_getD, List.getD_eq_getElem?_getD, List.getElem?_eq_getElem l1, List.getElem?_eq_getElem l2, e1, e2]
            rfl
          have bad : (!isNone b && PySem.W.dataLt b a') = false → stepsB ds = false := fun hb0 => by
            unfold stepsB
            refine Bool.eq_false_iff.mpr fun q => ?_
            have := List.all_eq_true.mp q i (List.mem_range.mpr (by omega))
            rw [es, hb0] at this
            cases this
          unfold t_is_bound_1
          walk_at "dl"
          refine oIx_atT (by omega) g1 (oIx_1 a b _ ?_)
          rcases hb with rfl | ⟨hn, mb, _⟩
          · walk_at "dl"
            rw [← bad rfl]
            exact h
          · rw [hn] at bad es
            walk_at "dl"
            rw [hn]
            walk_at "dl"
            refine oIx_atT (by omega) g1 (oIx_1 a b _ (oIx_atT (by omega) g2 (oIx_0 a' b' _ ?_)))
            rw [oLt_make mb ma']
            cases hc : PySem.W.dataLt b a' with
            | false =>
              walk_at "dl"
              rw [← bad (by rw [hc]; rfl)]
              exact h
            | true =>
              walk_at "dl"
              refine hN _ ⟨⟨_, rfl⟩, fun j hj => ?_⟩
              rcases Nat.lt_succ_iff_lt_or_eq.mp hj with q | q
              · exact hi j q
              · subst q
                rw [es, hc]
                rfl
        · rintro ρ ⟨⟨y, rfl⟩, hi⟩
          rw [range_len] at hi
          walk_at "dl"
          have e : stepsB ds = true := List.all_eq_true.mpr fun j hj => hi j (by have := List.mem_range.mp hj; omega)
          rw [← e]
          exact h
  | _ => simpa [oIsi, isTy, truD, boundB] using h
abbrev Pc := List Int × Option (List Int)
def mk (l : List Int) : PyData := .tuple (l.map .int)
def encH : Option (List Int) → PyData
  | none => .none
  | some h => mk h
def encP (p : Pc) : PyData := .tuple [mk p.1, encH p.2]
structure PcOk (p : Pc) : Prop where
  lo : MakeOk p.1
  hi : ∀ h, p.2 = some h → MakeOk h
def inP (m : List Int) (p : Pc) : Bool := !PySem.W.listLt m p.1 && (match p.2 with
  | none => true
  | some h => PySem.W.listLt m h)
theorem oLe_tup (xs ys : List Int) (P : PyData → Prop) (h : P (.bool (!PySem.W.listLt ys xs))) : oLe (mk xs) (mk ys) P := ⟨xs, ys, rfl, rfl, h⟩
theorem oLt_mk (xs ys : List Int) (P : PyData → Prop) : oLt (mk xs) (mk ys) P = P (.bool (PySem.W.listLt xs ys)) := oLt_tup xs ys
theorem isNone_mk (h : List Int) : isNone (mk h) = false := rfl
theorem w_holds (bs : List Pc) (m : List Int) (P : PyData → Prop) (h : P (.bool (bs.any (inP m)))) : W_holds [.tuple (bs.map encP), mk m] P := by
  unfold W_holds t_holds
  walk_at "dl"
  refine compD_mapE encP (fun p => .bool (inP m p)) (fun p hp K1 K2 hk => ?_) ?_
  · obtain ⟨lo, hi⟩ := p
    unfold inP at hk
    unfold encP
    walk_at "dl"
    refine oLe_tup lo m _ ?_
    walk_at "dl"
    cases hc : PySem.W.listLt m lo with
    | true =>
      rw [hc] at hk
      walk_at "dl"
      exact hk
    | false =>
      rw [hc] at hk
      walk_at "dl"
      cases hi with
      | none =>
        simp only [encH]
        walk_at "dl"
        exact hk
      | some v =>
        simp only [encH, isNone_mk]
        walk_at "dl"
        rw [oLt_mk]
        exact hk
  · refine ⟨_, bools_map (inP m) bs, ?_⟩
    rw [List.any_map]
    exact h
theorem inP_none (m lo : List Int) : inP m (lo, none) = !PySem.W.listLt m lo := by
  show (_ && true) = _
  rw [Bool.and_true]
theorem inP_some (m lo v : List Int) : inP m (lo, some v) = (!PySem.W.listLt m lo && PySem.W.listLt m v) := rfl
theorem encP_eq (lo : List Int) (hi : Option (List Int)) : encP (lo, hi) = .tuple [mk lo, encH hi] := rfl
theorem w_law_in (bs : List Pc) (m : List Int) (P : PyData → Prop) (h : P (.bool (bs.any (inP m)))) : W_law_in [.tuple (bs.map encP), mk m] P := by
  unfold W_law_in t_law_in
  walk_at "dl"
  generalize hB : PyData.tuple (bs.map encP) = B
  refine forD_preE encP (fun q ρ => q.any (inP m) = false ∧ ∃ y2 y3, ρ = [some (.dat B), some (.dat (mk m)), y2, y3]) ⟨rfl, _, _, rfl⟩ ?_ ?_
  · rintro p z q hx ρ N ⟨hok, y2, y3, rfl⟩ hN
    have hm : z ∈ bs := by rw [hx]; simp
    have step : inP m z = true → P (.bool true) := fun hz => by
      have : bs.any (inP m) = true := List.any_eq_true.mpr ⟨z, hm, hz⟩
      rw [← this]; exact h
    have go : inP m z = false → ∀ y2 y3, N [some (.dat B), some (.dat (mk m)), y2, y3] := fun hz y2 y3 => hN _ ⟨by rw [List.any_append, hok, List.any_cons, hz]; rfl, y2, y3, rfl⟩
    obtain ⟨lo, hi⟩ := z
    rw [encP_eq]
    walk_at "dl"
    refine oLe_tup lo m _ ?_
    walk_at "dl"
    cases hi with
    | none =>
      rw [inP_none] at step go
      simp only [encH]
      cases hc : PySem.W.listLt m lo with
      | true =>
        rw [hc] at go
        walk_at "dl"
        exact go rfl _ _
      | false =>
        rw [hc] at step
        walk_at "dl"
        exact step rfl
    | some v =>
      rw [inP_some] at step go
      simp only [encH, isNone_mk]
      cases hc : PySem.W.listLt m lo with
      | true =>
        rw [hc] at go
        walk_at "dl"
        exact go rfl _ _
      | false =>
        rw [hc] at step go
        walk_at "dl"
        rw [oLt_mk]
        cases hd : PySem.W.listLt m v with
        | true =>
          rw [hd] at step
          walk_at "dl"
          exact step rfl
        | false =>
          rw [hd] at go
          walk_at "dl"
          exact go rfl _ _
  · rintro ρ ⟨hq, y2, y3, rfl⟩
    walk_at "dl"
    rw [hq] at h
    exact h
theorem w_law_ends (bs : List Pc) (hb : ∀ p ∈ bs, PcOk p) (hl : bs.length ≤ 100) (P : PyData → Prop) (h : ∀ es : List (List Int), es.length ≤ 1 + 2 * bs.length → (∀ e ∈ es, MakeOk e) → P (.list (es.map mk))) : W_law_ends [.list [.tuple (bs.map encP)]] P := by
  unfold W_law_ends t_law_ends
  walk_at "dl"
  generalize hB : PyData.tuple (bs.map encP) = B
  have z0 : MakeOk [0] := ⟨by decide, by decide, fun x hx => by rw [List.mem_singleton.mp hx]; decide⟩
  simp only [forD]
  walk_at "dl"
  unfold t_law_ends_2
  subst hB
  walk_at "dl"
  generalize hB : PyData.tuple (bs.map encP) = B
  refine forD_preE encP (fun q ρ => ∃ (es : List (List Int)) (y3 y4 : Option Sl), ρ = [some (.dat (.list [B])), some (.own (.list (es.map mk))), some (.dat B), y3, y4] ∧ es.length ≤ 1 + 2 * q.length ∧ ∀ e ∈ es, MakeOk e) ⟨[[0]], _, _, rfl, by simp, fun e he => by rw [List.mem_singleton.mp he]; exact z0⟩ ?_ ?_
  · rintro p z q hx ρ N ⟨es, y3, y4, rfl, hes, hm⟩ hN
    have hz : z ∈ bs := by rw [hx]; simp
    have hlen := congrArg List.length hx
    simp only [List.length_append, List.length_cons] at hlen
    obtain ⟨lo, hi⟩ := z
    obtain ⟨g1, g2⟩ := hb _ hz
    rw [encP_eq]
    unfold t_law_ends_1
    walk_at "dl"
    refine ⟨by rw [sizeLine_eq]; omega, ?_⟩
    have add : ∀ e ∈ es ++ [lo], MakeOk e := fun e he => by
      rcases List.mem_append.mp he with q | q
      · exact hm e q
      · rw [List.mem_singleton.mp q]; exact g1
    cases hi with
    | none =>
      simp only [encH]
      walk_at "dl"
      exact hN _ ⟨es ++ [lo], _, _, by rw [List.map_append]; rfl, by simp; omega, add⟩
    | some v =>
      simp only [encH, isNone_mk]
      walk_at "dl"
      refine ⟨by rw [List.length_append, List.length_map, sizeLine_eq]; simp; omega, hN _ ⟨es ++ [lo] ++ [v], _, _, by rw [List.map_append, List.map_append]; rfl, by simp; omega, fun e he => ?_⟩⟩
      rcases List.mem_append.mp he with q | q
      · exact add e q
      · rw [List.mem_singleton.mp q]; exact g2 v rfl
  · rintro ρ ⟨es, y3, y4, rfl, hes, hm⟩
    walk_at "dl"
    exact h es hes hm
theorem w_law_many (n : Int) (h0 : 0 ≤ n) (h1 : n ≤ 20) (P : PyData → Prop) (h : ∀ d, P d) : W_law_many [.int n] P := by
  unfold W_law_many t_law_many
  walk_at "dl"
  refine ⟨⟨by omega, by omega⟩, ?_⟩
  refine compD_rel (fun _ _ => True) (fun x hx K1 K2 hk => ?_) fun ys _ => h _
  obtain ⟨i, hi⟩ := List.getElem?_of_mem hx
  obtain ⟨rfl, hlt⟩ := range_get hi
  walk_at "dl"
  refine ⟨.inl ⟨by decide, by decide⟩, ?_⟩
  walk_at "dl"
  exact ⟨.inl ⟨by decide, by decide⟩, hk _ trivial⟩
theorem cutD_le {α : Type} (xs : List α) (lo hi : Option Int) : (cutD xs lo hi).length ≤ xs.length := by
  unfold cutD
  rw [List.length_take, List.length_drop]
  omega
theorem mk_deep (l : List Int) : noDict (mk l) = true ∧ (mk l).depth ≤ 1 := deep_tup fun d hd => by
  obtain ⟨i, _, rfl⟩ := List.mem_map.mp hd
  exact ⟨rfl, by simp [PyData.depth]⟩
theorem encP_deep (p : Pc) : noDict (encP p) = true ∧ (encP p).depth ≤ 2 := deep_tup fun d hd => by
  rcases List.mem_cons.mp hd with rfl | hd
  · exact mk_deep _
  · rw [List.mem_singleton.mp hd]
    cases p.2 with
    | none => exact ⟨rfl, by simp [encH, PyData.depth]⟩
    | some h => exact mk_deep h
theorem bound_flat (bs : List Pc) : Flat (.tuple (bs.map encP)) := flat_tup fun d hd => by
  obtain ⟨p, _, rfl⟩ := List.mem_map.mp hd
  exact ⟨(encP_deep p).1, Nat.le_trans (encP_deep p).2 (by decide)⟩
theorem rep2 (xs : List PyData) : (List.replicate (2 : Int).toNat xs).flatten = xs ++ xs := by
  show (List.replicate 2 xs).flatten = _
  simp [List.replicate]
theorem w_law_changed (bs : List Pc) (hb : ∀ p ∈ bs, PcOk p) (hl : bs.length ≤ 100) (c : Int) (P : PyData → Prop) (h : ∀ d, P d) : W_law_changed [.tuple (bs.map encP), .int c] P := by
  unfold W_law_changed t_law_changed
  have lz : (bs.map encP).length ≤ 100 := by rw [List.length_map]; exact hl
  walk_at "dl"
  simp only [sizeLine_eq, oRev]
  walk_at "dl"
  refine ⟨by omega, by omega, by omega, ?_⟩
  rw [oNe_nilT (bound_flat bs)]
  cases bs with
  | nil =>
    walk_at "dl"
    exact w_law_mixed _ _ _ (by decide) _ fun r r0 r1 => oIx_inL r0 (by simpa using r1) fun z _ => h z
  | cons p bs =>
    obtain ⟨lo, hi⟩ := p
    have ⟨g1, g2⟩ := hb _ List.mem_cons_self
    have c1 := cutD_le (((lo, hi) :: bs).map encP) (some 1) none
    have c2 := cutD_le (((lo, hi) :: bs).map encP) none (some 1)
    have c3 := cutD_le (lo.map PyData.int) none (some 1)
    have l4 := g1.l1
    rw [List.length_map] at c3
    simp only [List.map_cons, List.isEmpty_cons, Bool.not_false, List.length_cons, List.length_map] at c1 c2 l4 hl ⊢
    refine oIx_atT (by decide) rfl ?_
    generalize hcu : cutD (encP (lo, hi) :: bs.map encP) (some 1) none = cu at c1 ⊢
    generalize hcv : cutD (encP (lo, hi) :: bs.map encP) none (some 1) = cv at c2 ⊢
    generalize hz : encP (lo, hi) = z
    rw [encP_eq] at hz
    subst hz
    walk_at "dl"
    refine ⟨by omega, by omega, by omega, by omega, by omega, ?_⟩
    unfold mk
    walk_at "dl"
    refine ⟨by rw [sizeLine_eq]; omega, by omega, by omega, ?_⟩
    cases hi with
    | none =>
      simp only [encH]
      walk_at "dl"
      exact w_law_mixed _ _ _ (by decide) _ fun r r0 r1 => oIx_inL r0 (by simpa using r1) fun z _ => h z
    | some v =>
      have v4 := (g2 v rfl).l1
      simp only [encH, isNone_mk]
      unfold mk
      walk_at "dl"
      refine ⟨by rw [sizeLine_eq]; omega, ⟨by decide, by decide, by simp⟩, ?_⟩
      rw [rep2]
      walk_at "dl"
      refine ⟨by rw [sizeLine_eq]; omega, ?_⟩
      exact w_law_mixed _ _ _ (by decide) _ fun r r0 r1 => oIx_inL r0 (by simpa using r1) fun z _ => h z
theorem w_law_next (m : List Int) (hm : m.length ≤ 4) (P : PyData → Prop) (h : P (nextM m)) : W_law_next [.tuple (m.map .int)] P := by
  unfold W_law_next t_law_next
  unfold nextM at h
  walk_at "dl"
  by_cases hl : m.length < 4
  · rw [if_pos hl] at h
    rw [decide_eq_true (by omega)]
    exact ⟨by rw [sizeLine_eq]; omega, by simpa using h⟩
  · rw [if_neg hl] at h
    rw [decide_eq_false (by omega)]
    have loop : ∀ (n : Nat) (l : List Int) (D : DEnds), l.length = n → D.nx [some (.dat (.tuple (m.map .int))), some (.own (.list ((strip l).map .int)))] →
        ∃ k, whileD (tAnd (tVal (w2 oNe (wMut 1) (wApp fList aNil))) (tVal (w2 oEq (w2 oIx (wMut 1) (w1 oNeg (wC (.int 1)))) (wC (.int 9999))))) (dPop 1) D k [some (.dat (.tuple (m.map .int))), some (.own (.list (l.map .int)))] := by
      intro n
      induction n with
      | zero =>
        intro l D hl hd
        obtain rfl := List.eq_nil_of_length_eq_zero hl
        refine ⟨1, ?_⟩
        rw [whileD]
        walk_at "dl"
        exact hd
      | succ n ih =>
        intro l D hl hd
        rcases snoc_cases l with rfl | ⟨a, x, rfl⟩
        · cases hl
        · have ha : a.length = n := by simpa using hl
          by_cases hx : x = 9999
          · subst hx
            rw [strip_hit] at hd
            obtain ⟨k, hk⟩ := ih a D ha hd
            refine ⟨k + 1, ?_⟩
            rw [whileD]
            walk_at "dl"
            rw [decide_eq_false (by simp)]
            simp only [List.map_append, List.map_cons, List.map_nil]
            walk_at "dl"
            exact ⟨by simp, by rw [List.dropLast_concat]; exact hk⟩
          · rw [strip_miss a hx] at hd
            refine ⟨1, ?_⟩
            rw [whileD]
            walk_at "dl"
            rw [decide_eq_false (by simp)]
            simp only [List.map_append, List.map_cons, List.map_nil] at hd ⊢
            walk_at "dl"
            rw [decide_eq_false hx]
            exact hd
    refine loop _ m _ rfl ?_
    walk_at "dl"
    have hle := strip_len m
    rcases snoc_cases (strip m) with e | ⟨a, x, e⟩
    · rw [e] at h ⊢
      exact h
    · rw [e, lastUp_snoc] at h
      rw [e] at hle ⊢
      rw [decide_eq_false (by simp)]
      simp only [List.map_append, List.map_cons, List.map_nil] at h ⊢
      walk_at "dl"
      refine ⟨a.length, ?_, ?_⟩
      · simp only [L2.ixN, List.length_append, List.length_map, List.length_singleton]
        rw [if_neg (by decide), if_pos (by omega)]
        congr 1
        omega
      · rw [List.set_append_right _ _ (by simp)]
        simpa using h
theorem w_law_whole (d : PyData) (P : PyData → Prop) (h : P (.bool (match d with | .int _ => true | _ => false))) : W_law_whole [d] P := by
  unfold W_law_whole t_law_whole
  walk_at "dl"
  cases d <;> simpa [oIsi, isTy, truD] using h
theorem w_law_is_make (d : PyData) (P : PyData → Prop) (h : P (.bool (makeB d))) : W_law_is_make [d] P := by
  unfold W_law_is_make t_law_is_make
  walk_at "dl"
  cases d with
  | tuple ds =>
    by_cases h1 : (ds.length : Int) < 1
    · have e : makeB (.tuple ds) = false := by
        rw [makeB, decide_eq_false (p := 1 ≤ ds.length) (by omega), Bool.false_and, Bool.false_and]
      rw [e] at h
      simpa [oIsi, isTy, truD, fLen, oLt_int, h1] using h
    · by_cases h2 : 4 < (ds.length : Int)
      · have e : makeB (.tuple ds) = false := by
          rw [makeB, decide_eq_false (p := ds.length ≤ 4) (by omega), Bool.and_false, Bool.false_and]
        rw [e] at h
        simpa [oIsi, isTy, truD, fLen, oLt_int, oGt_int, h1, h2] using h
      · simp only [oIsi, isTy, truD, fLen, oLt_int, oGt_int, h1, h2, List.any_cons, List.any_nil, decide_true, decide_false, Bool.not_true, Bool.or_false]
        refine compD_map (fun d => .bool (numB d)) (fun x hx K1 K2 hk => w_law_whole x _ ?_) ?_
        · cases x with
          | int i =>
            walk_at "dl"
            by_cases h0 : 0 ≤ i
            · simpa [truD, h0, numB] using hk
            · simpa [truD, h0, numB] using hk
          | _ => simpa [wAnd, truD, numB] using hk
        · refine ⟨_, bools_map numB ds, ?_⟩
          have e : makeB (.tuple ds) = (ds.map numB).all id := by
            rw [makeB, decide_eq_true (by omega), decide_eq_true (by omega), List.all_map]
            rfl
          rw [← e]
          exact h
  | _ => simpa [oIsi, isTy, truD, makeB] using h
theorem numB_ok {ms : List Int} (h : MakeOk ms) : makeB (.tuple (ms.map .int)) = true := by
  rw [makeB, List.length_map, decide_eq_true h.l0, decide_eq_true h.l1, List.all_map, Bool.true_and, Bool.true_and]
  refine List.all_eq_true.mpr fun x hx => ?_
  obtain ⟨h0, h1⟩ := h.num x hx
  simp [numB, h0, h1]

theorem strip_tail (l : List Int) : ∃ k, l = strip l ++ List.replicate k 9999 := by
  suffices ∀ n (l : List Int), l.length = n → ∃ k, l = strip l ++ List.replicate k 9999 from this _ l rfl
  intro n
  induction n with
  | zero =>
    intro l hl
    obtain rfl := List.eq_nil_of_length_eq_zero hl
    exact ⟨0, rfl⟩
  | succ n ih =>
    intro l hl
    rcases snoc_cases l with rfl | ⟨a, x, rfl⟩
    · cases hl
    · by_cases hx : x = 9999
      · subst hx
        obtain ⟨k, hk⟩ := ih a (by simpa using hl)
        refine ⟨k + 1, ?_⟩
        rw [strip_hit, List.replicate_succ', ← List.append_assoc, ← hk]
      · exact ⟨0, by rw [strip_miss a hx]; simp⟩
/-- the next make: None, or a make that is greater -/
theorem nextM_ok (ms : List Int) (h : MakeOk ms) : nextM ms = .none ∨ ∃ ns, nextM ms = .tuple (ns.map .int) ∧ MakeOk ns ∧ PySem.W.listLt ms ns = true := by
  unfold nextM
  have l0 := h.l0
  by_cases hl : ms.length < 4
  · rw [if_pos hl]
    refine .inr ⟨_, rfl, ⟨by rw [List.length_append]; omega, by rw [List.length_append, List.length_singleton]; omega, fun x hx => ?_⟩, ?_⟩
    · rcases List.mem_append.mp hx with q | q
      · exact h.num x q
      · rw [List.mem_singleton.mp q]; decide
    · have := listLt_pre ms [] [0]
      rw [List.append_nil] at this
      rw [this]
      rfl
  · rw [if_neg hl]
    obtain ⟨k, hk⟩ := strip_tail ms
    rcases snoc_cases (strip ms) with e | ⟨a, x, e⟩
    · rw [e]
      exact .inl rfl
    · rw [e, lastUp_snoc]
      rw [e] at hk
      have hx : x ≠ 9999 := by
        intro q
        subst q
        have e2 := congrArg strip hk
        rw [e] at e2
        have : ∀ k, strip (a ++ [9999] ++ List.replicate k 9999) = strip a := by
          intro k
          induction k with
          | zero => rw [List.replicate_zero, List.append_nil, strip_hit]
          | succ k ih => rw [List.replicate_succ', ← List.append_assoc, strip_hit, ih]
        rw [this] at e2
        have := strip_len a
        rw [← e2, List.length_append, List.length_singleton] at this
        omega
      have hb := h.num x (by rw [hk]; simp)
      have ha : ∀ y ∈ a, 0 ≤ y ∧ y ≤ 9999 := fun y hy => h.num y (by rw [hk]; simp [hy])
      have hl2 := congrArg List.length hk
      simp only [List.length_append, List.length_singleton, List.length_replicate] at hl2
      have l1 := h.l1
      refine .inr ⟨_, rfl, ⟨by simp, by rw [List.length_append, List.length_singleton]; omega, fun y hy => ?_⟩, ?_⟩
      · rcases List.mem_append.mp hy with q | q
        · exact ha y q
        · rw [List.mem_singleton.mp q]; omega
      · rw [hk, List.append_assoc, listLt_pre, List.singleton_append, PySem.W.listLt, if_neg (by omega)]
        exact decide_eq_true (by omega)

/-- the state of the law's own look behind k pieces -/
def lastH (ds : List PyData) : Nat → PyData
  | 0 => .none
  | k + 1 => match ds.getD k .none with
    | .tuple [_, h] => h
    | _ => .none
theorem is_bound_tail (D : DEnds) (T y1 : Option Sl) (i : Nat) (a b last : PyData) (hl : 0 < i → last = .none ∨ (isNone last = false ∧ makeB last = true)) (ma : makeB a = true) (bad : 0 < i → (!isNone last && PySem.W.dataLt last a) = false → D.rt (.bool false))
    (go : (0 < i → (!isNone last && PySem.W.dataLt last a) = true) → D.nx [T, y1, some (.dat b), some (.dat (.int i)), some (.dat (.tuple [a, b]))]) :
    t_law_is_bound_1 D [T, y1, some (.dat last), some (.dat (.int i)), some (.dat (.tuple [a, b]))] := by
  unfold t_law_is_bound_1
  walk_at "dl"
  by_cases h0 : 0 < i
  · rw [decide_eq_true (p := (0 : Int) < i) (by omega)]
    walk_at "dl"
    rcases hl h0 with rfl | ⟨hn, ml⟩
    · walk_at "dl"
      exact bad h0 rfl
    · rw [hn]
      rw [hn] at bad go
      walk_at "dl"
      refine oIx_0 a b _ ?_
      rw [oLt_make ml ma]
      cases hc : PySem.W.dataLt last a with
      | false =>
        rw [hc] at bad
        walk_at "dl"
        exact bad h0 rfl
      | true =>
        rw [hc] at go
        walk_at "dl"
        exact oIx_1 a b _ (go fun _ => rfl)
  · rw [decide_eq_false (p := (0 : Int) < i) (by omega)]
    walk_at "dl"
    exact oIx_1 a b _ (go fun z => absurd z h0)
theorem w_law_is_bound (d : PyData) (P : PyData → Prop) (h : P (.bool (boundB 16 d))) : W_law_is_bound [d, .int 16] P := by
  unfold W_law_is_bound t_law_is_bound
  walk_at "dl"
  cases d with
  | tuple ds =>
    simp only [oIsi, isTy, List.any_cons, List.any_nil, Bool.or_false, truD_bool]
    walk_at "dl"
    rw [boundB_tup] at h
    by_cases h1 : (16 : Int) < ds.length
    · rw [decide_eq_true h1]
      rw [decide_eq_false (p := ds.length ≤ 16) (by omega), Bool.false_and, Bool.false_and] at h
      exact h
    · rw [decide_eq_false h1]
      rw [decide_eq_true (p := ds.length ≤ 16) (by omega), Bool.true_and] at h
      walk_at "dl"
      refine ⟨⟨by omega, by omega⟩, ?_⟩
      refine forD_ix (fun i ρ => (∃ y3 y4, ρ = [some (.dat (.tuple ds)), some (.dat (.int 16)), some (.dat (lastH ds i)), y3, y4]) ∧ (∀ j, j < i → pieceB (ds.getD j .none) = true) ∧ ∀ j, j + 1 < i → stepB (ds.getD j .none) (ds.getD (j + 1) .none) = true) ⟨⟨_, _, rfl⟩, fun j hj => absurd hj (Nat.not_lt_zero _), fun j hj => absurd hj (Nat.not_lt_zero _)⟩ ?_ ?_
      · rintro i x hx ρ N ⟨⟨y3, y4, rfl⟩, hp, hs⟩ hN
        obtain ⟨rfl, hlt⟩ := range_get hx
        have l1 : i < ds.length := by omega
        have gD : ds.getD i .none = ds[i] := by rw [List.getD_eq_getElem?_getD, List.getElem?_eq_getElem l1]; rfl
        have badP : pieceB ds[i] = false → P (.bool false) := fun hb => by
          have : ds.all pieceB = false := Bool.eq_false_iff.mpr fun q => by
            have := List.all_eq_true.mp q _ (List.getElem_mem l1)
            rw [hb] at this; cases this
          rw [this, Bool.false_and] at h
          exact h
        have g1 : ds[((0 : Int) + (i : Int)).toNat]? = some ds[i] := by
          rw [show ((0 : Int) + (i : Int)).toNat = i by omega, List.getElem?_eq_getElem l1]
        unfold t_law_is_bound_3
        walk_at "dl"
        refine oIx_atT (by omega) g1 ?_
        rw [show (0 : Int) + (i : Int) = (i : Int) by omega]
        generalize hdi : ds[i] = p at badP gD
        have fin : ∀ a b, p = .tuple [a, b] → pieceB p = true → makeB a = true → t_law_is_bound_1 ⟨N, P, fun ρ => P (.bool true), N⟩ [some (.dat (.tuple ds)), some (.dat (.int 16)), some (.dat (lastH ds i)), some (.dat (.int i)), some (.dat p)] := by
          rintro a b rfl hpb ma
          have pr : ∀ k, i = k + 1 → ∃ a' b', ds.getD k .none = .tuple [a', b'] ∧ (b' = .none ∨ (isNone b' = false ∧ makeB b' = true)) ∧ lastH ds i = b' := fun k e => by
            obtain ⟨a', b', e1, _, e3⟩ := pieceB_inv (hp k (by omega))
            refine ⟨a', b', e1, e3.imp id fun z => ⟨z.1, z.2.1⟩, ?_⟩
            subst e
            show (match ds.getD k .none with | .tuple [_, h] => h | _ => .none) = b'
            rw [e1]
          have st : ∀ k, i = k + 1 → stepB (ds.getD k .none) (ds.getD (k + 1) .none) = (!isNone (lastH ds i) && PySem.W.dataLt (lastH ds i) a) := fun k e => by
            obtain ⟨a', b', e1, _, e3⟩ := pr k e
            rw [e1, ← e, gD, e3]
            rfl
          refine is_bound_tail _ _ _ i a b _ (fun h0 => ?_) ma (fun h0 hb => ?_) fun ok => ?_
          · obtain ⟨k, rfl⟩ : ∃ k, i = k + 1 := ⟨i - 1, by omega⟩
            obtain ⟨a', b', e1, e2, e3⟩ := pr k rfl
            rw [e3]
            exact e2
          · obtain ⟨k, rfl⟩ : ∃ k, i = k + 1 := ⟨i - 1, by omega⟩
            have : stepsB ds = false := Bool.eq_false_iff.mpr fun q => by
              have := List.all_eq_true.mp q k (List.mem_range.mpr (by omega))
              rw [st k rfl, hb] at this
              cases this
            rw [this, Bool.and_false] at h
            exact h
          · refine hN _ ⟨⟨some (.dat (.int i)), some (.dat (.tuple [a, b])), ?_⟩, fun j hj => ?_, fun j hj => ?_⟩
            · have : lastH ds (i + 1) = b := by
                show (match ds.getD i .none with | .tuple [_, h] => h | _ => .none) = b
                rw [gD]
              rw [this]
            · rcases Nat.lt_succ_iff_lt_or_eq.mp hj with q | q
              · exact hp j q
              · rw [q, gD]; exact hpb
            · by_cases q : j + 1 < i
              · exact hs j q
              · have e : i = j + 1 := by omega
                rw [st j e]
                exact ok (by omega)
        cases p with
        | tuple ps =>
          simp only [oIsi, isTy, List.any_cons, List.any_nil, Bool.or_false, truD_bool]
          walk_at "dl"
          rcases pair_cases ps with ⟨a, b, rfl⟩ | hl2
          · rw [show decide (((([a, b] : List PyData).length : Nat) : Int) = 2) = true from rfl]
            have e : pieceB (.tuple [a, b]) = (makeB a && (isNone b || (makeB b && PySem.W.dataLt a b))) := rfl
            walk_at "dl"
            refine oIx_0 a b _ (w_law_is_make a _ ?_)
            rw [e] at badP
            cases ma : makeB a with
            | false =>
              rw [ma] at badP
              walk_at "dl"
              exact badP rfl
            | true =>
              rw [ma, Bool.true_and] at badP
              rw [ma, Bool.true_and] at e
              walk_at "dl"
              refine oIx_1 a b _ ?_
              cases hn : isNone b with
              | true =>
                walk_at "dl"
                exact fin a b rfl (by rw [e, hn]; rfl) ma
              | false =>
                rw [hn, Bool.false_or] at badP
                walk_at "dl"
                refine oIx_1 a b _ (w_law_is_make b _ ?_)
                cases mb : makeB b with
                | false =>
                  rw [mb] at badP
                  walk_at "dl"
                  exact badP rfl
                | true =>
                  rw [mb, Bool.true_and] at badP
                  walk_at "dl"
                  refine oIx_0 a b _ (oIx_1 a b _ ?_)
                  rw [oLt_make ma mb]
                  cases hc : PySem.W.dataLt a b with
                  | false =>
                    walk_at "dl"
                    exact badP hc
                  | true =>
                    walk_at "dl"
                    exact fin a b rfl (by rw [e, hn, mb, hc]; rfl) ma
          · rw [decide_eq_false (by omega)]
            exact badP (pieceB_len hl2)
        | _ => exact badP rfl
      · rintro ρ ⟨⟨y3, y4, rfl⟩, hp, hs⟩
        rw [range_len] at hp hs
        walk_at "dl"
        have e1 : ds.all pieceB = true := List.all_eq_true.mpr fun d hd => by
          obtain ⟨j, hj⟩ := List.getElem?_of_mem hd
          have lj := (List.getElem?_eq_some_iff.mp hj).1
          have := hp j (by omega)
          rw [List.getD_eq_getElem?_getD, hj] at this
          exact this
        have e2 : stepsB ds = true := List.all_eq_true.mpr fun j hj => hs j (by have := List.mem_range.mp hj; omega)
        rw [e1, e2] at h
        exact h
  | _ => simpa [oIsi, isTy, truD, boundB] using h
theorem keys_ints : ∀ l : List Int, NS.keysOf (l.map .int) = some (l.map NestedKey.num)
  | [] => rfl
  | x :: l => by rw [List.map_cons, NS.keysOf, keys_ints l]; rfl
theorem key_mk (l : List Int) : NS.keyOf (mk l) = some (.tup (l.map NestedKey.num)) := by
  unfold mk
  rw [NS.keyOf, keys_ints]
  rfl
/-- sorted(set(makes)) -/
theorem sort_makes (ms : List (List Int)) (hm : ∀ m ∈ ms, MakeOk m) (hl : ms.length ≤ 75) (P : PyData → Prop) (h : ∀ es : List (List Int), es.length ≤ ms.length → (∀ m ∈ es, MakeOk m) → P (.list (es.map mk))) : fSortSet [.list (ms.map mk)] P := by
  refine ⟨⟨fun d hd d' hd' => ?_, fun d hd => ?_, by rw [List.length_map]; exact hl⟩, fun es nd le mem => ?_⟩
  · obtain ⟨m, _, rfl⟩ := List.mem_map.mp hd
    obtain ⟨m', _, rfl⟩ := List.mem_map.mp hd'
    exact alike_ints m m'
  · obtain ⟨m, hmm, rfl⟩ := List.mem_map.mp hd
    refine ⟨?_, ⟨_, key_mk m⟩, Nat.le_trans (mk_deep m).2 (by decide), (mk_deep m).1⟩
    have := (hm m hmm).l0
    cases m with
    | nil => exact absurd this (by decide)
    | cons x r => exact ⟨_, _, rfl⟩
  · have perm := List.mergeSort_perm es (PySem.W.dataLe false id)
    have gen : ∀ l : List PyData, (∀ d ∈ l, ∃ m, d = mk m ∧ MakeOk m) → ∃ us : List (List Int), l = us.map mk ∧ ∀ m ∈ us, MakeOk m := by
      intro l
      induction l with
      | nil => exact fun _ => ⟨[], rfl, fun _ h => nomatch h⟩
      | cons d l ih =>
        intro hl
        obtain ⟨m, rfl, hm⟩ := hl d List.mem_cons_self
        obtain ⟨us, rfl, hu⟩ := ih fun e he => hl e (List.mem_cons_of_mem _ he)
        exact ⟨m :: us, rfl, fun z hz => by
          rcases List.mem_cons.mp hz with rfl | hz
          · exact hm
          · exact hu z hz⟩
    obtain ⟨us, e, hu⟩ := gen (sortD es) fun d hd => by
      obtain ⟨m, hmm, e⟩ := List.mem_map.mp ((mem d).mp (perm.mem_iff.mp hd))
      exact ⟨m, e.symm, hm m hmm⟩
    rw [e]
    refine h us ?_ hu
    have l1 := congrArg List.length e
    rw [List.length_map] at l1
    have l2 : (sortD es).length = es.length := perm.length_eq
    rw [List.length_map] at le
    omega
theorem encL_flat (bs : List Pc) : Flat (.list (bs.map encP)) := flat_lst fun d hd => by
  obtain ⟨p, _, rfl⟩ := List.mem_map.mp hd
  exact ⟨(encP_deep p).1, Nat.le_trans (encP_deep p).2 (by decide)⟩
theorem make0 : MakeOk [0] := ⟨by decide, by decide, fun x hx => by rw [List.mem_singleton.mp hx]; decide⟩
theorem nextM_enc (lo : List Int) (g : MakeOk lo) : ∃ z : Option (List Int), nextM lo = encH z ∧ ∀ v, z = some v → MakeOk v := by
  rcases nextM_ok lo g with e | ⟨ns, e, g2, _⟩
  · exact ⟨none, e, nofun⟩
  · exact ⟨some ns, e, fun v hv => by injection hv with hv; rw [← hv]; exact g2⟩
theorem bound_2 (c n : Int) (y2 : Option Sl) (bs : List Pc) (hl : bs.length ≤ 33) (hb : ∀ p ∈ bs, PcOk p) (P : PyData → Prop) (h : ∀ bs : List Pc, bs.length ≤ 40 → (∀ p ∈ bs, PcOk p) → P (.tuple (bs.map encP))) (y3 y4 : Option Sl) :
    t_law_bound_2 ⟨fun _ => P .none, P, fun _ => False, fun _ => False⟩ [some (.dat (.int c)), some (.dat (.int n)), y2, y3, y4, some (.own (.list (bs.map encP)))] := by
  unfold t_law_bound_2
  walk_at "dl"
  refine w_law_mixed _ _ _ (by decide) _ fun u u0 u1 => ?_
  walk_at "dl"
  by_cases e : u = 1
  · rw [decide_eq_true e]
    walk_at "dl"
    exact h [([0], none)] (by simp) fun p hp => by
      rw [List.mem_singleton.mp hp]
      exact ⟨make0, nofun⟩
  · rw [decide_eq_false e]
    walk_at "dl"
    exact h bs (by omega) hb
theorem bound_3 (c n : Int) (y2 : Option Sl) (bs : List Pc) (hl : bs.length ≤ 33) (hb : ∀ p ∈ bs, PcOk p) (P : PyData → Prop) (h : ∀ bs : List Pc, bs.length ≤ 40 → (∀ p ∈ bs, PcOk p) → P (.tuple (bs.map encP))) (y3 y4 : Option Sl) :
    t_law_bound_3 ⟨fun _ => P .none, P, fun _ => False, fun _ => False⟩ [some (.dat (.int c)), some (.dat (.int n)), y2, y3, y4, some (.own (.list (bs.map encP)))] := by
  unfold t_law_bound_3
  walk_at "dl"
  refine w_law_mixed _ _ _ (by decide) _ fun u u0 u1 => ?_
  walk_at "dl"
  by_cases e : u = 1
  · rw [decide_eq_true e]
    walk_at "dl"
    rw [oNe_nilL (encL_flat bs)]
    cases bs with
    | nil => exact bound_2 c n _ [] hl hb P h _ _
    | cons p bs =>
      obtain ⟨lo, hi⟩ := p
      have g := hb _ List.mem_cons_self
      refine oIx_atL (i := 0) (by decide) rfl ?_
      rw [encP_eq]
      refine oIx_0 _ _ _ ?_
      refine oIx_atL (i := 0) (by decide) rfl ?_
      rw [encP_eq]
      refine oIx_0 _ _ _ ?_
      refine w_law_next lo g.lo.l1 _ ?_
      obtain ⟨z, ez, hz⟩ : ∃ z : Option (List Int), nextM lo = encH z ∧ ∀ v, z = some v → MakeOk v := nextM_enc lo g.lo
      rw [ez]
      have := bound_2 c n y2 [(lo, z)] (by simp) (fun p hp => by rw [List.mem_singleton.mp hp]; exact ⟨g.lo, hz⟩) P h y3 y4
      exact this
  · rw [decide_eq_false e]
    exact bound_2 c n _ bs hl hb P h _ _
theorem bound_4 (c n : Int) (y2 : Option Sl) (bs : List Pc) (hl : bs.length ≤ 33) (hb : ∀ p ∈ bs, PcOk p) (P : PyData → Prop) (h : ∀ bs : List Pc, bs.length ≤ 40 → (∀ p ∈ bs, PcOk p) → P (.tuple (bs.map encP))) (y3 y4 : Option Sl) :
    t_law_bound_4 ⟨fun _ => P .none, P, fun _ => False, fun _ => False⟩ [some (.dat (.int c)), some (.dat (.int n)), y2, y3, y4, some (.own (.list (bs.map encP)))] := by
  unfold t_law_bound_4
  walk_at "dl"
  refine w_law_mixed _ _ _ (by decide) _ fun u u0 u1 => ?_
  walk_at "dl"
  by_cases e : u = 1
  · rw [decide_eq_true e]
    walk_at "dl"
    rw [oNe_nilL (encL_flat bs)]
    rcases snoc_cases bs with rfl | ⟨a, ⟨lo, hi⟩, rfl⟩
    · exact bound_3 c n _ [] hl hb P h _ _
    · have g := hb (lo, hi) (by simp)
      have ne : (List.map encP (a ++ [(lo, hi)])).isEmpty = false := by simp
      rw [ne]
      rw [List.map_append, List.map_cons, List.map_nil]
      walk_at "dl"
      rw [encP_eq]
      refine oIx_0 _ _ _ ?_
      refine ⟨a.length, ?_, ?_⟩
      · simp only [L2.ixN, List.length_append, List.length_map, List.length_singleton]
        rw [if_neg (by decide), if_pos (by omega)]
        congr 1
        omega
      · rw [List.set_append_right _ _ (by simp), List.length_map, Nat.sub_self, List.set_cons_zero]
        have := bound_3 c n y2 (a ++ [(lo, none)]) (by simpa using hl) (fun p hp => by
          rcases List.mem_append.mp hp with q | q
          · exact hb p (List.mem_append_left _ q)
          · rw [List.mem_singleton.mp q]; exact ⟨g.lo, nofun⟩) P h y3 y4
        rw [List.map_append] at this
        exact this
  · rw [decide_eq_false e]
    exact bound_3 c n _ bs hl hb P h _ _
theorem bound_5 (c n : Int) (es : List (List Int)) (hl : es.length ≤ 32) (hm : ∀ m ∈ es, MakeOk m) (P : PyData → Prop) (h : ∀ bs : List Pc, bs.length ≤ 40 → (∀ p ∈ bs, PcOk p) → P (.tuple (bs.map encP))) (y3 y4 : Option Sl) :
    t_law_bound_5 ⟨fun _ => P .none, P, fun _ => False, fun _ => False⟩ [some (.dat (.int c)), some (.dat (.int n)), some (.own (.list (es.map mk))), y3, y4, none] := by
  unfold t_law_bound_5
  walk_at "dl"
  have fin : ∀ (bs : List Pc) (y3 y4 : Option Sl), bs.length ≤ 33 → (∀ p ∈ bs, PcOk p) → t_law_bound_4 ⟨fun _ => P .none, P, fun _ => False, fun _ => False⟩ [some (.dat (.int c)), some (.dat (.int n)), some (.own (.list (es.map mk))), y3, y4, some (.own (.list (bs.map encP)))] := fun bs y3 y4 l hb => bound_4 c n _ bs l hb P h y3 y4
  unfold iRange3
  walk_at "dl"
  have sz : Builtin.Range.rangeSize 0 ((es.length : Int) - 1) 2 ≤ es.length ∧ ∀ j : Nat, j < (Builtin.Range.rangeSize 0 ((es.length : Int) - 1) 2).toNat → 2 * j + 1 < es.length := by
    unfold Builtin.Range.rangeSize
    rw [if_pos (by decide)]
    split
    · exact ⟨by omega, fun j hj => by omega⟩
    · exact ⟨by omega, fun j hj => by simp at hj⟩
  have sm : Builtin.Range.small 0 ((es.length : Int) - 1) 2 = true := by
    have := sz.1
    have := size_pos 0 ((es.length : Int) - 1) 2 (by decide)
    unfold Builtin.Range.small
    generalize Builtin.Range.rangeSize 0 ((es.length : Int) - 1) 2 = q at *
    simp only [Builtin.Range.rangeFitsLong, Bool.and_eq_true, Bool.or_eq_true, decide_eq_true_eq, beq_iff_eq, show ((2 : Int) > 0) = True by simp, if_true]
    omega
  refine ⟨⟨by decide, by decide, sm, by have := sz.1; omega⟩, ?_⟩
  refine compD_out encP PcOk (fun x hx K1 K2 hk => ?_) fun bs hbl hb => ?_
  · unfold rangeC at hx
    obtain ⟨j, hj, rfl⟩ := List.mem_map.mp hx
    have l2 := sz.2 j (List.mem_range.mp hj)
    walk_at "dl"
    have at_ : ∀ i (hi : i < es.length), (es.map mk)[i]? = some (mk es[i]) := fun i hi => by rw [List.getElem?_map, List.getElem?_eq_getElem hi]; rfl
    refine oIx_atL (i := 0 + (j : Int) * 2) (v := mk (es[2 * j]'(by omega))) (by omega) (by rw [show (0 + (j : Int) * 2).toNat = 2 * j by omega]; exact at_ _ _) ?_
    refine oIx_atL (i := 0 + (j : Int) * 2 + 1) (v := mk es[2 * j + 1]) (by omega) (by rw [show (0 + (j : Int) * 2 + 1).toNat = 2 * j + 1 by omega]; exact at_ _ _) ?_
    exact hk (es[2 * j]'(by omega), some es[2 * j + 1]) ⟨hm _ (List.getElem_mem _), fun h e => by injection e with e; rw [← e]; exact hm _ (List.getElem_mem _)⟩
  · have hbl2 : bs.length ≤ 32 := by
      rw [hbl]
      unfold rangeC
      rw [List.length_map, List.length_range]
      have := sz.1
      omega
    refine ⟨by decide, ?_⟩
    walk_at "dl"
    by_cases e : (es.length : Int) % 2 = 1
    · rw [decide_eq_true e]
      walk_at "dl"
      rcases snoc_cases es with rfl | ⟨a, m, rfl⟩
      · simp at e
      · rw [List.map_append]
        rw [List.map_cons, List.map_nil, oIx_lastL]
        refine ⟨by rw [sizeLine_eq]; omega, ?_⟩
        have := fin (bs ++ [(m, none)]) y3 y4 (by simp; omega) fun p hp => by
          rcases List.mem_append.mp hp with q | q
          · exact hb p q
          · rw [List.mem_singleton.mp q]
            exact ⟨hm m (by simp), nofun⟩
        rw [List.map_append, List.map_append] at this
        exact this
    · rw [decide_eq_false e]
      exact fin bs _ _ (by omega) hb
theorem w_law_bound (c n : Int) (h0 : 0 ≤ n) (h1 : n ≤ 16) (P : PyData → Prop) (h : ∀ bs : List Pc, bs.length ≤ 40 → (∀ p ∈ bs, PcOk p) → P (.tuple (bs.map encP))) : W_law_bound [.int c, .int n] P := by
  unfold W_law_bound t_law_bound
  walk_at "dl"
  refine w_law_mixed _ _ _ (by omega) _ fun r r0 r1 => ⟨.inl ⟨by decide, by decide⟩, ?_⟩
  walk_at "dl"
  refine ⟨⟨by omega, by omega⟩, ?_⟩
  refine forD_ix (fun i ρ => ∃ (ms : List (List Int)) (y3 y4 : Option Sl), ρ = [some (.dat (.int c)), some (.dat (.int n)), some (.own (.list (ms.map mk))), y3, y4, none] ∧ ms.length = i ∧ ∀ m ∈ ms, MakeOk m) ⟨[], _, _, rfl, rfl, fun _ h => nomatch h⟩ ?_ ?_
  · rintro i x hx ρ N ⟨ms, y3, y4, rfl, hl, hm⟩ hN
    obtain ⟨rfl, hi⟩ := range_get hx
    unfold t_law_bound_1
    walk_at "dl"
    refine ⟨.inl ⟨by decide, by decide⟩, ?_⟩
    walk_at "dl"
    refine w_law_make _ _ _ fun m hmk => w_law_mixed _ _ _ (by decide) _ fun u u0 u1 => ?_
    have fin : ∀ m', MakeOk m' → ∀ y3, N [some (.dat (.int c)), some (.dat (.int n)), some (.own (.list (ms.map mk ++ [mk m']))), y3, some (.dat (mk m')), none] := fun m' hm' y3 => by
      refine hN _ ⟨ms ++ [m'], _, _, by rw [List.map_append]; rfl, by rw [List.length_append, hl]; rfl, fun z hz => ?_⟩
      rcases List.mem_append.mp hz with q | q
      · exact hm z q
      · rw [List.mem_singleton.mp q]; exact hm'
    walk_at "dl"
    by_cases e : u = 1
    · rw [decide_eq_true e]
      walk_at "dl"
      refine ⟨.inl ⟨by decide, by decide⟩, ?_⟩
      walk_at "dl"
      refine w_law_mixed _ _ _ (by omega) _ fun v v0 v1 => ?_
      have hcu : ∃ w : List Int, cutD (m.map PyData.int) (some 1) (some 2) = w.map .int ∧ w.length ≤ 1 ∧ ∀ x ∈ w, x ∈ m := by
        refine ⟨cutD m (some 1) (some 2), ?_, ?_, fun x hx => ?_⟩
        · unfold cutD
          rw [List.map_take, List.map_drop, List.length_map]
        · unfold cutD
          rw [List.length_take, List.length_drop]
          have a1 : HT.sIx m.length 0 (some 1) = min 1 m.length := HT.sIx_nat m.length 0 1
          have a2 : HT.sIx m.length m.length (some 2) = min 2 m.length := HT.sIx_nat m.length m.length 2
          rw [a1, a2]
          omega
        · unfold cutD at hx
          exact List.mem_of_mem_drop (List.mem_of_mem_take hx)
      obtain ⟨w, ew, lw, mw⟩ := hcu
      rw [ew]
      walk_at "dl"
      refine ⟨by rw [sizeLine_eq]; omega, by rw [sizeLine_eq]; omega, ?_⟩
      refine fin (v :: w) ⟨by simp, by simp; omega, fun x hx => ?_⟩ _
      rcases List.mem_cons.mp hx with rfl | hx
      · exact ⟨v0, by omega⟩
      · exact hmk.num x (mw x hx)
    · rw [decide_eq_false e]
      walk_at "dl"
      refine ⟨by rw [sizeLine_eq]; omega, fin m hmk _⟩
  · rintro ρ ⟨ms, y3, y4, rfl, hl, hm⟩
    rw [range_len] at hl
    unfold t_law_bound_6
    walk_at "dl"
    refine sort_makes ms hm (by omega) _ fun es les hes => ?_
    have lz : es.length ≤ 32 := by omega
    walk_at "dl"
    refine w_law_mixed _ _ _ (by decide) _ fun u u0 u1 => ?_
    have fl : Flat (.list (es.map mk)) := flat_lst fun d hd => by
      obtain ⟨m, _, rfl⟩ := List.mem_map.mp hd
      exact ⟨(mk_deep m).1, Nat.le_trans (mk_deep m).2 (by decide)⟩
    have next : ∀ es : List (List Int), es.length ≤ 32 → (∀ m ∈ es, MakeOk m) → ∀ y3 y4, t_law_bound_5 ⟨fun _ => P .none, P, fun _ => False, fun _ => False⟩ [some (.dat (.int c)), some (.dat (.int n)), some (.own (.list (es.map mk))), y3, y4, none] := fun es l hm y3 y4 => bound_5 c n es l hm P h y3 y4
    walk_at "dl"
    by_cases e : u = 1
    · rw [decide_eq_true e]
      walk_at "dl"
      rw [oNe_nilL fl]
      cases es with
      | nil => exact next [] (by simp) (fun _ h => nomatch h) _ _
      | cons m0 es =>
        refine ⟨0, by simp [L2.ixN], ?_⟩
        refine next ([0] :: es) lz (fun m hm' => ?_) _ _
        rcases List.mem_cons.mp hm' with rfl | q
        · exact ⟨by decide, by decide, fun x hx => by rw [List.mem_singleton.mp hx]; decide⟩
        · exact hes m (List.mem_cons_of_mem _ q)
    · rw [decide_eq_false e]
      exact next es lz hes _ _
theorem law_1 (D : DEnds) (x : PyData) (y0 y1 y2 y4 y5 y6 y7 : Option Sl) (hn : ∀ y4, D.nx [y0, y1, y2, some (.dat x), y4, y5, y6, y7]) : t_law_1 D [y0, y1, y2, some (.dat x), y4, y5, y6, y7] := by
  unfold t_law_1
  walk_at "dl"
  refine w_is_bound x _ ?_
  simp only [oIsi, isTy, truD_bool, List.any_cons, List.any_nil, Bool.or_false, Bool.not_true]
  refine w_law_is_bound x _ ?_
  walk_at "dl"
  exact hn _
theorem law_2 (D : DEnds) (bs : List Pc) (m : List Int) (y0 y1 y3 y4 y6 y7 : Option Sl) (hn : ∀ y4, D.nx [y0, y1, some (.dat (.tuple (bs.map encP))), y3, y4, some (.dat (mk m)), y6, y7]) : t_law_2 D [y0, y1, some (.dat (.tuple (bs.map encP))), y3, y4, some (.dat (mk m)), y6, y7] := by
  unfold t_law_2
  walk_at "dl"
  generalize hB : PyData.tuple (bs.map encP) = B at hn
  subst hB
  refine w_holds bs m _ ?_
  simp only [oIsi, isTy, truD_bool, List.any_cons, List.any_nil, Bool.or_false, Bool.not_true]
  refine w_law_in bs m _ ?_
  show oNe _ _ _
  rw [oNe_bool, decide_eq_true rfl]
  exact hn _
theorem law_3 (D : DEnds) (c : Int) (bs : List Pc) (hl : bs.length ≤ 40) (hb : ∀ p ∈ bs, PcOk p) (y0 y3 y4 y5 y6 y7 : Option Sl) (hn : ∀ y2 y3 y4 y5 y6 y7, D.nx [y0, some (.dat (.int c)), y2, y3, y4, y5, y6, y7]) : t_law_3 D [y0, some (.dat (.int c)), some (.dat (.tuple (bs.map encP))), y3, y4, y5, y6, y7] := by
  unfold t_law_3
  walk_at "dl"
  refine w_law_ends bs hb (by omega) _ fun es les hes => ?_
  walk_at "dl"
  refine compD_out mk MakeOk (fun x hx K1 K2 hk => ?_) fun us lus hus => ?_
  · obtain ⟨p, hp, rfl⟩ := List.mem_map.mp hx
    obtain ⟨lo, hi⟩ := p
    have g := hb _ hp
    rw [encP_eq]
    walk_at "dl"
    refine w_law_next lo g.lo.l1 _ ?_
    rcases nextM_ok lo g.lo with e | ⟨ns, e, g2, _⟩
    · rw [e]
      walk_at "dl"
      exact hk lo g.lo
    · rw [e]
      have := g2.l0
      cases ns with
      | nil => exact absurd this (by decide)
      | cons n ns =>
        walk_at "dl"
        exact hk (n :: ns) g2
  · rw [List.length_map] at lus
    refine ⟨by simp only [List.length_map, sizeLine_eq]; omega, ?_⟩
    refine w_law_make _ _ _ fun m hm => ?_
    refine ⟨by simp only [List.length_append, List.length_map, sizeLine_eq, List.length_cons, List.length_nil]; omega, ?_⟩
    have e : es.map mk ++ us.map mk ++ [mk m] = (es ++ us ++ [m]).map mk := by simp
    show forD _ _ _ (es.map mk ++ us.map mk ++ [mk m]) _
    rw [e]
    refine forD_preE mk (fun _ ρ => ∃ y3 y4 y5 y6 y7, ρ = [y0, some (.dat (.int c)), some (.dat (.tuple (bs.map encP))), y3, y4, y5, y6, y7]) ⟨_, _, _, _, _, rfl⟩ ?_ ?_
    · rintro _ z _ - ρ N ⟨y3, y4, y5, y6, y7, rfl⟩ hN
      walk_at "dl"
      exact law_2 _ bs z _ _ _ _ _ _ fun _ => hN _ ⟨_, _, _, _, _, rfl⟩
    · rintro ρ ⟨y3, y4, y5, y6, y7, rfl⟩
      exact hn _ _ _ _ _ _
theorem law_ok : ∀ ns : List Int, ns.length ≤ 63 → W_law [.list (ns.map PyData.int)] (fun d => d = .bool true) := by
  intro ns hn
  unfold W_law t_law
  walk_at "dl"
  have lc := cutD_le (ns.map PyData.int) none (some 80)
  rw [List.length_map] at lc
  refine ⟨by rw [sizeLine_eq]; omega, ?_⟩
  refine forD_inv (fun ρ => ∃ y1 y2 y3 y4 y5 y6 y7, ρ = [some (.dat (.list (ns.map .int))), y1, y2, y3, y4, y5, y6, y7]) ⟨_, _, _, _, _, _, _, rfl⟩ ?_ ?_
  · rintro x hx ρ N ⟨y1, y2, y3, y4, y5, y6, y7, rfl⟩ hN
    obtain ⟨c, rfl⟩ : ∃ c : Int, x = .int c := by
      rcases List.mem_cons.mp hx with h | h
      · exact ⟨_, h⟩
      · unfold cutD at h
        obtain ⟨i, -, h⟩ := List.mem_map.mp (List.mem_of_mem_drop (List.mem_of_mem_take h))
        exact ⟨i, h.symm⟩
    walk_at "dl"
    unfold t_law_4
    walk_at "dl"
    refine w_law_mixed _ _ _ (by decide) _ fun r r0 r1 => ?_
    refine oIx_inL r0 (by simpa using r1) fun z hz => ?_
    obtain ⟨n, rfl, n0, n1⟩ : ∃ n : Int, z = .int n ∧ 0 ≤ n ∧ n ≤ 16 := by
      simp only [List.mem_cons, List.not_mem_nil, or_false] at hz
      rcases hz with rfl | rfl | rfl <;> exact ⟨_, rfl, by decide, by decide⟩
    refine w_law_bound c n n0 n1 _ fun bs hl hb => ?_
    walk_at "dl"
    refine w_law_changed bs hb (by omega) c _ fun d => w_law_mixed _ _ _ (by decide) _ fun u u0 u1 => ?_
    refine w_law_many _ (by omega) (by omega) _ fun d2 => ?_
    refine forD_inv (fun ρ => ∃ y3 y4 y5 y6 y7, ρ = [some (.dat (.list (ns.map .int))), some (.dat (.int c)), some (.dat (.tuple (bs.map encP))), y3, y4, y5, y6, y7]) ⟨_, _, _, _, _, rfl⟩ ?_ ?_
    · rintro x - ρ N2 ⟨y3, y4, y5, y6, y7, rfl⟩ hN2
      walk_at "dl"
      exact law_1 _ x _ _ _ _ _ _ _ fun _ => hN2 _ ⟨_, _, _, _, _, rfl⟩
    · rintro ρ ⟨y3, y4, y5, y6, y7, rfl⟩
      exact law_3 _ c bs hl hb _ _ _ _ _ _ fun _ _ _ _ _ _ => hN _ ⟨_, _, _, _, _, _, _, rfl⟩
  · rintro ρ ⟨y1, y2, y3, y4, y5, y6, y7, rfl⟩
    walk_at "dl"
end Wy

set_option maxRecDepth 100000
set_option maxHeartbeats 4000000
namespace Wy
open PySem PySem.Spec PyProof.Rows L2 DL
def topS (i : Nat) : Stmt := PySem.Challenge.pw_wishyard_k03_bounds.main.body.getD i (.Pass ⟨0, 0, 0, 0⟩)
structure Fx (κ : Kit) (mg : Str → Option Value) : Prop where
  n_all : mg "all" = none
  n_any : mg "any" = none
  n_bool : mg "bool" = none
  n_int : mg "int" = none
  n_isinstance : mg "isinstance" = none
  n_len : mg "len" = none
  n_list : mg "list" = none
  n_range : mg "range" = none
  n_set : mg "set" = none
  n_sorted : mg "sorted" = none
  n_tuple : mg "tuple" = none
  c_MOST_NUMBER : GC κ mg "MOST_NUMBER" c_MOST_NUMBER
  c_MOST_NUMBERS : GC κ mg "MOST_NUMBERS" c_MOST_NUMBERS
  c_MOST_PIECES : GC κ mg "MOST_PIECES" c_MOST_PIECES
abbrev s_is_number : Stmt := topS 3
theorem sc_is_number : FnScope ["thing"] ["thing"] (defScope s_is_number) := ⟨rfl, rfl, rfl, by decide +kernel, rfl, by decide +kernel, by decide +kernel⟩
abbrev s_is_make : Stmt := topS 4
theorem sc_is_make : FnScope ["thing", "one"] ["thing"] (defScope s_is_make) := ⟨rfl, rfl, rfl, by decide +kernel, rfl, by decide +kernel, by decide +kernel⟩
abbrev s_is_piece : Stmt := topS 7
theorem sc_is_piece : FnScope ["thing"] ["thing"] (defScope s_is_piece) := ⟨rfl, rfl, rfl, by decide +kernel, rfl, by decide +kernel, by decide +kernel⟩
abbrev s_is_bound : Stmt := topS 8
theorem sc_is_bound : FnScope ["thing", "one", "place"] ["thing"] (defScope s_is_bound) := ⟨rfl, rfl, rfl, by decide +kernel, rfl, by decide +kernel, by decide +kernel⟩
abbrev s_holds : Stmt := topS 9
theorem sc_holds : FnScope ["bound", "make", "low", "high"] ["bound", "make"] (defScope s_holds) := ⟨rfl, rfl, rfl, by decide +kernel, rfl, by decide +kernel, by decide +kernel⟩
abbrev s_law_whole : Stmt := topS 11
theorem sc_law_whole : FnScope ["_law_found"] ["_law_found"] (defScope s_law_whole) := ⟨rfl, rfl, rfl, by decide +kernel, rfl, by decide +kernel, by decide +kernel⟩
abbrev s_law_mixed : Stmt := topS 12
theorem sc_law_mixed : FnScope ["_law_cell", "_law_k", "_law_many_here", "_law_some", "_law_made"] ["_law_cell", "_law_k", "_law_many_here"] (defScope s_law_mixed) := ⟨rfl, rfl, rfl, by decide +kernel, rfl, by decide +kernel, by decide +kernel⟩
abbrev s_law_make : Stmt := topS 13
theorem sc_law_make : FnScope ["_law_cell", "_law_k", "_law_found", "_law_j", "_law_some"] ["_law_cell", "_law_k"] (defScope s_law_make) := ⟨rfl, rfl, rfl, by decide +kernel, rfl, by decide +kernel, by decide +kernel⟩
abbrev s_law_next : Stmt := topS 14
theorem sc_law_next : FnScope ["_law_make_here", "_law_left"] ["_law_make_here"] (defScope s_law_next) := ⟨rfl, rfl, rfl, by decide +kernel, rfl, by decide +kernel, by decide +kernel⟩
abbrev s_law_is_make : Stmt := topS 15
theorem sc_law_is_make : FnScope ["_law_thing", "_law_one"] ["_law_thing"] (defScope s_law_is_make) := ⟨rfl, rfl, rfl, by decide +kernel, rfl, by decide +kernel, by decide +kernel⟩
abbrev s_law_bound : Stmt := topS 16
theorem sc_law_bound : FnScope ["_law_cell", "_law_most", "_law_ends_here", "_law_k", "_law_make_here", "_law_found"] ["_law_cell", "_law_most"] (defScope s_law_bound) := ⟨rfl, rfl, rfl, by decide +kernel, rfl, by decide +kernel, by decide +kernel⟩
abbrev s_law_in : Stmt := topS 17
theorem sc_law_in : FnScope ["_law_bound_here", "_law_make_here", "_law_low", "_law_high"] ["_law_bound_here", "_law_make_here"] (defScope s_law_in) := ⟨rfl, rfl, rfl, by decide +kernel, rfl, by decide +kernel, by decide +kernel⟩
abbrev s_law_is_bound : Stmt := topS 18
theorem sc_law_is_bound : FnScope ["_law_thing", "_law_most", "_law_last", "_law_k", "_law_piece"] ["_law_thing", "_law_most"] (defScope s_law_is_bound) := ⟨rfl, rfl, rfl, by decide +kernel, rfl, by decide +kernel, by decide +kernel⟩
abbrev s_law_ends : Stmt := topS 19
theorem sc_law_ends : FnScope ["_law_bounds", "_law_found", "_law_bound_here", "_law_low", "_law_high"] ["_law_bounds"] (defScope s_law_ends) := ⟨rfl, rfl, rfl, by decide +kernel, rfl, by decide +kernel, by decide +kernel⟩
abbrev s_law_changed : Stmt := topS 20
theorem sc_law_changed : FnScope ["_law_bound_here", "_law_cell", "_law_some", "_law_low", "_law_high"] ["_law_bound_here", "_law_cell"] (defScope s_law_changed) := ⟨rfl, rfl, rfl, by decide +kernel, rfl, by decide +kernel, by decide +kernel⟩
abbrev s_law_many : Stmt := topS 21
theorem sc_law_many : FnScope ["_law_count", "_law_k"] ["_law_count"] (defScope s_law_many) := ⟨rfl, rfl, rfl, by decide +kernel, rfl, by decide +kernel, by decide +kernel⟩
abbrev s_law : Stmt := topS 22
theorem sc_law : FnScope ["_law_script", "_law_cell", "_law_bound_here", "_law_thing", "_law_found", "_law_make_here", "_law_low", "_law_high"] ["_law_script"] (defScope s_law) := ⟨rfl, rfl, rfl, by decide +kernel, rfl, by decide +kernel, by decide +kernel⟩
section
variable {P : Program} {w : World} {K : PySem.W.Frag} {mg : Str → Option Value} {base : Heap}
theorem own_is_number {f : Addr} {fd : FuncData} (F : Fx ⟨K, P, w⟩ mg) (G : Fun K "is_number" "is_number" s_is_number f fd) (hm : mg "is_number" = some (.ref f)) (hb : Binds K fd ["thing"] []) : Own P w K mg base "is_number" .E 1 1 W_is_number := by
  have hN := sc_is_number.nd
  exact own_of (j := 0) (td := t_is_number) G sc_is_number hm hb fun cdv A outer s H E hr => (ds_one (ds_ret (dx_and (dx_isi (T := "int") (dv 0) F.n_isinstance F.n_int) (dx_and (dx_not (dx_isi (T := "bool") (dv 0) F.n_isinstance F.n_bool)) (dx_one (dx_chain (x_le hr.units) (x_le hr.units) dx_int (dv 0) (dx_con F.c_MOST_NUMBER)))))))
theorem own_is_make {f : Addr} {fd : FuncData} (F : Fx ⟨K, P, w⟩ mg) (G : Fun K "is_make" "is_make" s_is_make f fd) (hm : mg "is_make" = some (.ref f)) (hb : Binds K fd ["thing"] []) (O_is_number : Own P w K mg base "is_number" .E 1 1 W_is_number) : Own P w K mg base "is_make" .E 1 2 W_is_make := by
  have hN := sc_is_make.nd
  exact own_of (j := 1) (td := t_is_make) G sc_is_make hm hb fun cdv A outer s H E hr => (ds_cons (ds_if (DW.dt (dw_or (dt_not (dt_tru (dx_isi (T := "tuple") (dv 0) F.n_isinstance F.n_tuple))) (dw_or1 (dt_not (dt_chain (x_le hr.units) (x_le hr.units) dx_int (dx_callB x_len F.n_len (db_cons (dv 0) db_nil)) (dx_con F.c_MOST_NUMBERS))))))
  (ds_one (ds_ret dx_bl))
  ds_nil)
  (ds_one (ds_ret (dx_callB (x_all rfl) F.n_all (db_cons (dx_comp rfl hN (own := [("one", 1)]) (di_seq (dv 0)) (by first | decide +kernel | rfl) (by intro _ _ _ _ _; exact (dg_nm 1 hN)) (by intro _ _ _ _ _; exact dts_nil) (by intro _ _ _ _ _; exact (dx_call O_is_number (hr.mono (by decide)) (da_cons (dv 1) da_nil)))) db_nil)))))
theorem own_is_piece {f : Addr} {fd : FuncData} (F : Fx ⟨K, P, w⟩ mg) (G : Fun K "is_piece" "is_piece" s_is_piece f fd) (hm : mg "is_piece" = some (.ref f)) (hb : Binds K fd ["thing"] []) (O_is_make : Own P w K mg base "is_make" .E 1 2 W_is_make) : Own P w K mg base "is_piece" .E 1 3 W_is_piece := by
  have hN := sc_is_piece.nd
  exact own_of (j := 2) (td := t_is_piece) G sc_is_piece hm hb fun cdv A outer s H E hr => (ds_cons (ds_if (DW.dt (dw_or (dt_not (dt_tru (dx_isi (T := "tuple") (dv 0) F.n_isinstance F.n_tuple))) (dw_or (dt_cmp (x_ne hr.units) (dx_callB x_len F.n_len (db_cons (dv 0) db_nil)) dx_int) (dw_or1 (dt_not (dt_tru (dx_call O_is_make (hr.mono (by decide)) (da_cons (dx_ix (dv 0) dx_int) da_nil))))))))
  (ds_one (ds_ret dx_bl))
  ds_nil)
  (ds_one (ds_ret (dx_or (dx_cmp x_is (dx_ix (dv 0) dx_int) dx_non) (dx_one (dx_and (dx_call O_is_make (hr.mono (by decide)) (da_cons (dx_ix (dv 0) dx_int) da_nil)) (dx_one (dx_cmp (x_lt hr.units) (dx_ix (dv 0) dx_int) (dx_ix (dv 0) dx_int)))))))))
theorem own_is_bound {f : Addr} {fd : FuncData} (F : Fx ⟨K, P, w⟩ mg) (G : Fun K "is_bound" "is_bound" s_is_bound f fd) (hm : mg "is_bound" = some (.ref f)) (hb : Binds K fd ["thing"] []) (O_is_piece : Own P w K mg base "is_piece" .E 1 3 W_is_piece) : Own P w K mg base "is_bound" .E 1 4 W_is_bound := by
  have hN := sc_is_bound.nd
  exact own_of (j := 3) (td := t_is_bound) G sc_is_bound hm hb fun cdv A outer s H E hr => (ds_cons (ds_if (DW.dt (dw_or (dt_not (dt_tru (dx_isi (T := "tuple") (dv 0) F.n_isinstance F.n_tuple))) (dw_or (dt_cmp x_gt (dx_callB x_len F.n_len (db_cons (dv 0) db_nil)) (dx_con F.c_MOST_PIECES)) (dw_or1 (dt_not (dt_tru (dx_callB (x_all rfl) F.n_all (db_cons (dx_comp rfl hN (own := [("one", 1)]) (di_seq (dv 0)) (by first | decide +kernel | rfl) (by intro _ _ _ _ _; exact (dg_nm 1 hN)) (by intro _ _ _ _ _; exact dts_nil) (by intro _ _ _ _ _; exact (dx_call O_is_piece (hr.mono (by decide)) (da_cons (dv 1) da_nil)))) db_nil))))))))
  (ds_one (ds_ret dx_bl))
  ds_nil)
  (ds_cons (ds_for rfl (di_range2 dx_int (dx_callB x_len F.n_len (db_cons (dv 0) db_nil)) F.n_range) (dg_nm 2 hN) (ds_one (ds_if (DW.dt (dw_or (dt_cmp x_is (dx_ix (dx_ix (dv 0) (dx_bin x_sub (dv 2) dx_int)) dx_int) dx_non) (dw_or1 (dt_not (dt_cmp (x_lt hr.units) (dx_ix (dx_ix (dv 0) (dx_bin x_sub (dv 2) dx_int)) dx_int) (dx_ix (dx_ix (dv 0) (dv 2)) dx_int))))))
  (ds_one (ds_ret dx_bl))
  ds_nil)))
  (ds_one (ds_ret dx_bl))))
theorem own_holds {f : Addr} {fd : FuncData} (F : Fx ⟨K, P, w⟩ mg) (G : Fun K "holds" "holds" s_holds f fd) (hm : mg "holds" = some (.ref f)) (hb : Binds K fd ["bound", "make"] []) : Own P w K mg base "holds" .E 2 1 W_holds := by
  have hN := sc_holds.nd
  exact own_of (j := 0) (td := t_holds) G sc_holds hm hb fun cdv A outer s H E hr => (ds_one (ds_ret (dx_callB (x_any rfl) F.n_any (db_cons (dx_comp rfl hN (own := [("low", 2), ("high", 3)]) (di_seq (dv 0)) (by first | decide +kernel | rfl) (by intro _ _ _ _ _; exact (dg_tp (n := 2) rfl (dgs_cons (dg_nm 2 hN) (dgs_cons (dg_nm 3 hN) dgs_nil)))) (by intro _ _ _ _ _; exact dts_nil) (by intro _ _ _ _ _; exact (dx_and (dx_cmp (x_le hr.units) (dv 2) (dv 1)) (dx_one (dx_or (dx_cmp x_is (dv 3) dx_non) (dx_one (dx_cmp (x_lt hr.units) (dv 1) (dv 3)))))))) db_nil))))
theorem own_law_whole {f : Addr} {fd : FuncData} (F : Fx ⟨K, P, w⟩ mg) (G : Fun K "_law_whole" "_law_whole" s_law_whole f fd) (hm : mg "_law_whole" = some (.ref f)) (hb : Binds K fd ["_law_found"] []) : Own P w K mg base "_law_whole" .E 1 1 W_law_whole := by
  have hN := sc_law_whole.nd
  exact own_of (j := 0) (td := t_law_whole) G sc_law_whole hm hb fun cdv A outer s H E hr => (ds_one (ds_ret (dx_and (dx_isi (T := "int") (dv 0) F.n_isinstance F.n_int) (dx_one (dx_not (dx_isi (T := "bool") (dv 0) F.n_isinstance F.n_bool))))))
theorem own_law_mixed {f : Addr} {fd : FuncData} (F : Fx ⟨K, P, w⟩ mg) (G : Fun K "_law_mixed" "_law_mixed" s_law_mixed f fd) (hm : mg "_law_mixed" = some (.ref f)) (hb : Binds K fd ["_law_cell", "_law_k", "_law_many_here"] []) : Own P w K mg base "_law_mixed" .E 3 1 W_law_mixed := by
  have hN := sc_law_mixed.nd
  exact own_of (j := 0) (td := t_law_mixed) G sc_law_mixed hm hb fun cdv A outer s H E hr => (ds_cons (ds_set hN (dx_lst (da_cons dx_int (da_cons dx_int (da_cons dx_int (da_cons dx_int (da_cons dx_int (da_cons dx_int (da_cons dx_int (da_cons dx_int (da_cons dx_int (da_cons dx_int (da_cons dx_int da_nil)))))))))))))
  (ds_cons (ds_set hN (dx_bin x_mod (dx_bin x_mul (dx_bin x_add (dv 0) (dx_bin x_mul dx_int (dv 1))) dx_int) (dx_ix (dv 3) (dx_bin x_mod (dv 1) dx_int))))
  (ds_one (ds_ret (dx_bin x_mod (dx_bin x_mod (dx_bin x_add (dx_bin x_add (dx_bin x_mul (dx_bin x_mul (dv 4) (dv 4)) dx_int) (dv 4)) (dv 1)) dx_int) (dv 2))))))
theorem own_law_make {f : Addr} {fd : FuncData} (F : Fx ⟨K, P, w⟩ mg) (G : Fun K "_law_make" "_law_make" s_law_make f fd) (hm : mg "_law_make" = some (.ref f)) (hb : Binds K fd ["_law_cell", "_law_k"] []) (O_law_mixed : Own P w K mg base "_law_mixed" .E 3 1 W_law_mixed) : Own P w K mg base "_law_make" .E 2 2 W_law_make := by
  have hN := sc_law_make.nd
  exact own_of (j := 1) (td := t_law_make) G sc_law_make hm hb fun cdv A outer s H E hr => (ds_cons (ds_setM hN (dx_lst da_nil))
  (ds_cons (ds_for rfl (di_range1 (dx_bin x_add dx_int (dx_call O_law_mixed (hr.mono (by decide)) (da_cons (dv 0) (da_cons (dv 1) (da_cons dx_int da_nil))))) F.n_range) (dg_nm 3 hN) (ds_cons (ds_set hN (dx_lst (da_cons dx_int (da_cons dx_int (da_cons dx_int (da_cons dx_int (da_cons dx_int (da_cons dx_int (da_cons (dx_call O_law_mixed (hr.mono (by decide)) (da_cons (dv 0) (da_cons (dx_bin x_add (dx_bin x_add (dv 1) (dv 3)) dx_int) (da_cons dx_int da_nil)))) (da_cons (dx_call O_law_mixed (hr.mono (by decide)) (da_cons (dv 0) (da_cons (dx_bin x_add (dx_bin x_add (dv 1) (dv 3)) dx_int) (da_cons dx_int da_nil)))) da_nil))))))))))
  (ds_one (ds_append 2 (dx_ix (dv 4) (dx_call O_law_mixed (hr.mono (by decide)) (da_cons (dv 0) (da_cons (dx_bin x_add (dx_bin x_add (dv 1) (dv 3)) dx_int) (da_cons dx_int da_nil)))))))))
  (ds_one (ds_ret (dx_callTy x_tupleOf F.n_tuple (db_cons (dvm 2) db_nil))))))
theorem own_law_next {f : Addr} {fd : FuncData} (F : Fx ⟨K, P, w⟩ mg) (G : Fun K "_law_next" "_law_next" s_law_next f fd) (hm : mg "_law_next" = some (.ref f)) (hb : Binds K fd ["_law_make_here"] []) : Own P w K mg base "_law_next" .E 1 1 W_law_next := by
  have hN := sc_law_next.nd
  exact own_of (j := 0) (td := t_law_next) G sc_law_next hm hb fun cdv A outer s H E hr => (ds_cons (ds_if (dt_cmp (x_lt hr.units) (dx_callB x_len F.n_len (db_cons (dv 0) db_nil)) dx_int)
  (ds_one (ds_ret (dx_bin x_add (dv 0) (dx_tup (da_cons dx_int da_nil)))))
  ds_nil)
  (ds_cons (ds_setM hN (dx_callTy x_listOf F.n_list (db_cons (dv 0) db_nil)))
  (ds_cons (ds_while (DW.dt (dw_and (dt_cmp (x_ne hr.units) (dvm 1) (dx_lst da_nil)) (dw_and1 (dt_cmp (x_eq hr.units) (dx_ix (dvm 1) (dx_un x_neg dx_int)) dx_int)))) (ds_one (ds_pop 1)))
  (ds_cons (ds_if (dt_cmp (x_eq hr.units) (dvm 1) (dx_lst da_nil))
  (ds_one (ds_ret dx_non))
  ds_nil)
  (ds_cons (ds_setL 1 (dx_un x_neg dx_int) (dx_bin x_add (dx_ix (dvm 1) (dx_un x_neg dx_int)) dx_int))
  (ds_one (ds_ret (dx_callTy x_tupleOf F.n_tuple (db_cons (dvm 1) db_nil)))))))))
theorem own_law_is_make {f : Addr} {fd : FuncData} (F : Fx ⟨K, P, w⟩ mg) (G : Fun K "_law_is_make" "_law_is_make" s_law_is_make f fd) (hm : mg "_law_is_make" = some (.ref f)) (hb : Binds K fd ["_law_thing"] []) (O_law_whole : Own P w K mg base "_law_whole" .E 1 1 W_law_whole) : Own P w K mg base "_law_is_make" .E 1 2 W_law_is_make := by
  have hN := sc_law_is_make.nd
  exact own_of (j := 1) (td := t_law_is_make) G sc_law_is_make hm hb fun cdv A outer s H E hr => (ds_cons (ds_if (DW.dt (dw_or (dt_not (dt_tru (dx_isi (T := "tuple") (dv 0) F.n_isinstance F.n_tuple))) (dw_or (dt_cmp (x_lt hr.units) (dx_callB x_len F.n_len (db_cons (dv 0) db_nil)) dx_int) (dw_or1 (dt_cmp x_gt (dx_callB x_len F.n_len (db_cons (dv 0) db_nil)) dx_int)))))
  (ds_one (ds_ret dx_bl))
  ds_nil)
  (ds_one (ds_ret (dx_callB (x_all rfl) F.n_all (db_cons (dx_comp rfl hN (own := [("_law_one", 1)]) (di_seq (dv 0)) (by first | decide +kernel | rfl) (by intro _ _ _ _ _; exact (dg_nm 1 hN)) (by intro _ _ _ _ _; exact dts_nil) (by intro _ _ _ _ _; exact (dx_and (dx_call O_law_whole (hr.mono (by decide)) (da_cons (dv 1) da_nil)) (dx_and (dx_cmp (x_le hr.units) dx_int (dv 1)) (dx_one (dx_cmp (x_le hr.units) (dv 1) dx_int)))))) db_nil)))))
theorem own_law_bound {f : Addr} {fd : FuncData} (F : Fx ⟨K, P, w⟩ mg) (G : Fun K "_law_bound" "_law_bound" s_law_bound f fd) (hm : mg "_law_bound" = some (.ref f)) (hb : Binds K fd ["_law_cell", "_law_most"] []) (O_law_make : Own P w K mg base "_law_make" .E 2 2 W_law_make) (O_law_mixed : Own P w K mg base "_law_mixed" .E 3 1 W_law_mixed) (O_law_next : Own P w K mg base "_law_next" .E 1 1 W_law_next) : Own P w K mg base "_law_bound" .E 2 3 W_law_bound := by
  have hN := sc_law_bound.nd
  exact own_of (j := 2) (td := t_law_bound) G sc_law_bound hm hb fun cdv A outer s H E hr => (ds_cons (ds_setM hN (dx_lst da_nil))
  (ds_cons (ds_for rfl (di_range1 (dx_bin x_mul dx_int (dx_call O_law_mixed (hr.mono (by decide)) (da_cons (dv 0) (da_cons dx_int (da_cons (dx_bin x_add (dv 1) dx_int) da_nil))))) F.n_range) (dg_nm 3 hN) (ds_cons (ds_set hN (dx_call O_law_make (hr.mono (by decide)) (da_cons (dx_bin x_add (dv 0) (dx_bin x_mul dx_int (dv 3))) (da_cons dx_int da_nil))))
  (ds_cons (ds_if (dt_cmp (x_eq hr.units) (dx_call O_law_mixed (hr.mono (by decide)) (da_cons (dv 0) (da_cons dx_int (da_cons dx_int da_nil)))) dx_int)
  (ds_one (ds_set hN (dx_bin x_add (dx_tup (da_cons (dx_call O_law_mixed (hr.mono (by decide)) (da_cons (dx_bin x_add (dv 0) (dv 3)) (da_cons dx_int (da_cons (dx_bin x_add dx_int (dx_bin x_mul dx_int (dv 1))) da_nil)))) da_nil)) (dx_slice (dv 4) (do_some dx_int) (do_some dx_int)))))
  ds_nil)
  (ds_one (ds_append 2 (dv 4))))))
  (ds_cons (ds_setM hN (dx_sortSet (hu65 hr) (dvm 2) F.n_sorted F.n_set))
  (ds_cons (ds_if (DW.dt (dw_and (dt_cmp (x_eq hr.units) (dx_call O_law_mixed (hr.mono (by decide)) (da_cons (dv 0) (da_cons dx_int (da_cons dx_int da_nil)))) dx_int) (dw_and1 (dt_cmp (x_ne hr.units) (dvm 2) (dx_lst da_nil)))))
  (ds_one (ds_setL 2 dx_int (dx_tup (da_cons dx_int da_nil))))
  ds_nil)
  (ds_cons (ds_setLcM rfl hN (own := [("_law_k", 3)]) (di_range3 dx_int (dx_bin x_sub (dx_callB x_len F.n_len (db_cons (dvm 2) db_nil)) dx_int) dx_int F.n_range) (by first | decide +kernel | rfl) (by intro _ _ _ _ _; exact (dg_nm 3 hN)) (by intro _ _ _ _ _; exact dts_nil) (by intro _ _ _ _ _; exact (dx_tup (da_cons (dx_ix (dvm 2) (dv 3)) (da_cons (dx_ix (dvm 2) (dx_bin x_add (dv 3) dx_int)) da_nil)))))
  (ds_cons (ds_if (dt_cmp (x_eq hr.units) (dx_bin x_mod (dx_callB x_len F.n_len (db_cons (dvm 2) db_nil)) dx_int) dx_int)
  (ds_one (ds_append 5 (dx_tup (da_cons (dx_ix (dvm 2) (dx_un x_neg dx_int)) (da_cons dx_non da_nil)))))
  ds_nil)
  (ds_cons (ds_if (DW.dt (dw_and (dt_cmp (x_eq hr.units) (dx_call O_law_mixed (hr.mono (by decide)) (da_cons (dv 0) (da_cons dx_int (da_cons dx_int da_nil)))) dx_int) (dw_and1 (dt_cmp (x_ne hr.units) (dvm 5) (dx_lst da_nil)))))
  (ds_one (ds_setL 5 (dx_un x_neg dx_int) (dx_tup (da_cons (dx_ix (dx_ix (dvm 5) (dx_un x_neg dx_int)) dx_int) (da_cons dx_non da_nil)))))
  ds_nil)
  (ds_cons (ds_if (DW.dt (dw_and (dt_cmp (x_eq hr.units) (dx_call O_law_mixed (hr.mono (by decide)) (da_cons (dv 0) (da_cons dx_int (da_cons dx_int da_nil)))) dx_int) (dw_and1 (dt_cmp (x_ne hr.units) (dvm 5) (dx_lst da_nil)))))
  (ds_one (ds_setM hN (dx_lst (da_cons (dx_tup (da_cons (dx_ix (dx_ix (dvm 5) dx_int) dx_int) (da_cons (dx_call O_law_next (hr.mono (by decide)) (da_cons (dx_ix (dx_ix (dvm 5) dx_int) dx_int) da_nil)) da_nil))) da_nil))))
  ds_nil)
  (ds_cons (ds_if (dt_cmp (x_eq hr.units) (dx_call O_law_mixed (hr.mono (by decide)) (da_cons (dv 0) (da_cons dx_int (da_cons dx_int da_nil)))) dx_int)
  (ds_one (ds_setM hN (dx_lst (da_cons (dx_tup (da_cons (dx_tup (da_cons dx_int da_nil)) (da_cons dx_non da_nil))) da_nil))))
  ds_nil)
  (ds_one (ds_ret (dx_callTy x_tupleOf F.n_tuple (db_cons (dvm 5) db_nil)))))))))))))
theorem own_law_in {f : Addr} {fd : FuncData} (F : Fx ⟨K, P, w⟩ mg) (G : Fun K "_law_in" "_law_in" s_law_in f fd) (hm : mg "_law_in" = some (.ref f)) (hb : Binds K fd ["_law_bound_here", "_law_make_here"] []) : Own P w K mg base "_law_in" .E 2 1 W_law_in := by
  have hN := sc_law_in.nd
  exact own_of (j := 0) (td := t_law_in) G sc_law_in hm hb fun cdv A outer s H E hr => (ds_cons (ds_for rfl (di_seq (dv 0)) (dg_tp (n := 2) rfl (dgs_cons (dg_nm 2 hN) (dgs_cons (dg_nm 3 hN) dgs_nil))) (ds_one (ds_if (DW.dt (dw_and (dt_cmp (x_le hr.units) (dv 2) (dv 1)) (dw_and1 (DW.dt (dw_or (dt_cmp x_is (dv 3) dx_non) (dw_or1 (dt_cmp (x_lt hr.units) (dv 1) (dv 3))))))))
  (ds_one (ds_ret dx_bl))
  ds_nil)))
  (ds_one (ds_ret dx_bl)))
theorem own_law_is_bound {f : Addr} {fd : FuncData} (F : Fx ⟨K, P, w⟩ mg) (G : Fun K "_law_is_bound" "_law_is_bound" s_law_is_bound f fd) (hm : mg "_law_is_bound" = some (.ref f)) (hb : Binds K fd ["_law_thing", "_law_most"] []) (O_law_is_make : Own P w K mg base "_law_is_make" .E 1 2 W_law_is_make) : Own P w K mg base "_law_is_bound" .E 2 3 W_law_is_bound := by
  have hN := sc_law_is_bound.nd
  exact own_of (j := 2) (td := t_law_is_bound) G sc_law_is_bound hm hb fun cdv A outer s H E hr => (ds_cons (ds_if (DW.dt (dw_or (dt_not (dt_tru (dx_isi (T := "tuple") (dv 0) F.n_isinstance F.n_tuple))) (dw_or1 (dt_cmp x_gt (dx_callB x_len F.n_len (db_cons (dv 0) db_nil)) (dv 1)))))
  (ds_one (ds_ret dx_bl))
  ds_nil)
  (ds_cons (ds_set hN dx_non)
  (ds_cons (ds_for rfl (di_range1 (dx_callB x_len F.n_len (db_cons (dv 0) db_nil)) F.n_range) (dg_nm 3 hN) (ds_cons (ds_set hN (dx_ix (dv 0) (dv 3)))
  (ds_cons (ds_if (DW.dt (dw_or (dt_not (dt_tru (dx_isi (T := "tuple") (dv 4) F.n_isinstance F.n_tuple))) (dw_or (dt_cmp (x_ne hr.units) (dx_callB x_len F.n_len (db_cons (dv 4) db_nil)) dx_int) (dw_or1 (dt_not (dt_tru (dx_call O_law_is_make (hr.mono (by decide)) (da_cons (dx_ix (dv 4) dx_int) da_nil))))))))
  (ds_one (ds_ret dx_bl))
  ds_nil)
  (ds_cons (ds_if (DW.dt (dw_and (dt_cmp x_isNot (dx_ix (dv 4) dx_int) dx_non) (dw_and1 (DW.dt (dw_or (dt_not (dt_tru (dx_call O_law_is_make (hr.mono (by decide)) (da_cons (dx_ix (dv 4) dx_int) da_nil)))) (dw_or1 (dt_not (dt_cmp (x_lt hr.units) (dx_ix (dv 4) dx_int) (dx_ix (dv 4) dx_int)))))))))
  (ds_one (ds_ret dx_bl))
  ds_nil)
  (ds_cons (ds_if (DW.dt (dw_and (dt_cmp x_gt (dv 3) dx_int) (dw_and1 (DW.dt (dw_or (dt_cmp x_is (dv 2) dx_non) (dw_or1 (dt_not (dt_cmp (x_lt hr.units) (dv 2) (dx_ix (dv 4) dx_int)))))))))
  (ds_one (ds_ret dx_bl))
  ds_nil)
  (ds_one (ds_set hN (dx_ix (dv 4) dx_int))))))))
  (ds_one (ds_ret dx_bl)))))
theorem own_law_ends {f : Addr} {fd : FuncData} (F : Fx ⟨K, P, w⟩ mg) (G : Fun K "_law_ends" "_law_ends" s_law_ends f fd) (hm : mg "_law_ends" = some (.ref f)) (hb : Binds K fd ["_law_bounds"] []) : Own P w K mg base "_law_ends" .F 1 1 W_law_ends := by
  have hN := sc_law_ends.nd
  exact own_ofF (j := 0) (td := t_law_ends) G sc_law_ends hm hb fun cdv A outer s H E hr => (ds_cons (ds_setM hN (dx_lst (da_cons (dx_tup (da_cons dx_int da_nil)) da_nil)))
  (ds_cons (ds_for rfl (di_seq (dv 0)) (dg_nm 2 hN) (ds_one (ds_for rfl (di_seq (dv 2)) (dg_tp (n := 2) rfl (dgs_cons (dg_nm 3 hN) (dgs_cons (dg_nm 4 hN) dgs_nil))) (ds_cons (ds_append 1 (dv 3))
  (ds_one (ds_if (dt_cmp x_isNot (dv 4) dx_non)
  (ds_one (ds_append 1 (dv 4)))
  ds_nil))))))
  (ds_one (ds_retOwn 1))))
theorem own_law_changed {f : Addr} {fd : FuncData} (F : Fx ⟨K, P, w⟩ mg) (G : Fun K "_law_changed" "_law_changed" s_law_changed f fd) (hm : mg "_law_changed" = some (.ref f)) (hb : Binds K fd ["_law_bound_here", "_law_cell"] []) (O_law_mixed : Own P w K mg base "_law_mixed" .E 3 1 W_law_mixed) : Own P w K mg base "_law_changed" .E 2 2 W_law_changed := by
  have hN := sc_law_changed.nd
  exact own_of (j := 1) (td := t_law_changed) G sc_law_changed hm hb fun cdv A outer s H E hr => (ds_cons (ds_set hN (dx_lst (da_cons (dx_rev (dv 0)) (da_cons (dx_callTy x_listOf F.n_list (db_cons (dv 0) db_nil)) (da_cons (dx_bin x_add (dv 0) (dv 0)) (da_cons (dx_bin x_add (dv 0) (dx_tup (da_cons (dx_tup (da_cons (dx_tup (da_cons dx_int (da_cons dx_int da_nil))) (da_cons (dx_tup (da_cons dx_int (da_cons dx_int da_nil))) da_nil))) da_nil))) (da_cons dx_non (da_cons (dx_tup (da_cons (dx_tup da_nil) da_nil)) (da_cons (dx_bin x_add (dv 0) (dx_tup (da_cons dx_int da_nil))) da_nil)))))))))
  (ds_cons (ds_if (dt_cmp (x_ne hr.units) (dv 0) (dx_tup da_nil))
  (ds_cons (ds_setG (dx_ix (dv 0) dx_int) (dg_tp (n := 2) rfl (dgs_cons (dg_nm 3 hN) (dgs_cons (dg_nm 4 hN) dgs_nil))))
  (ds_cons (ds_set hN (dx_bin x_add (dv 2) (dx_lst (da_cons (dx_bin x_add (dx_tup (da_cons (dx_tup (da_cons (dv 4) (da_cons (dv 3) da_nil))) da_nil)) (dx_slice (dv 0) (do_some dx_int) do_no)) (da_cons (dx_bin x_add (dx_tup (da_cons (dx_tup (da_cons (dv 3) (da_cons (dv 3) da_nil))) da_nil)) (dx_slice (dv 0) (do_some dx_int) do_no)) (da_cons (dx_bin x_add (dx_tup (da_cons (dx_tup (da_cons (dv 3) (da_cons dx_non da_nil))) da_nil)) (dv 0)) (da_cons (dx_tup (da_cons (dx_tup (da_cons (dv 3) (da_cons (dv 4) (da_cons dx_int da_nil)))) da_nil)) da_nil)))))))
  (ds_cons (ds_set hN (dx_bin x_add (dv 2) (dx_lst (da_cons (dx_bin x_add (dx_tup (da_cons (dx_lst (da_cons (dv 3) (da_cons (dv 4) da_nil))) da_nil)) (dx_slice (dv 0) (do_some dx_int) do_no)) (da_cons (dx_tup (da_cons (dx_tup (da_cons (dx_bin x_add (dx_slice (dv 3) do_no (do_some dx_int)) (dx_tup (da_cons dx_int da_nil))) (da_cons (dv 4) da_nil))) da_nil)) (da_cons (dx_tup (da_cons (dx_tup (da_cons (dv 3) (da_cons dx_bl da_nil))) da_nil)) (da_cons (dx_bin x_add (dx_slice (dv 0) (do_some dx_int) do_no) (dx_slice (dv 0) do_no (do_some dx_int))) da_nil)))))))
  (ds_one (ds_if (dt_cmp x_isNot (dv 4) dx_non)
  (ds_one (ds_set hN (dx_bin x_add (dv 2) (dx_bin x_mul (dx_lst (da_cons (dx_tup (da_cons (dx_tup (da_cons (dv 3) (da_cons (dv 4) da_nil))) (da_cons (dx_tup (da_cons (dv 4) (da_cons dx_non da_nil))) da_nil))) (da_cons (dx_tup (da_cons (dx_tup (da_cons (dv 3) (da_cons (dv 4) da_nil))) (da_cons (dx_tup (da_cons (dx_bin x_add (dv 4) (dx_tup (da_cons dx_int (da_cons dx_int (da_cons dx_int (da_cons dx_int da_nil)))))) (da_cons dx_non da_nil))) da_nil))) da_nil))) dx_int))))
  ds_nil)))))
  ds_nil)
  (ds_one (ds_ret (dx_ix (dv 2) (dx_call O_law_mixed (hr.mono (by decide)) (da_cons (dv 1) (da_cons dx_int (da_cons (dx_callB x_len F.n_len (db_cons (dv 2) db_nil)) da_nil)))))))))
theorem own_law_many {f : Addr} {fd : FuncData} (F : Fx ⟨K, P, w⟩ mg) (G : Fun K "_law_many" "_law_many" s_law_many f fd) (hm : mg "_law_many" = some (.ref f)) (hb : Binds K fd ["_law_count"] []) : Own P w K mg base "_law_many" .E 1 1 W_law_many := by
  have hN := sc_law_many.nd
  exact own_of (j := 0) (td := t_law_many) G sc_law_many hm hb fun cdv A outer s H E hr => (ds_one (ds_ret (dx_callTy x_tupleOf F.n_tuple (db_cons (dx_comp rfl hN (own := [("_law_k", 1)]) (di_range1 (dv 0) F.n_range) (by first | decide +kernel | rfl) (by intro _ _ _ _ _; exact (dg_nm 1 hN)) (by intro _ _ _ _ _; exact dts_nil) (by intro _ _ _ _ _; exact (dx_tup (da_cons (dx_tup (da_cons (dx_bin x_mul dx_int (dv 1)) da_nil)) (da_cons (dx_tup (da_cons (dx_bin x_add (dx_bin x_mul dx_int (dv 1)) dx_int) da_nil)) da_nil))))) db_nil))))
theorem fn_law {f : Addr} {fd : FuncData} (F : Fx ⟨K, P, w⟩ mg) (G : Fun K "law" "law" s_law f fd) (O_law_bound : Own P w K mg base "_law_bound" .E 2 3 W_law_bound) (O_law_changed : Own P w K mg base "_law_changed" .E 2 2 W_law_changed) (O_law_ends : Own P w K mg base "_law_ends" .F 1 1 W_law_ends) (O_law_in : Own P w K mg base "_law_in" .E 2 1 W_law_in) (O_law_is_bound : Own P w K mg base "_law_is_bound" .E 2 3 W_law_is_bound) (O_law_make : Own P w K mg base "_law_make" .E 2 2 W_law_make) (O_law_many : Own P w K mg base "_law_many" .E 1 1 W_law_many) (O_law_mixed : Own P w K mg base "_law_mixed" .E 3 1 W_law_mixed) (O_law_next : Own P w K mg base "_law_next" .E 1 1 W_law_next) (O_holds : Own P w K mg base "holds" .E 2 1 W_holds) (O_is_bound : Own P w K mg base "is_bound" .E 1 4 W_is_bound) : FnOk P w K mg base CX0 5 f fd ["_law_script"] (spW ⟨K, P, w⟩ .E 1 W_law) := by
  have hN := sc_law.nd
  exact fn_ofD (j := 4) (td := t_law) G sc_law fun cdv A outer s H E hr => (ds_cons (ds_for rfl (di_seq (dx_bin x_add (dx_lst (da_cons dx_int da_nil)) (dx_callTy x_listOf F.n_list (db_cons (dx_slice (dv 0) do_no (do_some dx_int)) db_nil)))) (dg_nm 1 hN) (ds_cons (ds_set hN (dx_call O_law_bound (hr.mono (by decide)) (da_cons (dv 1) (da_cons (dx_ix (dx_lst (da_cons dx_int (da_cons dx_int (da_cons dx_int da_nil)))) (dx_call O_law_mixed (hr.mono (by decide)) (da_cons (dv 1) (da_cons dx_int (da_cons dx_int da_nil))))) da_nil))))
  (ds_cons (ds_for rfl (di_seq (dx_lst (da_cons (dv 2) (da_cons (dx_call O_law_changed (hr.mono (by decide)) (da_cons (dv 2) (da_cons (dv 1) da_nil))) (da_cons (dx_call O_law_many (hr.mono (by decide)) (da_cons (dx_bin x_add dx_int (dx_call O_law_mixed (hr.mono (by decide)) (da_cons (dv 1) (da_cons dx_int (da_cons dx_int da_nil))))) da_nil)) da_nil))))) (dg_nm 3 hN) (ds_cons (ds_set hN (dx_call O_is_bound (hr.mono (by decide)) (da_cons (dv 3) da_nil)))
  (ds_one (ds_if (DW.dt (dw_or (dt_not (dt_tru (dx_isi (T := "bool") (dv 4) F.n_isinstance F.n_bool))) (dw_or1 (dt_cmp (x_ne hr.units) (dv 4) (dx_call O_law_is_bound (hr.mono (by decide)) (da_cons (dv 3) (da_cons dx_int da_nil)))))))
  (ds_one (ds_ret dx_bl))
  ds_nil))))
  (ds_one (ds_for rfl (di_seq (dx_bin x_add (dx_bin x_add (dx_call O_law_ends (hr.mono (by decide)) (da_cons (dx_lst (da_cons (dv 2) da_nil)) da_nil)) (dx_comp rfl hN (own := [("_law_low", 6), ("_law_high", 7)]) (di_seq (dv 2)) (by first | decide +kernel | rfl) (by intro _ _ _ _ _; exact (dg_tp (n := 2) rfl (dgs_cons (dg_nm 6 hN) (dgs_cons (dg_nm 7 hN) dgs_nil)))) (by intro _ _ _ _ _; exact dts_nil) (by intro _ _ _ _ _; exact (dx_or (dx_call O_law_next (hr.mono (by decide)) (da_cons (dv 6) da_nil)) (dx_one (dv 6)))))) (dx_lst (da_cons (dx_call O_law_make (hr.mono (by decide)) (da_cons (dv 1) (da_cons dx_int da_nil))) da_nil)))) (dg_nm 5 hN) (ds_cons (ds_set hN (dx_call O_holds (hr.mono (by decide)) (da_cons (dv 2) (da_cons (dv 5) da_nil))))
  (ds_one (ds_if (DW.dt (dw_or (dt_not (dt_tru (dx_isi (T := "bool") (dv 4) F.n_isinstance F.n_bool))) (dw_or1 (dt_cmp (x_ne hr.units) (dv 4) (dx_call O_law_in (hr.mono (by decide)) (da_cons (dv 2) (da_cons (dv 5) da_nil)))))))
  (ds_one (ds_ret dx_bl))
  ds_nil))))))))
  (ds_one (ds_ret dx_bl)))
end
/-! ### what the top has written -/
theorem all_mk {l : PySem.W.OpenLaw} {w : World} {K : PySem.W.Frag} {h : Heap} {mg : Str → Option Value} {fa : Addr}
    (X : K.In h) (G : h.Ns mainGlobals mg) (hfa : mg "law" = some (.ref fa))
    {f0 : Addr} {od0 an0 : Option Addr} {sl0 : Array (Option Value)} {oc0 kV0 dc0 pm0 cd0 ct0 : Value}
    (a0 : PySem.W.nsIn K mainGlobals "is_number" = some (some (.ref f0)))
    (l0 : K.lookup f0 = some ⟨oc0, od0, .func (PySem.W.fnOf "is_number" "is_number" (defArgs s_is_number) (defBody s_is_number) (defScope s_is_number) .none kV0 dc0 pm0 an0 cd0 ct0), sl0⟩)
    (c0 : PySem.W.codeIn K cd0 "is_number" = true)
    (k0 : PySem.W.keepIn K (.ref f0) = true)
    {f1 : Addr} {od1 an1 : Option Addr} {sl1 : Array (Option Value)} {oc1 kV1 dc1 pm1 cd1 ct1 : Value}
    (a1 : PySem.W.nsIn K mainGlobals "is_make" = some (some (.ref f1)))
    (l1 : K.lookup f1 = some ⟨oc1, od1, .func (PySem.W.fnOf "is_make" "is_make" (defArgs s_is_make) (defBody s_is_make) (defScope s_is_make) .none kV1 dc1 pm1 an1 cd1 ct1), sl1⟩)
    (c1 : PySem.W.codeIn K cd1 "is_make" = true)
    (k1 : PySem.W.keepIn K (.ref f1) = true)
    {f2 : Addr} {od2 an2 : Option Addr} {sl2 : Array (Option Value)} {oc2 kV2 dc2 pm2 cd2 ct2 : Value}
    (a2 : PySem.W.nsIn K mainGlobals "is_piece" = some (some (.ref f2)))
    (l2 : K.lookup f2 = some ⟨oc2, od2, .func (PySem.W.fnOf "is_piece" "is_piece" (defArgs s_is_piece) (defBody s_is_piece) (defScope s_is_piece) .none kV2 dc2 pm2 an2 cd2 ct2), sl2⟩)
    (c2 : PySem.W.codeIn K cd2 "is_piece" = true)
    (k2 : PySem.W.keepIn K (.ref f2) = true)
    {f3 : Addr} {od3 an3 : Option Addr} {sl3 : Array (Option Value)} {oc3 kV3 dc3 pm3 cd3 ct3 : Value}
    (a3 : PySem.W.nsIn K mainGlobals "is_bound" = some (some (.ref f3)))
    (l3 : K.lookup f3 = some ⟨oc3, od3, .func (PySem.W.fnOf "is_bound" "is_bound" (defArgs s_is_bound) (defBody s_is_bound) (defScope s_is_bound) .none kV3 dc3 pm3 an3 cd3 ct3), sl3⟩)
    (c3 : PySem.W.codeIn K cd3 "is_bound" = true)
    (k3 : PySem.W.keepIn K (.ref f3) = true)
    {f4 : Addr} {od4 an4 : Option Addr} {sl4 : Array (Option Value)} {oc4 kV4 dc4 pm4 cd4 ct4 : Value}
    (a4 : PySem.W.nsIn K mainGlobals "holds" = some (some (.ref f4)))
    (l4 : K.lookup f4 = some ⟨oc4, od4, .func (PySem.W.fnOf "holds" "holds" (defArgs s_holds) (defBody s_holds) (defScope s_holds) .none kV4 dc4 pm4 an4 cd4 ct4), sl4⟩)
    (c4 : PySem.W.codeIn K cd4 "holds" = true)
    (k4 : PySem.W.keepIn K (.ref f4) = true)
    {f5 : Addr} {od5 an5 : Option Addr} {sl5 : Array (Option Value)} {oc5 kV5 dc5 pm5 cd5 ct5 : Value}
    (a5 : PySem.W.nsIn K mainGlobals "_law_whole" = some (some (.ref f5)))
    (l5 : K.lookup f5 = some ⟨oc5, od5, .func (PySem.W.fnOf "_law_whole" "_law_whole" (defArgs s_law_whole) (defBody s_law_whole) (defScope s_law_whole) .none kV5 dc5 pm5 an5 cd5 ct5), sl5⟩)
    (c5 : PySem.W.codeIn K cd5 "_law_whole" = true)
    (k5 : PySem.W.keepIn K (.ref f5) = true)
    {f6 : Addr} {od6 an6 : Option Addr} {sl6 : Array (Option Value)} {oc6 kV6 dc6 pm6 cd6 ct6 : Value}
    (a6 : PySem.W.nsIn K mainGlobals "_law_mixed" = some (some (.ref f6)))
    (l6 : K.lookup f6 = some ⟨oc6, od6, .func (PySem.W.fnOf "_law_mixed" "_law_mixed" (defArgs s_law_mixed) (defBody s_law_mixed) (defScope s_law_mixed) .none kV6 dc6 pm6 an6 cd6 ct6), sl6⟩)
    (c6 : PySem.W.codeIn K cd6 "_law_mixed" = true)
    (k6 : PySem.W.keepIn K (.ref f6) = true)
    {f7 : Addr} {od7 an7 : Option Addr} {sl7 : Array (Option Value)} {oc7 kV7 dc7 pm7 cd7 ct7 : Value}
    (a7 : PySem.W.nsIn K mainGlobals "_law_make" = some (some (.ref f7)))
    (l7 : K.lookup f7 = some ⟨oc7, od7, .func (PySem.W.fnOf "_law_make" "_law_make" (defArgs s_law_make) (defBody s_law_make) (defScope s_law_make) .none kV7 dc7 pm7 an7 cd7 ct7), sl7⟩)
    (c7 : PySem.W.codeIn K cd7 "_law_make" = true)
    (k7 : PySem.W.keepIn K (.ref f7) = true)
    {f8 : Addr} {od8 an8 : Option Addr} {sl8 : Array (Option Value)} {oc8 kV8 dc8 pm8 cd8 ct8 : Value}
    (a8 : PySem.W.nsIn K mainGlobals "_law_next" = some (some (.ref f8)))
    (l8 : K.lookup f8 = some ⟨oc8, od8, .func (PySem.W.fnOf "_law_next" "_law_next" (defArgs s_law_next) (defBody s_law_next) (defScope s_law_next) .none kV8 dc8 pm8 an8 cd8 ct8), sl8⟩)
    (c8 : PySem.W.codeIn K cd8 "_law_next" = true)
    (k8 : PySem.W.keepIn K (.ref f8) = true)
    {f9 : Addr} {od9 an9 : Option Addr} {sl9 : Array (Option Value)} {oc9 kV9 dc9 pm9 cd9 ct9 : Value}
    (a9 : PySem.W.nsIn K mainGlobals "_law_is_make" = some (some (.ref f9)))
    (l9 : K.lookup f9 = some ⟨oc9, od9, .func (PySem.W.fnOf "_law_is_make" "_law_is_make" (defArgs s_law_is_make) (defBody s_law_is_make) (defScope s_law_is_make) .none kV9 dc9 pm9 an9 cd9 ct9), sl9⟩)
    (c9 : PySem.W.codeIn K cd9 "_law_is_make" = true)
    (k9 : PySem.W.keepIn K (.ref f9) = true)
    {f10 : Addr} {od10 an10 : Option Addr} {sl10 : Array (Option Value)} {oc10 kV10 dc10 pm10 cd10 ct10 : Value}
    (a10 : PySem.W.nsIn K mainGlobals "_law_bound" = some (some (.ref f10)))
    (l10 : K.lookup f10 = some ⟨oc10, od10, .func (PySem.W.fnOf "_law_bound" "_law_bound" (defArgs s_law_bound) (defBody s_law_bound) (defScope s_law_bound) .none kV10 dc10 pm10 an10 cd10 ct10), sl10⟩)
    (c10 : PySem.W.codeIn K cd10 "_law_bound" = true)
    (k10 : PySem.W.keepIn K (.ref f10) = true)
    {f11 : Addr} {od11 an11 : Option Addr} {sl11 : Array (Option Value)} {oc11 kV11 dc11 pm11 cd11 ct11 : Value}
    (a11 : PySem.W.nsIn K mainGlobals "_law_in" = some (some (.ref f11)))
    (l11 : K.lookup f11 = some ⟨oc11, od11, .func (PySem.W.fnOf "_law_in" "_law_in" (defArgs s_law_in) (defBody s_law_in) (defScope s_law_in) .none kV11 dc11 pm11 an11 cd11 ct11), sl11⟩)
    (c11 : PySem.W.codeIn K cd11 "_law_in" = true)
    (k11 : PySem.W.keepIn K (.ref f11) = true)
    {f12 : Addr} {od12 an12 : Option Addr} {sl12 : Array (Option Value)} {oc12 kV12 dc12 pm12 cd12 ct12 : Value}
    (a12 : PySem.W.nsIn K mainGlobals "_law_is_bound" = some (some (.ref f12)))
    (l12 : K.lookup f12 = some ⟨oc12, od12, .func (PySem.W.fnOf "_law_is_bound" "_law_is_bound" (defArgs s_law_is_bound) (defBody s_law_is_bound) (defScope s_law_is_bound) .none kV12 dc12 pm12 an12 cd12 ct12), sl12⟩)
    (c12 : PySem.W.codeIn K cd12 "_law_is_bound" = true)
    (k12 : PySem.W.keepIn K (.ref f12) = true)
    {f13 : Addr} {od13 an13 : Option Addr} {sl13 : Array (Option Value)} {oc13 kV13 dc13 pm13 cd13 ct13 : Value}
    (a13 : PySem.W.nsIn K mainGlobals "_law_ends" = some (some (.ref f13)))
    (l13 : K.lookup f13 = some ⟨oc13, od13, .func (PySem.W.fnOf "_law_ends" "_law_ends" (defArgs s_law_ends) (defBody s_law_ends) (defScope s_law_ends) .none kV13 dc13 pm13 an13 cd13 ct13), sl13⟩)
    (c13 : PySem.W.codeIn K cd13 "_law_ends" = true)
    (k13 : PySem.W.keepIn K (.ref f13) = true)
    {f14 : Addr} {od14 an14 : Option Addr} {sl14 : Array (Option Value)} {oc14 kV14 dc14 pm14 cd14 ct14 : Value}
    (a14 : PySem.W.nsIn K mainGlobals "_law_changed" = some (some (.ref f14)))
    (l14 : K.lookup f14 = some ⟨oc14, od14, .func (PySem.W.fnOf "_law_changed" "_law_changed" (defArgs s_law_changed) (defBody s_law_changed) (defScope s_law_changed) .none kV14 dc14 pm14 an14 cd14 ct14), sl14⟩)
    (c14 : PySem.W.codeIn K cd14 "_law_changed" = true)
    (k14 : PySem.W.keepIn K (.ref f14) = true)
    {f15 : Addr} {od15 an15 : Option Addr} {sl15 : Array (Option Value)} {oc15 kV15 dc15 pm15 cd15 ct15 : Value}
    (a15 : PySem.W.nsIn K mainGlobals "_law_many" = some (some (.ref f15)))
    (l15 : K.lookup f15 = some ⟨oc15, od15, .func (PySem.W.fnOf "_law_many" "_law_many" (defArgs s_law_many) (defBody s_law_many) (defScope s_law_many) .none kV15 dc15 pm15 an15 cd15 ct15), sl15⟩)
    (c15 : PySem.W.codeIn K cd15 "_law_many" = true)
    (k15 : PySem.W.keepIn K (.ref f15) = true)
    {f16 : Addr} {od16 an16 : Option Addr} {sl16 : Array (Option Value)} {oc16 kV16 dc16 pm16 cd16 ct16 : Value}
    (a16 : PySem.W.nsIn K mainGlobals "law" = some (some (.ref f16)))
    (l16 : K.lookup f16 = some ⟨oc16, od16, .func (PySem.W.fnOf "law" "law" (defArgs s_law) (defBody s_law) (defScope s_law) .none kV16 dc16 pm16 an16 cd16 ct16), sl16⟩)
    (c16 : PySem.W.codeIn K cd16 "law" = true)
    (k16 : PySem.W.keepIn K (.ref f16) = true)
    (z_all : PySem.W.nsIn K mainGlobals "all" = some none)
    (z_any : PySem.W.nsIn K mainGlobals "any" = some none)
    (z_bool : PySem.W.nsIn K mainGlobals "bool" = some none)
    (z_int : PySem.W.nsIn K mainGlobals "int" = some none)
    (z_isinstance : PySem.W.nsIn K mainGlobals "isinstance" = some none)
    (z_len : PySem.W.nsIn K mainGlobals "len" = some none)
    (z_list : PySem.W.nsIn K mainGlobals "list" = some none)
    (z_range : PySem.W.nsIn K mainGlobals "range" = some none)
    (z_set : PySem.W.nsIn K mainGlobals "set" = some none)
    (z_sorted : PySem.W.nsIn K mainGlobals "sorted" = some none)
    (z_tuple : PySem.W.nsIn K mainGlobals "tuple" = some none)
    {t_MOST_NUMBER : Tok} (y_MOST_NUMBER : PySem.W.nsIn K mainGlobals "MOST_NUMBER" = some (some (.int 9999 t_MOST_NUMBER)))
    {t_MOST_NUMBERS : Tok} (y_MOST_NUMBERS : PySem.W.nsIn K mainGlobals "MOST_NUMBERS" = some (some (.int 4 t_MOST_NUMBERS)))
    {t_MOST_PIECES : Tok} (y_MOST_PIECES : PySem.W.nsIn K mainGlobals "MOST_PIECES" = some (some (.int 16 t_MOST_PIECES))) :
    ∃ fd : FuncData, (∀ (s : Shared) (v : Value), BindsTo s fd ⟨[v], []⟩ [("_law_script", v)]) ∧ ∀ base : Heap, K.In base → base.Ns mainGlobals mg → FnOk l.prog w K mg base CX0 5 fa fd ["_law_script"] (spLaw K) := by
  have e := hfa.symm.trans (PySem.W.mg_of X G a16)
  cases e
  have F : Fx ⟨K, l.prog, w⟩ mg := ⟨PySem.W.mg_none_of X G z_all, PySem.W.mg_none_of X G z_any, PySem.W.mg_none_of X G z_bool, PySem.W.mg_none_of X G z_int, PySem.W.mg_none_of X G z_isinstance, PySem.W.mg_none_of X G z_len, PySem.W.mg_none_of X G z_list, PySem.W.mg_none_of X G z_range, PySem.W.mg_none_of X G z_set, PySem.W.mg_none_of X G z_sorted, PySem.W.mg_none_of X G z_tuple, gc_int (PySem.W.mg_of X G y_MOST_NUMBER), gc_int (PySem.W.mg_of X G y_MOST_NUMBERS), gc_int (PySem.W.mg_of X G y_MOST_PIECES)⟩
  have F0 := fun_mk (st := s_is_number) l0 c0 k0
  have b0 := F0.binds (ps := ["thing"]) fun _ _ _ _ _ _ us hl => match us, hl with | [_], _ => rfl
  have F1 := fun_mk (st := s_is_make) l1 c1 k1
  have b1 := F1.binds (ps := ["thing"]) fun _ _ _ _ _ _ us hl => match us, hl with | [_], _ => rfl
  have F2 := fun_mk (st := s_is_piece) l2 c2 k2
  have b2 := F2.binds (ps := ["thing"]) fun _ _ _ _ _ _ us hl => match us, hl with | [_], _ => rfl
  have F3 := fun_mk (st := s_is_bound) l3 c3 k3
  have b3 := F3.binds (ps := ["thing"]) fun _ _ _ _ _ _ us hl => match us, hl with | [_], _ => rfl
  have F4 := fun_mk (st := s_holds) l4 c4 k4
  have b4 := F4.binds (ps := ["bound", "make"]) fun _ _ _ _ _ _ us hl => match us, hl with | [_, _], _ => rfl
  have F5 := fun_mk (st := s_law_whole) l5 c5 k5
  have b5 := F5.binds (ps := ["_law_found"]) fun _ _ _ _ _ _ us hl => match us, hl with | [_], _ => rfl
  have F6 := fun_mk (st := s_law_mixed) l6 c6 k6
  have b6 := F6.binds (ps := ["_law_cell", "_law_k", "_law_many_here"]) fun _ _ _ _ _ _ us hl => match us, hl with | [_, _, _], _ => rfl
  have F7 := fun_mk (st := s_law_make) l7 c7 k7
  have b7 := F7.binds (ps := ["_law_cell", "_law_k"]) fun _ _ _ _ _ _ us hl => match us, hl with | [_, _], _ => rfl
  have F8 := fun_mk (st := s_law_next) l8 c8 k8
  have b8 := F8.binds (ps := ["_law_make_here"]) fun _ _ _ _ _ _ us hl => match us, hl with | [_], _ => rfl
  have F9 := fun_mk (st := s_law_is_make) l9 c9 k9
  have b9 := F9.binds (ps := ["_law_thing"]) fun _ _ _ _ _ _ us hl => match us, hl with | [_], _ => rfl
  have F10 := fun_mk (st := s_law_bound) l10 c10 k10
  have b10 := F10.binds (ps := ["_law_cell", "_law_most"]) fun _ _ _ _ _ _ us hl => match us, hl with | [_, _], _ => rfl
  have F11 := fun_mk (st := s_law_in) l11 c11 k11
  have b11 := F11.binds (ps := ["_law_bound_here", "_law_make_here"]) fun _ _ _ _ _ _ us hl => match us, hl with | [_, _], _ => rfl
  have F12 := fun_mk (st := s_law_is_bound) l12 c12 k12
  have b12 := F12.binds (ps := ["_law_thing", "_law_most"]) fun _ _ _ _ _ _ us hl => match us, hl with | [_, _], _ => rfl
  have F13 := fun_mk (st := s_law_ends) l13 c13 k13
  have b13 := F13.binds (ps := ["_law_bounds"]) fun _ _ _ _ _ _ us hl => match us, hl with | [_], _ => rfl
  have F14 := fun_mk (st := s_law_changed) l14 c14 k14
  have b14 := F14.binds (ps := ["_law_bound_here", "_law_cell"]) fun _ _ _ _ _ _ us hl => match us, hl with | [_, _], _ => rfl
  have F15 := fun_mk (st := s_law_many) l15 c15 k15
  have b15 := F15.binds (ps := ["_law_count"]) fun _ _ _ _ _ _ us hl => match us, hl with | [_], _ => rfl
  have F16 := fun_mk (st := s_law) l16 c16 k16
  have b16 := F16.binds (ps := ["_law_script"]) fun _ _ _ _ _ _ us hl => match us, hl with | [_], _ => rfl
  refine ⟨PySem.W.fnOf "law" "law" (defArgs s_law) (defBody s_law) (defScope s_law) .none kV16 dc16 pm16 an16 cd16 ct16, fun s v => .of_eq rfl, fun base _ _ => ?_⟩
  have O_is_number := own_is_number (base := base) F F0 (PySem.W.mg_of X G a0) b0
  have O_is_make := own_is_make (base := base) F F1 (PySem.W.mg_of X G a1) b1 O_is_number
  have O_is_piece := own_is_piece (base := base) F F2 (PySem.W.mg_of X G a2) b2 O_is_make
  have O_is_bound := own_is_bound (base := base) F F3 (PySem.W.mg_of X G a3) b3 O_is_piece
  have O_holds := own_holds (base := base) F F4 (PySem.W.mg_of X G a4) b4
  have O_law_whole := own_law_whole (base := base) F F5 (PySem.W.mg_of X G a5) b5
  have O_law_mixed := own_law_mixed (base := base) F F6 (PySem.W.mg_of X G a6) b6
  have O_law_make := own_law_make (base := base) F F7 (PySem.W.mg_of X G a7) b7 O_law_mixed
  have O_law_next := own_law_next (base := base) F F8 (PySem.W.mg_of X G a8) b8
  have O_law_is_make := own_law_is_make (base := base) F F9 (PySem.W.mg_of X G a9) b9 O_law_whole
  have O_law_bound := own_law_bound (base := base) F F10 (PySem.W.mg_of X G a10) b10 O_law_make O_law_mixed O_law_next
  have O_law_in := own_law_in (base := base) F F11 (PySem.W.mg_of X G a11) b11
  have O_law_is_bound := own_law_is_bound (base := base) F F12 (PySem.W.mg_of X G a12) b12 O_law_is_make
  have O_law_ends := own_law_ends (base := base) F F13 (PySem.W.mg_of X G a13) b13
  have O_law_changed := own_law_changed (base := base) F F14 (PySem.W.mg_of X G a14) b14 O_law_mixed
  have O_law_many := own_law_many (base := base) F F15 (PySem.W.mg_of X G a15) b15
  exact law_fn (fn_law (base := base) F F16 O_law_bound O_law_changed O_law_ends O_law_in O_law_is_bound O_law_make O_law_many O_law_mixed O_law_next O_holds O_is_bound) law_ok
end Wy

set_option maxRecDepth 100000
set_option maxHeartbeats 4000000
open PySem PySem.W PyProof.Rows
set_option maxRecDepth 100000 in
set_option maxHeartbeats 0 in
theorem PySem.Challenge.cw_wishyard_k03_bounds_holds : PySem.Challenge.rw_wishyard_k03_bounds.Holds := by
  w_on; o_law; k_head; (case hw => w_witness2)
  k_fill
  refine L2.walk_of (l := PySem.Challenge.rw_wishyard_k03_bounds) (n := 63) (k := 5) (x := "_law_script") (CX := fun _ => L2.CX0) (sp := fun w => DL.spLaw _) rfl (by decide) rfl ⟨rfl, by decide, by decide⟩ (fun w h Y => PySem.W.kIn_of Y) ?F (fun _ _ a ns hl _ hS => ⟨a, ns, rfl, hS, hl, fun _ => rfl⟩) (fun _ _ _ _ _ h => h)
  case F =>
    intro w mg fa h KX G hmg
    refine' Wy.all_mk KX G hmg ?a0 ?l0 ?c0 ?k0 ?a1 ?l1 ?c1 ?k1 ?a2 ?l2 ?c2 ?k2 ?a3 ?l3 ?c3 ?k3 ?a4 ?l4 ?c4 ?k4 ?a5 ?l5 ?c5 ?k5 ?a6 ?l6 ?c6 ?k6 ?a7 ?l7 ?c7 ?k7 ?a8 ?l8 ?c8 ?k8 ?a9 ?l9 ?c9 ?k9 ?a10 ?l10 ?c10 ?k10 ?a11 ?l11 ?c11 ?k11 ?a12 ?l12 ?c12 ?k12 ?a13 ?l13 ?c13 ?k13 ?a14 ?l14 ?c14 ?k14 ?a15 ?l15 ?c15 ?k15 ?a16 ?l16 ?c16 ?k16 ?z_all ?z_any ?z_bool ?z_int ?z_isinstance ?z_len ?z_list ?z_range ?z_set ?z_sorted ?z_tuple ?y_MOST_NUMBER ?y_MOST_NUMBERS ?y_MOST_PIECES
    (case a0 => k_is)
    (case l0 => k_is)
    (case c0 => k_is)
    (case k0 => k_is)
    (case a1 => k_is)
    (case l1 => k_is)
    (case c1 => k_is)
    (case k1 => k_is)
    (case a2 => k_is)
    (case l2 => k_is)
    (case c2 => k_is)
    (case k2 => k_is)
    (case a3 => k_is)
    (case l3 => k_is)
    (case c3 => k_is)
    (case k3 => k_is)
    (case a4 => k_is)
    (case l4 => k_is)
    (case c4 => k_is)
    (case k4 => k_is)
    (case a5 => k_is)
    (case l5 => k_is)
    (case c5 => k_is)
    (case k5 => k_is)
    (case a6 => k_is)
    (case l6 => k_is)
    (case c6 => k_is)
    (case k6 => k_is)
    (case a7 => k_is)
    (case l7 => k_is)
    (case c7 => k_is)
    (case k7 => k_is)
    (case a8 => k_is)
    (case l8 => k_is)
    (case c8 => k_is)
    (case k8 => k_is)
    (case a9 => k_is)
    (case l9 => k_is)
    (case c9 => k_is)
    (case k9 => k_is)
    (case a10 => k_is)
    (case l10 => k_is)
    (case c10 => k_is)
    (case k10 => k_is)
    (case a11 => k_is)
    (case l11 => k_is)
    (case c11 => k_is)
    (case k11 => k_is)
    (case a12 => k_is)
    (case l12 => k_is)
    (case c12 => k_is)
    (case k12 => k_is)
    (case a13 => k_is)
    (case l13 => k_is)
    (case c13 => k_is)
    (case k13 => k_is)
    (case a14 => k_is)
    (case l14 => k_is)
    (case c14 => k_is)
    (case k14 => k_is)
    (case a15 => k_is)
    (case l15 => k_is)
    (case c15 => k_is)
    (case k15 => k_is)
    (case a16 => k_is)
    (case l16 => k_is)
    (case c16 => k_is)
    (case k16 => k_is)
    (case z_all => k_is)
    (case z_any => k_is)
    (case z_bool => k_is)
    (case z_int => k_is)
    (case z_isinstance => k_is)
    (case z_len => k_is)
    (case z_list => k_is)
    (case z_range => k_is)
    (case z_set => k_is)
    (case z_sorted => k_is)
    (case z_tuple => k_is)
    (case y_MOST_NUMBER => k_is)
    (case y_MOST_NUMBERS => k_is)
    (case y_MOST_PIECES => k_is)


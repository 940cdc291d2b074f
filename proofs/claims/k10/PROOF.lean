import PyProof.Rows.All
import Wide.All
import OpenK.AllK
import Wide.FinOn
import HandS.ForMost
import HandS.ForExc
import HandS.Flow
import HandS.Style
import HandS.IsInst
import HandS.Deep
import HandS.TupAny
import HandS.TupMul
import HandS.TupLe
import KE.SortData
import KE.SortKeyHeap
import HandS.Text
import KE.DatumOrd
import PySem.Challenge.RW_wishyard_k10_names
set_option Elab.async false
set_option linter.all false
set_option maxRecDepth 100000
/-! DLa: what statements do, over plain data: predicate transformers without a heap. -/
namespace DL
open PySem
/-- a slot: frozen data, or an own list or dict that may still be changed -/
inductive Sl where
  | dat (d : PyData)
  | own (d : PyData)
abbrev Rho := List (Option Sl)
abbrev WE := Rho → (PyData → Prop) → Prop
abbrev WT := Rho → (Bool → Prop) → Prop
abbrev WA := Rho → (List PyData → Prop) → Prop
abbrev W1 := PyData → (PyData → Prop) → Prop
abbrev W2 := PyData → PyData → (PyData → Prop) → Prop
abbrev WF := List PyData → (PyData → Prop) → Prop
abbrev WG := PyData → Rho → (Rho → Prop) → Prop
abbrev WGs := List PyData → Rho → (Rho → Prop) → Prop

def wVar (i : Nat) : WE := fun ρ P => match ρ[i]? with
  | some (some (.dat d)) => P d
  | _ => False
def wMut (i : Nat) : WE := fun ρ P => match ρ[i]? with
  | some (some (.own d)) => P d
  | _ => False
def wC (d : PyData) : WE := fun _ P => P d
def w1 (g : W1) (a : WE) : WE := fun ρ P => a ρ fun x => g x P
def w2 (g : W2) (a b : WE) : WE := fun ρ P => a ρ fun x => b ρ fun y => g x y P
def aNil : WA := fun _ P => P []
def aCons (a : WE) (r : WA) : WA := fun ρ P => a ρ fun x => r ρ fun xs => P (x :: xs)
def wApp (g : WF) (as : WA) : WE := fun ρ P => as ρ fun ds => g ds P
def fList : WF := fun ds P => P (.list ds)
def fTup : WF := fun ds P => P (.tuple ds)

/-! ### tests -/
def tVal (a : WE) : WT := fun ρ P => a ρ fun d => match d with
  | .bool b => P b
  | _ => False
def tAnd (a b : WT) : WT := fun ρ P => a ρ fun c => match c with
  | true => b ρ P
  | false => P false
def tOr (a b : WT) : WT := fun ρ P => a ρ fun c => match c with
  | true => P true
  | false => b ρ P
def tNot (a : WT) : WT := fun ρ P => a ρ fun c => P (!c)
def truD : PyData → (Bool → Prop) → Prop
  | .none, P => P false
  | .bool b, P => P b
  | .int i, P => P (i != 0)
  | .str x, P => P (x.length != 0)
  | .list xs, P => P (!xs.isEmpty)
  | .tuple xs, P => P (!xs.isEmpty)
  | .dict _, _ => False
def tTru (a : WE) : WT := fun ρ P => a ρ fun d => truD d P
def tYes : WT := fun _ P => P true
def wIf (t : WT) (a b : WE) : WE := fun ρ P => t ρ fun c => match c with
  | true => a ρ P
  | false => b ρ P
def wOr (a b : WE) : WE := fun ρ P => a ρ fun d => truD d fun c => match c with
  | true => P d
  | false => b ρ P
def wAnd (a b : WE) : WE := fun ρ P => a ρ fun d => truD d fun c => match c with
  | true => b ρ P
  | false => P d
def wNot (a : WE) : WE := fun ρ P => a ρ fun d => truD d fun c => P (.bool (!c))
def wChain (g g' : W2) (a b c : WE) : WE := fun ρ P => a ρ fun x => b ρ fun y => g x y fun z => match z with
  | .bool true => c ρ fun u => g' y u P
  | .bool false => P (.bool false)
  | _ => False

/-! ### operators -/
def noDict : PyData → Bool
  | .dict _ => false
  | .list xs => noDicts xs
  | .tuple xs => noDicts xs
  | _ => true
where noDicts : List PyData → Bool
  | [] => true
  | x :: xs => noDict x && noDicts xs
/-- may be compared -/
def Flat (d : PyData) : Prop := noDict d = true ∧ d.depth ≤ 64
def oEq : W2 := fun x y P => Flat x ∧ Flat y ∧ P (.bool (PyData.eqv x y))
def oNe : W2 := fun x y P => Flat x ∧ Flat y ∧ P (.bool (!PyData.eqv x y))
def oLt : W2 := fun x y P => match x, y with
  | .int i, .int j => P (.bool (decide (i < j)))
  | .str a, .str b => P (.bool (decide (a.cps.toList < b.cps.toList)))
  | x, y => PySem.W.alike x y = true ∧ x ≠ .none ∧ Flat x ∧ Flat y ∧ P (.bool (PySem.W.dataLt x y))
def oGt : W2 := fun x y P => match x, y with
  | .int i, .int j => P (.bool (decide (j < i)))
  | _, _ => False
def oLe : W2 := fun x y P => match x, y with
  | .int i, .int j => P (.bool (decide (i ≤ j)))
  | _, _ => False
def oGe : W2 := fun x y P => match x, y with
  | .int i, .int j => P (.bool (decide (j ≤ i)))
  | _, _ => False
def isNone : PyData → Bool
  | .none => true
  | _ => false
def oIs : W2 := fun x y P => match y with
  | .none => P (.bool (isNone x))
  | .bool b => match x with
    | .bool a => P (.bool (decide (a = b)))
    | _ => False
  | _ => False
def oIsNot : W2 := fun x y P => match y with
  | .none => P (.bool (!isNone x))
  | .bool b => match x with
    | .bool a => P (.bool (!decide (a = b)))
    | _ => False
  | _ => False
def oIn : W2 := fun x y P => match y with
  | .list ds => Flat x ∧ Flat (.list ds) ∧ P (.bool (ds.any fun z => PyData.eqv z x))
  | .tuple ds => Flat x ∧ Flat (.list ds) ∧ P (.bool (ds.any fun z => PyData.eqv z x))
  | .str z => match x with
    | .str i => P (.bool (!(Builtin.Str.occurrences z i 0 z.length 1).isEmpty))
    | _ => False
  | _ => False
def oNotIn : W2 := fun x y P => oIn x y fun d => match d with
  | .bool b => P (.bool (!b))
  | _ => False
def oAdd : W2 := fun x y P => match x, y with
  | .int i, .int j => P (.int (i + j))
  | .str a, .str b => a.length + b.length ≤ sizeLine ∧ P (.str (a ++ b))
  | .tuple a, .tuple b => a.length + b.length ≤ sizeLine ∧ P (.tuple (a ++ b))
  | .list a, .list b => a.length + b.length ≤ sizeLine ∧ P (.list (a ++ b))
  | _, _ => False
def oSub : W2 := fun x y P => match x, y with
  | .int i, .int j => P (.int (i - j))
  | _, _ => False
def repS : Nat → Str → Str
  | 0, _ => Str.empty
  | n + 1, a => a ++ repS n a
def oMul : W2 := fun x y P => match x, y with
  | .int i, .int j => ((-(2 ^ 64) < i ∧ i < 2 ^ 64) ∨ (-(2 ^ 64) < j ∧ j < 2 ^ 64)) ∧ P (.int (i * j))
  | .tuple a, .int j => (a ≠ [] ∧ 1 ≤ j ∧ j ≤ 1000 ∧ a.length ≤ 1000) ∧ P (.tuple (List.replicate j.toNat a).flatten)
  | .str a, .int j => (0 ≤ j ∧ j ≤ 1000 ∧ a.length ≤ 1000) ∧ P (.str (repS j.toNat a))
  | .list a, .int j => (0 ≤ j ∧ j ≤ 1000 ∧ a.length ≤ 1000) ∧ P (.list (List.replicate j.toNat a).flatten)
  | _, _ => False
/-- .. a new list -/
def oMulL : W2 := fun x y P => match x, y with
  | .list a, .int j => (0 ≤ j ∧ j ≤ 1000 ∧ a.length ≤ 1000) ∧ P (.list (List.replicate j.toNat a).flatten)
  | _, _ => False
def oMod : W2 := fun x y P => match x, y with
  | .int i, .int j => 0 < j ∧ P (.int (i % j))
  | _, _ => False
def oDiv : W2 := fun x y P => match x, y with
  | .int i, .int j => (0 < j ∧ j < 1073741824) ∧ P (.int (i / j))
  | _, _ => False
def oNeg : W1 := fun x P => match x with
  | .int i => P (.int (-i))
  | _ => False
def oIx : W2 := fun x y P => match x, y with
  | .list ds, .int i => ∃ v, L2.atI ds i = some v ∧ P v
  | .tuple ds, .int i => ∃ v, L2.atI ds i = some v ∧ P v
  | .str z, .int i => ∃ c, L2.atI z.cps.toList i = some c ∧ P (.str ⟨#[c]⟩)
  | _, _ => False
def cutD {α : Type} (xs : List α) (lo hi : Option Int) : List α := (xs.drop (HT.sIx xs.length 0 lo)).take (HT.sIx xs.length xs.length hi - HT.sIx xs.length 0 lo)
/-- a part of a slice -/
abbrev WO := Rho → (Option Int → Prop) → Prop
def oNo : WO := fun _ P => P none
def oPart (a : WE) : WO := fun ρ P => a ρ fun d => match d with
  | .int i => P (some i)
  | _ => False
def sliceD : PyData → Option Int → Option Int → (PyData → Prop) → Prop
  | .list xs, lo, hi, P => P (.list (cutD xs lo hi))
  | .tuple xs, lo, hi, P => P (.tuple (cutD xs lo hi))
  | .str z, lo, hi, P => P (.str (L2.cutS z lo hi))
  | _, _, _, _ => False
def wSlice (a : WE) (lo hi : WO) : WE := fun ρ P => a ρ fun d => lo ρ fun l => hi ρ fun h => sliceD d l h P

/-! ### built-in functions -/
def fLen : WF := fun ds P => match ds with
  | [.list xs] => P (.int xs.length)
  | [.tuple xs] => P (.int xs.length)
  | [.str z] => P (.int z.length)

  | _ => False
def boolsOf : List PyData → Option (List Bool)
  | [] => some []
  | .bool b :: ds => (boolsOf ds).map (b :: ·)
  | _ :: _ => none
def fAll : WF := fun ds P => match ds with
  | [.list xs] => ∃ bs, boolsOf xs = some bs ∧ P (.bool (bs.all id))
  | _ => False
def fAny : WF := fun ds P => match ds with
  | [.list xs] => ∃ bs, boolsOf xs = some bs ∧ P (.bool (bs.any id))
  | _ => False
def fTupleOf : WF := fun ds P => match ds with
  | [.list xs] => P (.tuple xs)
  | [.tuple xs] => P (.tuple xs)
  | _ => False
def fListOf : WF := fun ds P => match ds with
  | [.list xs] => P (.list xs)
  | [.tuple xs] => P (.list xs)
  | _ => False
def fStrOf : WF := fun ds P => match ds with
  | [.int n] => (0 ≤ n ∧ n < 10 ^ 100) ∧ P (.str (Str.ofString (toString n)))
  | _ => False
def fIntOf : WF := fun ds P => match ds with
  | [.str a] => a.length ≤ 640 ∧ ∃ n, intText? a = some n ∧ P (.int n)
  | [.int n] => P (.int n)
  | _ => False
/-- may be sorted -/
def SortOk (ds : List PyData) : Prop := PySem.W.AllAlike ds ∧ PySem.W.Sortable ds ∧ ∀ d ∈ ds, noDict d = true ∧ d.depth ≤ 60
def sortD (ds : List PyData) : List PyData := ds.mergeSort (PySem.W.dataLe false id)
def fSorted : WF := fun ds P => match ds with
  | [.list xs] => SortOk xs ∧ P (.list (sortD xs))
  | _ => False
def oUpper : W1 := fun x P => match x with
  | .str a => (a.length ≤ 5592405 ∧ PyData.strOk (Txt.upper a) = true ∧ (Txt.upper a).length ≤ sizeLine) ∧ P (.str (Txt.upper a))
  | _ => False
/-- isinstance of a built-in type -/
def isTy : String → PyData → Bool
  | "int", .int _ => true
  | "int", .bool _ => true
  | "bool", .bool _ => true
  | "str", .str _ => true
  | "list", .list _ => true
  | "tuple", .tuple _ => true
  | "dict", .dict _ => true
  | _, _ => false
def oIsi (ts : List String) : W1 := fun x P => P (.bool (ts.any fun t => isTy t x))

def strsOf : List PyData → Option (List Str)
  | [] => some []
  | .str s :: ds => (strsOf ds).map (s :: ·)
  | _ :: _ => none
/-- a method of a text -/
def wMs (g : Str → W1) (a b : WE) : WE := fun ρ P => a ρ fun x => match x with
  | .str s => b ρ fun y => g s y P
  | _ => False
def oJoin (a : Str) : W1 := fun y P => match y with
  | .list ds => ∃ ys, strsOf ds = some ys ∧ (ys.map (·.length)).sum + ys.length * a.length ≤ 16777216 ∧ P (.str (Str.join a ys))
  | .tuple ds => ∃ ys, strsOf ds = some ys ∧ (ys.map (·.length)).sum + ys.length * a.length ≤ 16777216 ∧ P (.str (Str.join a ys))
  | _ => False
def strL (l : List Nat) : PyData := .str ⟨l.toArray⟩
def oSplit (a : Str) : W1 := fun y P => match y with
  | .str b => (TL.tl b ≠ [] ∧ b.cps.all (· < 256) = true) ∧ a.length + 2 ≤ sizeLine ∧ P (.list ((TL.spl (TL.tl b) 0 [] (TL.tl a)).map strL))
  | _ => False
/-! ### what a loop walks -/
def iSeq (a : WE) : WA := fun ρ P => a ρ fun d => match d with
  | .list xs => P xs
  | .tuple xs => P xs
  | _ => False
def iStr (a : WE) : WA := fun ρ P => a ρ fun d => match d with
  | .str z => P (z.cps.toList.map fun c => .str ⟨#[c]⟩)
  | _ => False
def rangeD (lo hi : Int) : List PyData := (List.range (hi - lo).toNat).map fun (k : Nat) => .int (lo + (k : Int))
def iRange1 (a : WE) : WA := fun ρ P => a ρ fun d => match d with
  | .int j => (-(2 ^ 62) ≤ j ∧ j ≤ 16777216) ∧ P (rangeD 0 j)
  | _ => False
def iRange2 (a b : WE) : WA := fun ρ P => a ρ fun d => b ρ fun e => match d, e with
  | .int i, .int j => (-(2 ^ 62) ≤ i ∧ i < 2 ^ 62 ∧ -(2 ^ 62) ≤ j ∧ j < 2 ^ 62 ∧ j - i ≤ 16777216) ∧ P (rangeD i j)
  | _, _ => False

/-! ### targets -/
def gNm (i : Nat) : WG := fun d ρ P => P (ρ.set i (some (.dat d)))
def gNl : WGs := fun ds ρ P => match ds with
  | [] => P ρ
  | _ => False
def gCn (g : WG) (r : WGs) : WGs := fun ds ρ P => match ds with
  | d :: ds => g d ρ fun ρ' => r ds ρ' P
  | [] => False
def gTp (n : Nat) (r : WGs) : WG := fun d ρ P => match d with
  | .tuple ds => ds.length = n ∧ r ds ρ P
  | _ => False

/-! ### comprehensions -/
def wipeD (ρ : Rho) : List Nat → Rho
  | [] => ρ
  | v :: vs => (wipeD ρ vs).set v none
def compD (g : WG) (t : WT) (e : WE) (ρ : Rho) : List PyData → (List PyData → Prop) → Prop
  | [], P => P []
  | x :: xs, P => g x ρ fun ρ' => t ρ' fun c => match c with
    | true => e ρ' fun y => compD g t e ρ xs fun ys => P (y :: ys)
    | false => compD g t e ρ xs P
def wComp (it : WA) (own : List Nat) (g : WG) (t : WT) (e : WE) : WE := fun ρ P => it ρ fun xs => compD g t e (wipeD ρ own) xs fun ys => P (.list ys)

/-! ### statements -/
structure DEnds where
  nx : Rho → Prop
  rt : PyData → Prop
  bk : Rho → Prop := fun _ => False
  ct : Rho → Prop := fun _ => False
abbrev DTS := DEnds → Rho → Prop
def dNext : DTS := fun D ρ => D.nx ρ
def dSeq (t u : DTS) : DTS := fun D ρ => t { D with nx := u D } ρ
def dAsg (i : Nat) (a : WE) : DTS := fun D ρ => a ρ fun d => D.nx (ρ.set i (some (.dat d)))
def dAsgM (i : Nat) (a : WE) : DTS := fun D ρ => a ρ fun d => D.nx (ρ.set i (some (.own d)))
def dAsgG (g : WG) (a : WE) : DTS := fun D ρ => a ρ fun d => g d ρ D.nx
def dPar (i j : Nat) (as : WA) : DTS := fun D ρ => as ρ fun ds => match ds with
  | [x, y] => D.nx ((ρ.set i (some (.dat x))).set j (some (.dat y)))
  | _ => False
def dExpr (a : WE) : DTS := fun D ρ => a ρ fun _ => D.nx ρ
def dRet (a : WE) : DTS := fun D ρ => a ρ D.rt
def dRetN : DTS := fun D _ => D.rt .none
def dBreak : DTS := fun D ρ => D.bk ρ
def dCont : DTS := fun D ρ => D.ct ρ
def dIf (t : WT) (a b : DTS) : DTS := fun D ρ => t ρ fun c => match c with
  | true => a D ρ
  | false => b D ρ
def forD (g : WG) (b : DTS) (D : DEnds) : List PyData → Rho → Prop
  | [], ρ => D.nx ρ
  | x :: xs, ρ => g x ρ fun ρ' => b { D with nx := forD g b D xs, ct := forD g b D xs, bk := D.nx } ρ'
def dFor (it : WA) (g : WG) (b : DTS) : DTS := fun D ρ => it ρ fun xs => forD g b D xs ρ
def whileD (t : WT) (b : DTS) (D : DEnds) : Nat → Rho → Prop
  | 0, _ => False
  | n + 1, ρ => t ρ fun c => match c with
    | true => b { D with nx := whileD t b D n, ct := whileD t b D n, bk := D.nx } ρ
    | false => D.nx ρ
def dWhile (t : WT) (b : DTS) : DTS := fun D ρ => ∃ n, whileD t b D n ρ
def dAppend (i : Nat) (a : WE) : DTS := fun D ρ => match ρ[i]? with
  | some (some (.own (.list xs))) => a ρ fun d => xs.length < sizeLine ∧ D.nx (ρ.set i (some (.own (.list (xs ++ [d])))))
  | _ => False
def dPop (i : Nat) : DTS := fun D ρ => match ρ[i]? with
  | some (some (.own (.list xs))) => xs ≠ [] ∧ D.nx (ρ.set i (some (.own (.list xs.dropLast))))
  | _ => False
/-- x[k] = e, x an own list -/
def dSetL (i : Nat) (k a : WE) : DTS := fun D ρ => a ρ fun d => match ρ[i]? with
  | some (some (.own (.list xs))) => k ρ fun j => match j with
    | .int j => ∃ n, L2.ixN xs.length j = some n ∧ D.nx (ρ.set i (some (.own (.list (xs.set n d)))))
    | _ => False
  | _ => False
/-- x += e, x an own list -/
def dExtL (i : Nat) (a : WE) : DTS := fun D ρ => match ρ[i]? with
  | some (some (.own (.list xs))) => a ρ fun d => match d with
    | .list ys => xs.length + ys.length ≤ sizeLine ∧ D.nx (ρ.set i (some (.own (.list (xs ++ ys)))))
    | _ => False
  | _ => False
def dAug (i : Nat) (g : W2) (a : WE) : DTS := fun D ρ => match ρ[i]? with
  | some (some (.dat x)) => a ρ fun y => g x y fun z => D.nx (ρ.set i (some (.dat z)))
  | _ => False
/-- an own list is changed no more -/
def frz (ρ : Rho) (i : Nat) : Rho := match ρ[i]? with
  | some (some (.own d)) => ρ.set i (some (.dat d))
  | _ => ρ
def dFrz (i : Nat) (t : DTS) : DTS := fun D ρ => t D (frz ρ i)

def startD (n : Nat) (ds : List PyData) : Rho := ds.map (fun d => some (.dat d)) ++ List.replicate (n - ds.length) none
/-- two lists: a new one -/
def oAddL : W2 := fun x y P => match x, y with
  | .list a, .list b => a.length + b.length ≤ sizeLine ∧ P (.list (a ++ b))
  | _, _ => False
def oIadd : W2 := fun x y P => match x, y with
  | .int i, .int j => P (.int (i + j))
  | _, _ => False
/-- what a def of m parameters and n names does -/
def wDefF (m n : Nat) (t : DTS) : WF := fun ds P => ds.length = m ∧ t ⟨fun _ => False, P, fun _ => False, fun _ => False⟩ (startD n ds)
def wDef (m n : Nat) (t : DTS) : WF := fun ds P => ds.length = m ∧ t ⟨fun _ => P .none, P, fun _ => False, fun _ => False⟩ (startD n ds)
end DL

set_option maxRecDepth 100000
/-! DLb: how plain data lie in the heap; the judgements; their rules. -/
namespace DL
open PySem PySem.Spec PyProof.Rows L2
structure Kit where
  K : PySem.W.Frag
  P : Program
  w : World
def keyD : Key → PyData
  | .inl i => .int i
  | .inr x => .str x
/-- a dict's keys and values -/
inductive DctO : HO → List PyData → List V → Prop
  | k (kvs : List (Key × V)) : DctO (.dK kvs) (kvs.map fun p => keyD p.1) (kvs.map Prod.snd)
  | t (kvs : List (List Key × V)) : DctO (.dT kvs) (kvs.map fun p => .tuple (p.1.map keyD)) (kvs.map Prod.snd)
mutual
/-- a value reads as a datum in a heap -/
inductive Rp (κ : Kit) (H : Hp) : V → PyData → Prop
  | non : Rp κ H .non .none
  | bl (b : Bool) : Rp κ H (.bl b) (.bool b)
  | int (i : Int) : Rp κ H (.int i) (.int i)
  | str (x : Str) : x.length ≤ sizeLine → PyData.strOk x = true → Rp κ H (.str x) (.str x)
  | lst {a : Addr} {xs : List V} {ds : List PyData} : SqL κ.K H a xs → xs.length ≤ sizeLine → RpAll κ H xs ds → Rp κ H (.ref a) (.list ds)
  | tup {a : Addr} {xs : List V} {ds : List PyData} : SqT κ.K H a xs → xs.length ≤ sizeLine → RpAll κ H xs ds → Rp κ H (.ref a) (.tuple ds)
  | dct {a : Addr} {o : HO} {ks : List PyData} {xs : List V} {ds : List PyData} : H a = some o → DctO o ks xs → RpAll κ H xs ds → Rp κ H (.ref a) (.dict (ks.zip ds))
inductive RpAll (κ : Kit) (H : Hp) : List V → List PyData → Prop
  | nil : RpAll κ H [] []
  | cons {v : V} {vs : List V} {d : PyData} {ds : List PyData} : Rp κ H v d → RpAll κ H vs ds → RpAll κ H (v :: vs) (d :: ds)
end
theorem sameT {K : PySem.W.Frag} {H H' : Hp} {a : Addr} {xs : List V} (e : Same H H') (h : SqT K H a xs) : SqT K H' a xs := by
  rcases h with (h | ⟨o, h⟩) | h
  · exact .inl (.inl (e _ _ h))
  · exact .inl (.inr ⟨o, e _ _ h⟩)
  · exact .inr h
section
variable {κ : Kit} {F F' H H' : Hp}
mutual
theorem Rp.mono (e : Same F F') : ∀ {d : PyData} {v : V}, Rp κ F v d → Rp κ F' v d
  | _, _, .non => .non
  | _, _, .bl b => .bl b
  | _, _, .int i => .int i
  | _, _, .str x h1 h2 => .str x h1 h2
  | _, _, .lst h1 h2 h3 => .lst (e.seq h1) h2 (RpAll.mono e h3)
  | _, _, .tup h1 h2 h3 => .tup (sameT e h1) h2 (RpAll.mono e h3)
  | _, _, .dct h1 h2 h3 => .dct (e _ _ h1) h2 (RpAll.mono e h3)
theorem RpAll.mono (e : Same F F') : ∀ {ds : List PyData} {vs : List V}, RpAll κ F vs ds → RpAll κ F' vs ds
  | _, _, .nil => .nil
  | _, _, .cons h1 h2 => .cons (Rp.mono e h1) (RpAll.mono e h2)
end
theorem RpAll.length : ∀ {vs : List V} {ds : List PyData}, RpAll κ F vs ds → vs.length = ds.length
  | _, _, .nil => rfl
  | _, _, .cons _ h => by rw [List.length_cons, List.length_cons, RpAll.length h]
theorem RpAll.get : ∀ {vs : List V} {ds : List PyData} {i : Nat} {d : PyData}, RpAll κ F vs ds → ds[i]? = some d → ∃ v, vs[i]? = some v ∧ Rp κ F v d
  | _, _, _, _, .nil, e => by simp at e
  | _, _, 0, _, .cons h _, e => by simp at e; subst e; exact ⟨_, rfl, h⟩
  | _, _, i + 1, d, .cons _ t, e => by
    obtain ⟨v, h1, h2⟩ := RpAll.get (i := i) (d := d) t (by simpa using e)
    exact ⟨v, by simpa using h1, h2⟩
theorem RpAll.getV : ∀ {vs : List V} {ds : List PyData} {i : Nat} {v : V}, RpAll κ F vs ds → vs[i]? = some v → ∃ d, ds[i]? = some d ∧ Rp κ F v d
  | _, _, _, _, .nil, e => by simp at e
  | _, _, 0, _, .cons h _, e => by simp at e; subst e; exact ⟨_, rfl, h⟩
  | _, _, i + 1, d, .cons _ t, e => by
    obtain ⟨v, h1, h2⟩ := RpAll.getV (i := i) (v := d) t (by simpa using e)
    exact ⟨v, by simpa using h1, h2⟩
theorem RpAll.append : ∀ {vs ws : List V} {ds es : List PyData}, RpAll κ F vs ds → RpAll κ F ws es → RpAll κ F (vs ++ ws) (ds ++ es)
  | _, _, _, _, .nil, s => s
  | _, _, _, _, .cons r t, s => .cons r (RpAll.append t s)
theorem RpAll.take : ∀ {vs : List V} {ds : List PyData} (n : Nat), RpAll κ F vs ds → RpAll κ F (vs.take n) (ds.take n)
  | _, _, 0, _ => .nil
  | _, _, _ + 1, .nil => .nil
  | _, _, n + 1, .cons r t => .cons r (RpAll.take n t)
theorem RpAll.drop : ∀ {vs : List V} {ds : List PyData} (n : Nat), RpAll κ F vs ds → RpAll κ F (vs.drop n) (ds.drop n)
  | _, _, 0, r => r
  | _, _, _ + 1, .nil => .nil
  | _, _, n + 1, .cons _ t => RpAll.drop n t
theorem RpAll.set {v : V} {d : PyData} (r : Rp κ F v d) : ∀ {vs : List V} {ds : List PyData} (n : Nat), RpAll κ F vs ds → RpAll κ F (vs.set n v) (ds.set n d)
  | _, _, _, .nil => .nil
  | _, _, 0, .cons _ t => .cons r t
  | _, _, n + 1, .cons q t => .cons q (RpAll.set r n t)
theorem RpAll.dropLast {vs : List V} {ds : List PyData} (h : RpAll κ F vs ds) : RpAll κ F vs.dropLast ds.dropLast := by
  rw [List.dropLast_eq_take, List.dropLast_eq_take, h.length]
  exact h.take _
theorem RpAll.rep {vs : List V} {ds : List PyData} (h : RpAll κ F vs ds) : ∀ n : Nat, RpAll κ F (List.replicate n vs).flatten (List.replicate n ds).flatten
  | 0 => .nil
  | n + 1 => by
    rw [List.replicate_succ, List.replicate_succ, List.flatten_cons, List.flatten_cons]
    exact h.append (RpAll.rep h n)
theorem RpAll.cut {vs : List V} {ds : List PyData} (h : RpAll κ F vs ds) (lo hi : Option Int) : RpAll κ F (cutV vs lo hi) (cutD ds lo hi) := by
  unfold cutV cutD
  rw [h.length]
  exact (h.drop _).take _
mutual
theorem Rp.dp : ∀ {d : PyData} {v : V}, noDict d = true → Rp κ F v d → Dp κ.K F v d
  | _, _, _, .non => .non
  | _, _, _, .bl b => .bl b
  | _, _, _, .int i => .int i
  | _, _, _, .str x h1 h2 => .str x
  | _, _, h, .lst h1 h2 h3 => .lst h1 (RpAll.dp (by simpa [noDict] using h) h3)
  | _, _, h, .tup h1 h2 h3 => .tup h1 (RpAll.dp (by simpa [noDict] using h) h3)
  | _, _, h, .dct h1 h2 h3 => by simp [noDict] at h
theorem RpAll.dp : ∀ {ds : List PyData} {vs : List V}, noDict.noDicts ds = true → RpAll κ F vs ds → DpAll κ.K F vs ds
  | _, _, _, .nil => .nil
  | _, _, h, .cons h1 h2 => by
    rw [noDict.noDicts, Bool.and_eq_true] at h
    exact .cons (Rp.dp h.1 h1) (RpAll.dp h.2 h2)
end
mutual
theorem Rp.lay : ∀ {d : PyData} {v : V}, noDict d = true → Rp κ F v d → d.canLay0 = true
  | _, _, _, .non => by simp [PyData.canLay0]
  | _, _, _, .bl b => by simp [PyData.canLay0]
  | _, _, _, .int i => by simp [PyData.canLay0]
  | _, _, _, .str x h1 h2 => by simpa [PyData.canLay0] using h2
  | _, _, h, .lst h1 h2 h3 => by
    simp only [PyData.canLay0]
    exact RpAll.lay (by simpa [noDict] using h) h3
  | _, _, h, .tup h1 h2 h3 => by
    simp only [PyData.canLay0]
    exact RpAll.lay (by simpa [noDict] using h) h3
  | _, _, h, .dct h1 h2 h3 => by simp [noDict] at h
theorem RpAll.lay : ∀ {ds : List PyData} {vs : List V}, noDict.noDicts ds = true → RpAll κ F vs ds → PyData.canLayAll0 ds = true
  | _, _, _, .nil => by simp [PyData.canLayAll0]
  | _, _, h, .cons h1 h2 => by
    rw [noDict.noDicts, Bool.and_eq_true] at h
    simp only [PyData.canLayAll0, Rp.lay h.1 h1, RpAll.lay h.2 h2, Bool.and_self]
end
theorem Rp.shaped {d : PyData} {v : V} (h : Flat d) (r : Rp κ F v d) : SeqAt.shaped d = true := by
  unfold SeqAt.shaped
  rw [Rp.lay h.1 r, Bool.true_and]
  exact decide_eq_true h.2
end

/-! ### how the heap goes on -/
structure Ext (F H F' H' : Hp) : Prop where
  ff : Same F F'
  hh : Same H H'
  sub : Same F' H'
  new : ∀ a o, F' a = some o → F a = none → H a = none ∨ ∃ xs, o = .tup xs
theorem Ext.refl {F H : Hp} (s : Same F H) : Ext F H F H := ⟨Same.refl _, Same.refl _, s, fun a o e n => by rw [n] at e; cases e⟩
theorem Ext.trans {F H F1 H1 F2 H2 : Hp} (a : Ext F H F1 H1) (b : Ext F1 H1 F2 H2) : Ext F H F2 H2 := by
  refine ⟨a.ff.trans b.ff, a.hh.trans b.hh, b.sub, fun c o e n => ?_⟩
  cases q : F1 c with
  | none =>
    rcases b.new c o e q with z | z
    · exact .inl (a.hh.free z)
    · exact .inr z
  | some o1 =>
    have e1 := b.ff c o1 q
    rw [e] at e1
    cases e1
    exact a.new c o q n
/-- what stands at a, its parts frozen -/
def Cell (κ : Kit) (F H : Hp) (a : Addr) (d : PyData) : Prop :=
  (∃ xs ds, d = .list ds ∧ H a = some (.lst xs) ∧ xs.length ≤ sizeLine ∧ RpAll κ F xs ds) ∨
    ∃ o ks xs ds, d = .dict (ks.zip ds) ∧ H a = some o ∧ DctO o ks xs ∧ RpAll κ F xs ds
def RpM (κ : Kit) (F H : Hp) (v : V) (d : PyData) : Prop := Rp κ F v d ∨ ∃ a, v = .ref a ∧ Cell κ F H a d
theorem dctO_tup {o : HO} {ks : List PyData} {xs ys : List V} (h : DctO o ks xs) : o ≠ .tup ys := by
  cases h <;> exact fun z => nomatch z
section
variable {κ : Kit} {F H F' H' F1 H1 : Hp} {a : Addr} {v : V} {d : PyData}
theorem Cell.ext (e : Ext F H F' H') (h : Cell κ F H a d) : Cell κ F' H' a d := by
  rcases h with ⟨xs, ds, h1, h2, h3, h4⟩ | ⟨o, ks, xs, ds, h1, h2, h3, h4⟩
  · exact .inl ⟨xs, ds, h1, e.hh _ _ h2, h3, h4.mono e.ff⟩
  · exact .inr ⟨o, ks, xs, ds, h1, e.hh _ _ h2, h3, h4.mono e.ff⟩
theorem Cell.there (h : Cell κ F H a d) : ∃ o, H a = some o ∧ ∀ xs, o ≠ .tup xs := by
  rcases h with ⟨xs, ds, h1, h2, h3, h4⟩ | ⟨o, ks, xs, ds, h1, h2, h3, h4⟩
  · exact ⟨_, h2, fun _ z => nomatch z⟩
  · exact ⟨_, h2, fun _ => dctO_tup h3⟩
theorem Cell.free (e : Ext F H F' H') (h : Cell κ F H a d) (n : F a = none) : F' a = none := by
  obtain ⟨o, h1, h2⟩ := h.there
  cases q : F' a with
  | none => rfl
  | some u =>
    have e1 := e.sub a u q
    rw [e.hh a o h1] at e1
    cases e1
    rcases e.new a o q n with z | ⟨xs, z⟩
    · rw [h1] at z; cases z
    · exact absurd z (h2 xs)
theorem Cell.toRp (s : Same F H) (h : Cell κ F H a d) : Rp κ H (.ref a) d := by
  rcases h with ⟨xs, ds, rfl, h2, h3, h4⟩ | ⟨o, ks, xs, ds, rfl, h2, h3, h4⟩
  · exact .lst (.inl (.inl h2)) h3 (h4.mono s)
  · exact .dct h2 h3 (h4.mono s)
theorem RpM.ext (e : Ext F H F' H') (h : RpM κ F H v d) : RpM κ F' H' v d := by
  rcases h with h | ⟨a, rfl, h⟩
  · exact .inl (h.mono e.ff)
  · exact .inr ⟨a, rfl, h.ext e⟩
theorem RpM.toRp (s : Same F H) (h : RpM κ F H v d) : Rp κ H v d := by
  rcases h with h | ⟨a, rfl, h⟩
  · exact h.mono s
  · exact h.toRp s
/-- a list or tuple that may be read, its items frozen -/
theorem RpM.list {ds : List PyData} (s : Same F H) (h : RpM κ F H v (.list ds)) : ∃ a xs, v = .ref a ∧ SqL κ.K H a xs ∧ xs.length ≤ sizeLine ∧ RpAll κ F xs ds := by
  rcases h with h | ⟨a, rfl, h⟩
  · cases h with
    | lst h1 h2 h3 => exact ⟨_, _, rfl, s.seq h1, h2, h3⟩
  · rcases h with ⟨xs, ds, h1, h2, h3, h4⟩ | ⟨o, ks, xs, ds, h1, h2, h3, h4⟩
    · cases h1
      exact ⟨a, xs, rfl, .inl (.inl h2), h3, h4⟩
    · cases h1
theorem RpM.tuple {ds : List PyData} (s : Same F H) (h : RpM κ F H v (.tuple ds)) : ∃ a xs, v = .ref a ∧ SqT κ.K H a xs ∧ xs.length ≤ sizeLine ∧ RpAll κ F xs ds ∧ Rp κ F v (.tuple ds) := by
  rcases h with h | ⟨a, rfl, h⟩
  · cases id h with
    | tup h1 h2 h3 => exact ⟨_, _, rfl, sameT s h1, h2, h3, h⟩
  · rcases h with ⟨xs, ds, h1, h2, h3, h4⟩ | ⟨o, ks, xs, ds, h1, h2, h3, h4⟩
    · cases h1
    · cases h1
theorem RpM.int {i : Int} (h : RpM κ F H v (.int i)) : v = .int i := by
  rcases h with h | ⟨a, rfl, h⟩
  · cases h; rfl
  · rcases h with ⟨xs, ds, h1, h2, h3, h4⟩ | ⟨o, ks, xs, ds, h1, h2, h3, h4⟩ <;> cases h1
theorem RpM.bool {i : Bool} (h : RpM κ F H v (.bool i)) : v = .bl i := by
  rcases h with h | ⟨a, rfl, h⟩
  · cases h; rfl
  · rcases h with ⟨xs, ds, h1, h2, h3, h4⟩ | ⟨o, ks, xs, ds, h1, h2, h3, h4⟩ <;> cases h1
theorem RpM.none (h : RpM κ F H v .none) : v = .non := by
  rcases h with h | ⟨a, rfl, h⟩
  · cases h; rfl
  · rcases h with ⟨xs, ds, h1, h2, h3, h4⟩ | ⟨o, ks, xs, ds, h1, h2, h3, h4⟩ <;> cases h1
theorem RpM.str {x : Str} (h : RpM κ F H v (.str x)) : v = .str x ∧ x.length ≤ sizeLine ∧ PyData.strOk x = true := by
  rcases h with h | ⟨a, rfl, h⟩
  · cases h with
    | str _ h1 h2 => exact ⟨rfl, h1, h2⟩
  · rcases h with ⟨xs, ds, h1, h2, h3, h4⟩ | ⟨o, ks, xs, ds, h1, h2, h3, h4⟩ <;> cases h1
theorem RpM.isNone (h : RpM κ F H v d) : decide (v = .non) = isNone d := by
  rcases h with h | ⟨a, rfl, h⟩
  · cases h <;> rfl
  · rcases h with ⟨xs, ds, rfl, h2, h3, h4⟩ | ⟨o, ks, xs, ds, rfl, h2, h3, h4⟩ <;> rfl
end

/-- what an expression hands back: frozen; readable; new -/
inductive Kd | E | M | F
def RK (k : Kd) (κ : Kit) (H F' H' : Hp) (v : V) (d : PyData) : Prop := match k with
  | .E => Rp κ F' v d
  | .M => RpM κ F' H' v d
  | .F => ∃ p, v = .ref p ∧ H p = none ∧ F' p = none ∧ Cell κ F' H' p d
theorem RK.start {k : Kd} {κ : Kit} {H H1 F' H' : Hp} {v : V} {d : PyData} (s : Same H H1) (h : RK k κ H1 F' H' v d) : RK k κ H F' H' v d := by
  cases k with
  | E => exact h
  | M => exact h
  | F => obtain ⟨p, h1, h2, h3⟩ := h; exact ⟨p, h1, s.free h2, h3⟩

/-! ### slots -/
def SlR (κ : Kit) (F H : Hp) : Sl → Option (Option V) → Prop
  | .dat d, o => ∃ v, o = some (some v) ∧ Rp κ F v d
  | .own d, o => ∃ a, o = some (some (.ref a)) ∧ F a = none ∧ Cell κ F H a d
structure EnvR (κ : Kit) (F H : Hp) (ρ : Rho) (σ : L2.St) : Prop where
  sub : Same F H
  len : ρ.length = σ.length
  slot : ∀ (i : Nat) (s : Sl), ρ[i]? = some (some s) → SlR κ F H s σ[i]?
  apart : ∀ (i j : Nat) (a : Addr) (d e : PyData), ρ[i]? = some (some (.own d)) → ρ[j]? = some (some (.own e)) → σ[i]? = some (some (.ref a)) → σ[j]? = some (some (.ref a)) → i = j
section
variable {κ : Kit} {F H F' H' : Hp} {ρ : Rho} {σ : L2.St}
theorem EnvR.ext (r : EnvR κ F H ρ σ) (e : Ext F H F' H') : EnvR κ F' H' ρ σ := by
  refine ⟨e.sub, r.len, fun i s h => ?_, r.apart⟩
  have q := r.slot i s h
  cases s with
  | dat d => obtain ⟨v, h1, h2⟩ := q; exact ⟨v, h1, h2.mono e.ff⟩
  | own d => obtain ⟨a, h1, h2, h3⟩ := q; exact ⟨a, h1, h3.free e h2, h3.ext e⟩
theorem EnvR.set {i : Nat} {s : Sl} {v : V} (r : EnvR κ F H ρ σ) (h : SlR κ F H s (some (some v))) (hm : ∀ (d : PyData) (a : Addr) (j : Nat) (e : PyData), s = .own d → v = .ref a → ρ[j]? = some (some (.own e)) → σ[j]? = some (some (.ref a)) → j = i) : EnvR κ F H (ρ.set i (some s)) (σ.set i (some v)) := by
  refine ⟨r.sub, by rw [List.length_set, List.length_set]; exact r.len, fun j s' hj => ?_, fun j k a d e hj hk sj sk => ?_⟩
  · by_cases e : i = j
    · subst e
      have hl : i < ρ.length := by
        have := (List.getElem?_eq_some_iff.mp hj).1
        rw [List.length_set] at this
        exact this
      rw [List.getElem?_set_self hl] at hj
      cases hj
      rw [List.getElem?_set_self (by rw [← r.len]; exact hl)]
      exact h
    · rw [List.getElem?_set_ne e] at hj ⊢
      exact r.slot j s' hj
  · by_cases ej : i = j
    · subst ej
      have hl : i < ρ.length := by
        have := (List.getElem?_eq_some_iff.mp hj).1
        rw [List.length_set] at this
        exact this
      rw [List.getElem?_set_self hl] at hj
      rw [List.getElem?_set_self (by rw [← r.len]; exact hl)] at sj
      cases hj
      cases sj
      by_cases ek : i = k
      · exact ek
      · rw [List.getElem?_set_ne ek] at hk sk
        exact (hm _ _ _ _ rfl rfl hk sk).symm
    · rw [List.getElem?_set_ne ej] at hj sj
      by_cases ek : i = k
      · subst ek
        have hl : i < ρ.length := by
          have := (List.getElem?_eq_some_iff.mp hk).1
          rw [List.length_set] at this
          exact this
        rw [List.getElem?_set_self hl] at hk
        rw [List.getElem?_set_self (by rw [← r.len]; exact hl)] at sk
        cases hk
        cases sk
        exact hm _ _ _ _ rfl rfl hj sj
      · rw [List.getElem?_set_ne ek] at hk sk
        exact r.apart j k a d e hj hk sj sk
theorem EnvR.setDat {i : Nat} {d : PyData} {v : V} (r : EnvR κ F H ρ σ) (h : Rp κ F v d) : EnvR κ F H (ρ.set i (some (.dat d))) (σ.set i (some v)) :=
  r.set ⟨v, rfl, h⟩ fun _ _ _ _ e => nomatch e
theorem EnvR.wipe (r : EnvR κ F H ρ σ) : ∀ vs : List Nat, EnvR κ F H (wipeD ρ vs) (L2.wipe σ vs)
  | [] => r
  | v :: vs => by
    have q := EnvR.wipe r vs
    show EnvR κ F H ((wipeD ρ vs).set v none) ((L2.wipe σ vs).set v none)
    have lo : ∀ {j : Nat} {s : Sl}, ((wipeD ρ vs).set v none)[j]? = some (some s) → v ≠ j ∧ (wipeD ρ vs)[j]? = some (some s) := fun {j s} hj => by
      by_cases e : v = j
      · subst e
        have hl : v < (wipeD ρ vs).length := by
          have := (List.getElem?_eq_some_iff.mp hj).1
          rw [List.length_set] at this
          exact this
        rw [List.getElem?_set_self hl] at hj
        cases hj
      · rw [List.getElem?_set_ne e] at hj
        exact ⟨e, hj⟩
    refine ⟨q.sub, by rw [List.length_set, List.length_set]; exact q.len, fun j s hj => ?_, fun j k a d e hj hk sj sk => ?_⟩
    · obtain ⟨n, h⟩ := lo hj
      rw [List.getElem?_set_ne n]
      exact q.slot j s h
    · obtain ⟨n, h⟩ := lo hj
      obtain ⟨m, h'⟩ := lo hk
      rw [List.getElem?_set_ne n] at sj
      rw [List.getElem?_set_ne m] at sk
      exact q.apart j k a d e h h' sj sk
end
end DL

set_option maxRecDepth 100000
set_option maxHeartbeats 1000000
/-! DLc: the judgements and their rules: expressions. -/
namespace DL
open PySem PySem.Spec PyProof.Rows L2
abbrev kitOf (X : Cx) : Kit := ⟨X.K, X.prog, X.w⟩
def Kd.safe : Kd → Bool
  | .M => false
  | _ => true
inductive RmAll (κ : Kit) (F H : Hp) : List V → List PyData → Prop
  | nil : RmAll κ F H [] []
  | cons {v : V} {vs : List V} {d : PyData} {ds : List PyData} : RpM κ F H v d → RmAll κ F H vs ds → RmAll κ F H (v :: vs) (d :: ds)
section
variable {κ : Kit} {F H F' H' : Hp}
theorem RmAll.ext (e : Ext F H F' H') : ∀ {vs : List V} {ds : List PyData}, RmAll κ F H vs ds → RmAll κ F' H' vs ds
  | _, _, .nil => .nil
  | _, _, .cons h t => .cons (h.ext e) (RmAll.ext e t)
theorem RpAll.toM : ∀ {vs : List V} {ds : List PyData}, RpAll κ F vs ds → RmAll κ F H vs ds
  | _, _, .nil => .nil
  | _, _, .cons h t => .cons (.inl h) (RpAll.toM t)
end
def SemE (κ : Kit) (k : Kd) (t : TE) (f : WE) : Prop := ∀ (ρ : Rho) (σ : L2.St) (F H : Hp) (P : PyData → Prop) (Q : VK), EnvR κ F H ρ σ → f ρ P →
  (∀ d F' H' v, P d → Ext F H F' H' → RK k κ H F' H' v d → Q v H') → t σ H Q
def SemT (κ : Kit) (t : TT) (f : WT) : Prop := ∀ (ρ : Rho) (σ : L2.St) (F H : Hp) (P : Bool → Prop) (Q : Bool → Hp → Prop), EnvR κ F H ρ σ → f ρ P →
  (∀ b F' H', P b → Ext F H F' H' → Q b H') → t σ H Q
/-- arguments: frozen -/
def SemA (κ : Kit) (n : Nat) (t : TA) (f : WA) : Prop := ∀ (ρ : Rho) (σ : L2.St) (F H : Hp) (P : List PyData → Prop) (Q : List V → Hp → Prop), EnvR κ F H ρ σ → f ρ P →
  (∀ ds F' H' vs, P ds → ds.length = n → Ext F H F' H' → RpAll κ F' vs ds → Q vs H') → t σ H Q
/-- arguments: readable -/
def SemB (κ : Kit) (t : TA) (f : WA) : Prop := ∀ (ρ : Rho) (σ : L2.St) (F H : Hp) (P : List PyData → Prop) (Q : List V → Hp → Prop), EnvR κ F H ρ σ → f ρ P →
  (∀ ds F' H' vs, P ds → Ext F H F' H' → RmAll κ F' H' vs ds → Q vs H') → t σ H Q
/-! the readings, as the plain data tell them -/
def canE (κ : Kit) (k : Kd) (f : WE) : TE := fun σ H Q => ∃ (ρ : Rho) (F : Hp) (P : PyData → Prop), EnvR κ F H ρ σ ∧ f ρ P ∧ ∀ d F' H' v, P d → Ext F H F' H' → RK k κ H F' H' v d → Q v H'
def canT (κ : Kit) (f : WT) : TT := fun σ H Q => ∃ (ρ : Rho) (F : Hp) (P : Bool → Prop), EnvR κ F H ρ σ ∧ f ρ P ∧ ∀ b F' H', P b → Ext F H F' H' → Q b H'
def canA (κ : Kit) (n : Nat) (f : WA) : TA := fun σ H Q => ∃ (ρ : Rho) (F : Hp) (P : List PyData → Prop), EnvR κ F H ρ σ ∧ f ρ P ∧ ∀ ds F' H' vs, P ds → ds.length = n → Ext F H F' H' → RpAll κ F' vs ds → Q vs H'
def canB (κ : Kit) (f : WA) : TA := fun σ H Q => ∃ (ρ : Rho) (F : Hp) (P : List PyData → Prop), EnvR κ F H ρ σ ∧ f ρ P ∧ ∀ ds F' H' vs, P ds → Ext F H F' H' → RmAll κ F' H' vs ds → Q vs H'
structure DX (k : Kd) (X : Cx) (e : Expr) (f : WE) : Prop where
  pe : PE X e (canE (kitOf X) k f)
structure DT (X : Cx) (e : Expr) (f : WT) : Prop where
  pt : PT X e (canT (kitOf X) f)
structure DW (X : Cx) (e : Expr) (f : WT) : Prop where
  pw : PW X e (canT (kitOf X) f)
structure DA (n : Nat) (X : Cx) (es : List Expr) (f : WA) : Prop where
  pa : PA X es (canA (kitOf X) n f)
structure DB (X : Cx) (es : List Expr) (f : WA) : Prop where
  pa : PA X es (canB (kitOf X) f)
theorem can_semE {κ : Kit} {k : Kd} {f : WE} : SemE κ k (canE κ k f) f := fun ρ σ F H P Q r p q => ⟨ρ, F, P, r, p, q⟩
theorem can_semT {κ : Kit} {f : WT} : SemT κ (canT κ f) f := fun ρ σ F H P Q r p q => ⟨ρ, F, P, r, p, q⟩
theorem can_semA {κ : Kit} {n : Nat} {f : WA} : SemA κ n (canA κ n f) f := fun ρ σ F H P Q r p q => ⟨ρ, F, P, r, p, q⟩
theorem can_semB {κ : Kit} {f : WA} : SemB κ (canB κ f) f := fun ρ σ F H P Q r p q => ⟨ρ, F, P, r, p, q⟩
section
variable {X : Cx} {k : Kd} {n : Nat} {e : Expr} {es : List Expr} {f : WE} {ft : WT} {fa : WA}
theorem DX.of {t : TE} (h : PE X e t) (s : SemE (kitOf X) k t f) : DX k X e f := ⟨⟨fun pins s0 σ H Q I ⟨ρ, F, P, r, p, q⟩ => h.run pins s0 σ H Q I (s ρ σ F H P Q r p q)⟩⟩
theorem DX.sem (h : DX k X e f) : SemE (kitOf X) k (canE (kitOf X) k f) f := can_semE
theorem DT.of {t : TT} (h : PT X e t) (s : SemT (kitOf X) t ft) : DT X e ft := ⟨⟨fun pins s0 σ H Q I ⟨ρ, F, P, r, p, q⟩ => h.run pins s0 σ H Q I (s ρ σ F H P Q r p q)⟩⟩
theorem DT.sem (h : DT X e ft) : SemT (kitOf X) (canT (kitOf X) ft) ft := can_semT
theorem DW.of {t : TT} (h : PW X e t) (s : SemT (kitOf X) t ft) : DW X e ft := ⟨⟨fun wh pins s0 σ H Q I ⟨ρ, F, P, r, p, q⟩ => h.run wh pins s0 σ H Q I (s ρ σ F H P Q r p q)⟩⟩
theorem DW.sem (h : DW X e ft) : SemT (kitOf X) (canT (kitOf X) ft) ft := can_semT
theorem DA.of {t : TA} (h : PA X es t) (s : SemA (kitOf X) n t fa) : DA n X es fa := ⟨⟨fun pos pins s0 σ H Q I ⟨ρ, F, P, r, p, q⟩ => h.run pos pins s0 σ H Q I (s ρ σ F H P Q r p q)⟩⟩
theorem DA.sem (h : DA n X es fa) : SemA (kitOf X) n (canA (kitOf X) n fa) fa := can_semA
theorem DB.of {t : TA} (h : PA X es t) (s : SemB (kitOf X) t fa) : DB X es fa := ⟨⟨fun pos pins s0 σ H Q I ⟨ρ, F, P, r, p, q⟩ => h.run pos pins s0 σ H Q I (s ρ σ F H P Q r p q)⟩⟩
theorem DB.sem (h : DB X es fa) : SemB (kitOf X) (canB (kitOf X) fa) fa := can_semB
end
/-- a new object is frozen -/
theorem frzQ {κ : Kit} {F H : Hp} {P : PyData → Prop} {Q : VK} (q : ∀ d F' H' v, P d → Ext F H F' H' → RK .E κ H F' H' v d → Q v H') :
    ∀ d F' H' v, P d → Ext F H F' H' → RK .F κ H F' H' v d → Q v H' := fun d F' H' v p e z => by
  obtain ⟨a, hv, n1, n2, hc⟩ := z
  subst hv
  obtain ⟨o, ho, hno⟩ := hc.there
  have s1 : Same F' (upd F' a o) := fun b u z => by rw [upd_ne (ne_of_none z n2)]; exact z
  have s2 : Same (upd F' a o) H' := fun b u z => by
    by_cases hb : b = a
    · subst hb; rw [upd_same] at z; cases z; exact ho
    · rw [upd_ne hb] at z; exact e.sub b u z
  refine q d (upd F' a o) H' (.ref a) p ⟨e.ff.trans s1, e.hh, s2, fun b u z n => ?_⟩ ?_
  · by_cases hb : b = a
    · subst hb; exact .inl n1
    · rw [upd_ne hb] at z; exact e.new b u z n
  · show Rp κ (upd F' a o) (.ref a) d
    have hc2 : Cell κ (upd F' a o) (upd F' a o) a d := by
      rcases hc with ⟨xs, ds, h1, h2, h3, h4⟩ | ⟨u, ks, xs, ds, h1, h2, h3, h4⟩
      · rw [ho] at h2; cases h2
        exact .inl ⟨xs, ds, h1, upd_same, h3, h4.mono s1⟩
      · rw [ho] at h2; cases h2
        exact .inr ⟨_, ks, xs, ds, h1, upd_same, h3, h4.mono s1⟩
    exact hc2.toRp (Same.refl _)
theorem SemE.toE {κ : Kit} {k : Kd} {t : TE} {f : WE} (h : SemE κ k t f) (hk : k.safe = true) : SemE κ .E t f := by
  cases k with
  | E => exact h
  | M => cases hk
  | F => exact fun ρ σ F H P Q r hp q => h ρ σ F H P Q r hp (frzQ q)
theorem SemE.toM {κ : Kit} {k : Kd} {t : TE} {f : WE} (h : SemE κ k t f) : SemE κ .M t f := by
  cases k with
  | E => exact fun ρ σ F H P Q r hp q => h ρ σ F H P Q r hp fun d F' H' v p e z => q d F' H' v p e (.inl z)
  | M => exact h
  | F => exact fun ρ σ F H P Q r hp q => h ρ σ F H P Q r hp fun d F' H' v p e ⟨a, hv, n1, n2, hc⟩ => q d F' H' v p e (.inr ⟨a, hv, hc⟩)
theorem DX.toE {k : Kd} {X : Cx} {e : Expr} {f : WE} (h : DX k X e f) (hk : k.safe = true) : DX .E X e f := .of h.pe (h.sem.toE hk)
theorem DX.toM {k : Kd} {X : Cx} {e : Expr} {f : WE} (h : DX k X e f) : DX .M X e f := .of h.pe h.sem.toM

/-! ### names, constants -/
section
variable {X : Cx}
theorem sem_var {κ : Kit} (i : Nat) : SemE κ .E (tVar i) (wVar i) := fun ρ σ F H P Q r h q => by
  unfold wVar at h
  split at h
  · rename_i d e
    obtain ⟨v, h1, h2⟩ := r.slot i _ e
    exact ⟨v, h1, q d F H v h (.refl r.sub) h2⟩
  · exact h.elim
theorem sem_mut {κ : Kit} (i : Nat) : SemE κ .M (tVar i) (wMut i) := fun ρ σ F H P Q r h q => by
  unfold wMut at h
  split at h
  · rename_i d e
    obtain ⟨a, h1, h2, h3⟩ := r.slot i _ e
    exact ⟨.ref a, h1, q d F H (.ref a) h (.refl r.sub) (.inr ⟨a, rfl, h3⟩)⟩
  · exact h.elim
theorem dv (i : Nat) {x : Str} {pos : Pos} (hN : X.N[i]? = some x := by rfl) (hv : Vis X.env.scope x := by first | exact Or.inl rfl | exact Or.inr (Or.inl rfl) | exact Or.inr (Or.inr rfl)) (hd : (x == ("__debug__" : Str)) = false := by decide)
    (hcd : (x == ("__classdict__" : Str)) = false := by decide) : DX .E X (.Name x pos) (wVar i) := (.of (pe_var hN hv hd hcd) (sem_var i))
theorem dvm (i : Nat) {x : Str} {pos : Pos} (hN : X.N[i]? = some x := by rfl) (hv : Vis X.env.scope x := by first | exact Or.inl rfl | exact Or.inr (Or.inl rfl) | exact Or.inr (Or.inr rfl)) (hd : (x == ("__debug__" : Str)) = false := by decide)
    (hcd : (x == ("__classdict__" : Str)) = false := by decide) : DX .M X (.Name x pos) (wMut i) := (.of (pe_var hN hv hd hcd) (sem_mut i))
theorem sem_c {κ : Kit} {v : V} {d : PyData} (h : ∀ F, Rp κ F v d) : SemE κ .E (tC v) (wC d) := fun ρ σ F H P Q r hp q => q d F H v hp (.refl r.sub) (h F)
theorem dx_int {i j pos} : DX .E X (.Constant (.int i) j pos) (wC (.int i)) := (.of (pe_int) (sem_c fun _ => .int i))
theorem dx_bl {b j pos} : DX .E X (.Constant (.bool b) j pos) (wC (.bool b)) := (.of (pe_bl) (sem_c fun _ => .bl b))
theorem dx_non {j pos} : DX .E X (.Constant .none j pos) (wC .none) := (.of (pe_non) (sem_c fun _ => .non))
theorem dx_str {x j pos} (h1 : x.length ≤ sizeLine := by first | decide | decide +kernel) (h2 : PyData.strOk x = true := by first | rfl | decide +kernel) : DX .E X (.Constant (.str x) j pos) (wC (.str x)) := (.of (pe_str) (sem_c fun _ => .str x h1 h2))
/-- a constant of the module -/
theorem dx_glob {x : Str} {v : V} {d : PyData} {u : Value} {pos : Pos} (hg : Gl X x) (hm : X.mg x = some u) (r : RelV v u) (h : ∀ F, Rp (kitOf X) F v d) (hd : (x == ("__debug__" : Str)) = false := by decide) : DX .E X (.Name x pos) (wC d) :=
  (.of (pe_glob hg hm r hd) (sem_c h))
end

/-! ### operators, by values -/
def Op2 (κ : Kit) (k : Kd) (r : R2) (g : W2) : Prop := ∀ (x y : V) (dx dy : PyData) (F H : Hp) (P : PyData → Prop) (Q : VK), Same F H → RpM κ F H x dx → RpM κ F H y dy → g dx dy P →
  (∀ d F' H' v, P d → Ext F H F' H' → RK k κ H F' H' v d → Q v H') → r x y H Q
def Op1 (κ : Kit) (k : Kd) (r : V → Hp → VK → Prop) (g : W1) : Prop := ∀ (x : V) (dx : PyData) (F H : Hp) (P : PyData → Prop) (Q : VK), Same F H → RpM κ F H x dx → g dx P →
  (∀ d F' H' v, P d → Ext F H F' H' → RK k κ H F' H' v d → Q v H') → r x H Q
def OpN (κ : Kit) (k : Kd) (r : List V → Hp → VK → Prop) (g : WF) : Prop := ∀ (xs : List V) (ds : List PyData) (F H : Hp) (P : PyData → Prop) (Q : VK), Same F H → RmAll κ F H xs ds → g ds P →
  (∀ d F' H' v, P d → Ext F H F' H' → RK k κ H F' H' v d → Q v H') → r xs H Q
theorem sem_op2 {κ : Kit} {k ka kb : Kd} {r : R2} {g : W2} {ta tb : TE} {fa fb : WE} (h : Op2 κ k r g) (ha : SemE κ ka ta fa) (hb : SemE κ kb tb fb) : SemE κ k (tOp r ta tb) (w2 g fa fb) := by
  intro ρ σ F H P Q rr hp q
  refine ha.toM ρ σ F H _ _ rr hp fun d1 F1 H1 v1 p1 e1 r1 => ?_
  refine hb.toM ρ σ F1 H1 _ _ (rr.ext e1) p1 fun d2 F2 H2 v2 p2 e2 r2 => ?_
  exact h v1 v2 d1 d2 F2 H2 P Q e2.sub (RpM.ext e2 r1) r2 p2 fun d F' H' v p e z => q d F' H' v p ((e1.trans e2).trans e) (z.start ((e1.trans e2).hh))
theorem sem_op1 {κ : Kit} {k ka : Kd} {r : V → Hp → VK → Prop} {g : W1} {ta : TE} {fa : WE} (h : Op1 κ k r g) (ha : SemE κ ka ta fa) : SemE κ k (tUn r ta) (w1 g fa) := by
  intro ρ σ F H P Q rr hp q
  refine ha.toM ρ σ F H _ _ rr hp fun d1 F1 H1 v1 p1 e1 r1 => ?_
  exact h v1 d1 F1 H1 P Q e1.sub r1 p1 fun d F' H' v p e z => q d F' H' v p (e1.trans e) (z.start e1.hh)
theorem sem_opN {κ : Kit} {k : Kd} {r : List V → Hp → VK → Prop} {g : WF} {t : TA} {f : WA} (h : OpN κ k r g) (ha : SemB κ t f) : SemE κ k (tCB r t) (wApp g f) := by
  intro ρ σ F H P Q rr hp q
  refine ha ρ σ F H _ _ rr hp fun ds F1 H1 vs p1 e1 r1 => ?_
  exact h vs ds F1 H1 P Q e1.sub r1 p1 fun d F' H' v p e z => q d F' H' v p (e1.trans e) (z.start e1.hh)
section
variable {X : Cx} {k ka kb kc : Kd} {a b c : Expr} {fa fb fc : WE} {pos : Pos}
theorem dx_bin {op : Operator} {r : R2} {g : W2} (h : OpR X (binaryOp op) r ∧ Op2 (kitOf X) k r g) (ha : DX ka X a fa) (hb : DX kb X b fb) : DX k X (.BinOp a op b pos) (w2 g fa fb) :=
  (.of (pe_op h.1 ha.pe hb.pe) (sem_op2 h.2 ha.sem hb.sem))
theorem dx_un {op : UnaryOp} {r : V → Hp → VK → Prop} {g : W1} (h : UnR X (unaryOp op) r ∧ Op1 (kitOf X) k r g) (ha : DX ka X a fa) : DX k X (.UnaryOp op a pos) (w1 g fa) :=
  (.of (pe_un h.1 ha.pe) (sem_op1 h.2 ha.sem))
theorem dx_cmp {op : CmpOp} {r : R2} {g : W2} (h : OpR X (compareOp op) r ∧ Op2 (kitOf X) k r g) (ha : DX ka X a fa) (hb : DX kb X b fb) (hm : behindInMarks op b = false := by first | exact nomark _ | rfl) : DX k X (.Compare a [op] [b] pos) (w2 g fa fb) :=
  (.of (pe_cmpR h.1 ha.pe hb.pe hm) (sem_op2 h.2 ha.sem hb.sem))
theorem sem_val {κ : Kit} {t : TE} {f : WE} (h : SemE κ ka t f) : SemT κ (tTest t) (tVal f) := by
  intro ρ σ F H P Q rr hp q
  refine h.toM ρ σ F H _ _ rr hp fun d F' H' v p e z => ?_
  cases d with
  | bool b => exact ⟨b, RpM.bool z, q b F' H' p e⟩
  | _ => exact p.elim
theorem dt_cmp {op : CmpOp} {r : R2} {g : W2} (h : OpR X (compareOp op) r ∧ Op2 (kitOf X) k r g) (ha : DX ka X a fa) (hb : DX kb X b fb) (hm : behindInMarks op b = false := by first | exact nomark _ | rfl) : DT X (.Compare a [op] [b] pos) (tVal (w2 g fa fb)) :=
  (.of (pt_cmpR h.1 ha.pe hb.pe hm) (sem_val (sem_op2 h.2 ha.sem hb.sem)))
theorem sem_chain {κ : Kit} {k k' : Kd} {r r' : R2} {g g' : W2} (h : Op2 κ k r g) (h' : Op2 κ k' r' g') (ha : SemE κ ka ta fa) (hb : SemE κ kb tb fb) (hc : SemE κ kc tc fc) (hk' : k' = .E := by rfl) :
    SemE κ .E (tChain r r' ta tb tc) (wChain g g' fa fb fc) := by
  subst hk'
  intro ρ σ F H P Q rr hp q
  refine ha.toM ρ σ F H _ _ rr hp fun d1 F1 H1 v1 p1 e1 r1 => ?_
  refine hb.toM ρ σ F1 H1 _ _ (rr.ext e1) p1 fun d2 F2 H2 v2 p2 e2 r2 => ?_
  refine h v1 v2 d1 d2 F2 H2 _ _ e2.sub (RpM.ext e2 r1) r2 p2 fun d F3 H3 v p e z => ?_
  have z' : RpM κ F3 H3 v d := by
    cases k with
    | E => exact .inl z
    | M => exact z
    | F => obtain ⟨a, hv, n1, n2, hc⟩ := z; exact .inr ⟨a, hv, hc⟩
  have e3 := (e1.trans e2).trans e
  cases d with
  | bool y =>
    refine ⟨y, RpM.bool z', ?_⟩
    cases y with
    | true =>
      simp only [if_true]
      refine hc.toM ρ σ F3 H3 _ _ (rr.ext e3) p fun d4 F4 H4 v4 p4 e4 r4 => ?_
      exact h' v2 v4 d2 d4 F4 H4 P Q e4.sub (RpM.ext (e.trans e4) r2) r4 p4 fun d F' H' v p e z => q d F' H' v p ((e3.trans e4).trans e) z
    | false =>
      simp only [Bool.false_eq_true, if_false]
      exact q (.bool false) F3 H3 (.bl false) p e3 (.bl false)
  | _ => exact p.elim
end
end DL

set_option maxRecDepth 100000
set_option maxHeartbeats 1000000
/-! DLd: further rules of expressions: chains, truth, lists, tuples, slices, built-in functions. -/
namespace DL
open PySem PySem.Spec PyProof.Rows L2
section
variable {X : Cx} {k ka kb kc : Kd} {a b c : Expr} {ta tb tc : TE} {fa fb fc : WE} {pos : Pos} {rest : List Expr}
theorem dx_chain {op op' : CmpOp} {k' : Kd} {r r' : R2} {g g' : W2} (h : OpR X (compareOp op) r ∧ Op2 (kitOf X) k r g) (h' : OpR X (compareOp op') r' ∧ Op2 (kitOf X) k' r' g') (ha : DX ka X a fa) (hb : DX kb X b fb) (hc : DX kc X c fc)
    (hk' : k' = .E := by rfl) (hm : lastMarks [op, op'] [b, c] = false := by with_unfolding_all rfl) : DX .E X (.Compare a [op, op'] [b, c] pos) (wChain g g' fa fb fc) :=
  (.of (pe_chain h.1 h'.1 ha.pe hb.pe hc.pe hm) (sem_chain h.2 h'.2 ha.sem hb.sem hc.sem hk'))
theorem dt_chain {op op' : CmpOp} {k' : Kd} {r r' : R2} {g g' : W2} (h : OpR X (compareOp op) r ∧ Op2 (kitOf X) k r g) (h' : OpR X (compareOp op') r' ∧ Op2 (kitOf X) k' r' g') (ha : DX ka X a fa) (hb : DX kb X b fb) (hc : DX kc X c fc)
    (hk' : k' = .E := by rfl) (hm : lastMarks [op, op'] [b, c] = false := by with_unfolding_all rfl) : DT X (.Compare a [op, op'] [b, c] pos) (tVal (wChain g g' fa fb fc)) :=
  (.of (pt_chain h.1 h'.1 ha.pe hb.pe hc.pe hm) (sem_val (sem_chain h.2 h'.2 ha.sem hb.sem hc.sem hk')))

/-! ### truth -/
theorem tru_of {κ : Kit} {F H : Hp} {v : V} {d : PyData} {P : Bool → Prop} (s : Same F H) (h : RpM κ F H v d) (p : truD d P) : ∃ b, TruV κ.K v H b ∧ P b := by
  cases d with
  | none => rw [RpM.none h]; exact ⟨false, rfl, p⟩
  | bool b => rw [RpM.bool h]; exact ⟨b, rfl, p⟩
  | int i => rw [RpM.int h]; exact ⟨_, rfl, p⟩
  | str x =>
    obtain ⟨rfl, h1, h2⟩ := RpM.str h
    refine ⟨_, ⟨h1, rfl⟩, ?_⟩
    have e : (((x.length : Nat) : Int) != 0) = (x.length != 0) := by
      by_cases q : x.length = 0
      · rw [q]; rfl
      · rw [bne_iff_ne.mpr q, bne_iff_ne]
        omega
    rw [e]
    exact p
  | list ds =>
    obtain ⟨a, xs, rfl, h1, h2, h3⟩ := RpM.list s h
    refine ⟨_, .inl ⟨xs, h1, rfl⟩, ?_⟩
    have e : xs.isEmpty = ds.isEmpty := by
      cases h3 <;> rfl
    rw [e]
    exact p
  | tuple ds =>
    obtain ⟨a, xs, rfl, h1, h2, h3, _⟩ := RpM.tuple s h
    refine ⟨_, .inr (.inl ⟨xs, h1, rfl⟩), ?_⟩
    have e : xs.isEmpty = ds.isEmpty := by
      cases h3 <;> rfl
    rw [e]
    exact p
  | dict kvs => exact p.elim
theorem dt_tru (ha : DX ka X a fa) (he : ∀ whole, isTrue a X.env whole = (do let v ← whole; standAt a.pos; holding [v] (truthy v)) := by intro _; rfl) :
    DT X a (tTru fa) := by
  refine (.of (pt_truth ha.pe he) (fun ρ σ F H P Q rr hp q => ?_))
  refine ha.sem.toM ρ σ F H _ _ rr hp fun d F' H' v p e z => ?_
  obtain ⟨b, h1, h2⟩ := tru_of e.sub z p
  exact ⟨b, h1, q b F' H' h2 e⟩
theorem dt_not {f : WT} (ha : DT X a f) : DT X (.UnaryOp .Not a pos) (tNot f) :=
  (.of (pt_not ha.pt) (fun ρ σ F H P Q rr hp q => ha.sem ρ σ F H _ _ rr hp fun b F' H' p e => q (!b) F' H' p e))
theorem DW.dt {f : WT} (h : DW X a f) : DT X a f := (.of (h.pw.pt) (h.sem))
theorem dw_and1 {f : WT} (ha : DT X a f) : DW X (.BoolOp .And [a] pos) f := (.of (pw_and1 ha.pt) (ha.sem))
theorem dw_or1 {f : WT} (ha : DT X a f) : DW X (.BoolOp .Or [a] pos) f := (.of (pw_or1 ha.pt) (ha.sem))
theorem dw_and {f g : WT} (ha : DT X a f) (hb : DW X (.BoolOp .And (b :: rest) pos) g) : DW X (.BoolOp .And (a :: b :: rest) pos) (tAnd f g) := by
  refine (.of (pw_and ha.pt hb.pw) (fun ρ σ F H P Q rr hp q => ?_))
  refine ha.sem ρ σ F H _ _ rr hp fun b F' H' p e => ?_
  cases b with
  | true => exact iteT (hb.sem ρ σ F' H' _ _ (rr.ext e) p fun b F2 H2 p2 e2 => q b F2 H2 p2 (e.trans e2))
  | false => exact iteF (q false F' H' p e)
theorem dw_or {f g : WT} (ha : DT X a f) (hb : DW X (.BoolOp .Or (b :: rest) pos) g) : DW X (.BoolOp .Or (a :: b :: rest) pos) (tOr f g) := by
  refine (.of (pw_or ha.pt hb.pw) (fun ρ σ F H P Q rr hp q => ?_))
  refine ha.sem ρ σ F H _ _ rr hp fun b F' H' p e => ?_
  cases b with
  | true => exact iteT (q true F' H' p e)
  | false => exact iteF (hb.sem ρ σ F' H' _ _ (rr.ext e) p fun b F2 H2 p2 e2 => q b F2 H2 p2 (e.trans e2))
/-- .. as values -/
theorem dx_one {op} (h : DX ka X a fa) : DX ka X (.BoolOp op [a] pos) fa := (.of (pe_one h.pe) (h.sem))
theorem dx_or (ha : DX ka X a fa) (hb : DX kb X (.BoolOp .Or (b :: rest) pos) fb) (hka : ka.safe = true := by rfl) (hkb : kb.safe = true := by rfl) : DX .E X (.BoolOp .Or (a :: b :: rest) pos) (wOr fa fb) := by
  refine (.of (pe_orT ha.pe hb.pe) (fun ρ σ F H P Q rr hp q => ?_))
  refine (ha.sem.toE hka) ρ σ F H _ _ rr hp fun d F' H' v p e z => ?_
  obtain ⟨c, h1, h2⟩ := tru_of e.sub (.inl z) p
  refine ⟨c, h1, ?_⟩
  cases c with
  | true => exact iteT (q d F' H' v h2 e z)
  | false => exact iteF ((hb.sem.toE hkb) ρ σ F' H' _ _ (rr.ext e) h2 fun d F2 H2 v p2 e2 z => q d F2 H2 v p2 (e.trans e2) z)
theorem dx_and (ha : DX ka X a fa) (hb : DX kb X (.BoolOp .And (b :: rest) pos) fb) (hka : ka.safe = true := by rfl) (hkb : kb.safe = true := by rfl) : DX .E X (.BoolOp .And (a :: b :: rest) pos) (wAnd fa fb) := by
  refine (.of (pe_andT ha.pe hb.pe) (fun ρ σ F H P Q rr hp q => ?_))
  refine (ha.sem.toE hka) ρ σ F H _ _ rr hp fun d F' H' v p e z => ?_
  obtain ⟨c, h1, h2⟩ := tru_of e.sub (.inl z) p
  refine ⟨c, h1, ?_⟩
  cases c with
  | true => exact iteT ((hb.sem.toE hkb) ρ σ F' H' _ _ (rr.ext e) h2 fun d F2 H2 v p2 e2 z => q d F2 H2 v p2 (e.trans e2) z)
  | false => exact iteF (q d F' H' v h2 e z)
theorem dx_not (ha : DX ka X a fa) : DX .E X (.UnaryOp .Not a pos) (wNot fa) := by
  refine (.of (pe_notT ha.pe) (fun ρ σ F H P Q rr hp q => ?_))
  refine ha.sem.toM ρ σ F H _ _ rr hp fun d F' H' v p e z => ?_
  obtain ⟨c, h1, h2⟩ := tru_of e.sub z p
  exact ⟨c, h1, q _ F' H' _ h2 e (.bl _)⟩
theorem dx_if {f : WT} (hc : DT X c f) (ha : DX ka X a fa) (hb : DX kb X b fb) (hka : ka.safe = true := by rfl) (hkb : kb.safe = true := by rfl) : DX .E X (.IfExp c a b pos) (wIf f fa fb) := by
  refine (.of (pe_ifExp hc.pt ha.pe hb.pe) (fun ρ σ F H P Q rr hp q => ?_))
  refine hc.sem ρ σ F H _ _ rr hp fun c F' H' p e => ?_
  cases c with
  | true => exact iteT ((ha.sem.toE hka) ρ σ F' H' _ _ (rr.ext e) p fun d F2 H2 v p2 e2 z => q d F2 H2 v p2 (e.trans e2) z)
  | false => exact iteF ((hb.sem.toE hkb) ρ σ F' H' _ _ (rr.ext e) p fun d F2 H2 v p2 e2 z => q d F2 H2 v p2 (e.trans e2) z)

/-! ### arguments, displays -/
theorem da_nil : DA 0 X [] aNil := (.of (pa_nil) (fun ρ σ F H P Q rr hp q => q [] F H [] hp rfl (.refl rr.sub) .nil))
theorem da_cons {n : Nat} {e : Expr} {es : List Expr} {fe : WE} {f : WA} (ha : DX ka X e fe) (hr : DA n X es f) (hk : ka.safe = true := by rfl)
    (hs : starEach (e :: es) X.env = (false, eval e X.env) :: starEach es X.env := by rfl) : DA (n + 1) X (e :: es) (aCons fe f) := by
  refine (.of (pa_cons ha.pe hr.pa hs) (fun ρ σ F H P Q rr hp q => ?_))
  refine (ha.sem.toE hk) ρ σ F H _ _ rr hp fun d F1 H1 v p1 e1 z1 => ?_
  refine hr.sem ρ σ F1 H1 _ _ (rr.ext e1) p1 fun ds F2 H2 vs p2 l2 e2 z2 => ?_
  exact q (d :: ds) F2 H2 (v :: vs) p2 (by rw [List.length_cons, l2]) (e1.trans e2) (.cons (Rp.mono e2.ff z1) z2)
theorem db_nil : DB X [] aNil := (.of (pa_nil) (fun ρ σ F H P Q rr hp q => q [] F H [] hp (.refl rr.sub) .nil))
theorem db_cons {e : Expr} {es : List Expr} {fe : WE} {f : WA} (ha : DX ka X e fe) (hr : DB X es f)
    (hs : starEach (e :: es) X.env = (false, eval e X.env) :: starEach es X.env := by rfl) : DB X (e :: es) (aCons fe f) := by
  refine (.of (pa_cons ha.pe hr.pa hs) (fun ρ σ F H P Q rr hp q => ?_))
  refine ha.sem.toM ρ σ F H _ _ rr hp fun d F1 H1 v p1 e1 z1 => ?_
  refine hr.sem ρ σ F1 H1 _ _ (rr.ext e1) p1 fun ds F2 H2 vs p2 e2 z2 => ?_
  exact q (d :: ds) F2 H2 (v :: vs) p2 (e1.trans e2) (.cons (RpM.ext e2 z1) z2)
/-- a new tuple is laid, frozen at once -/
theorem ext_tup {κ : Kit} {F H : Hp} {p : Addr} {xs : List V} {ds : List PyData} (s : Same F H) (hp : H p = none) (hl : xs.length ≤ sizeLine) (h : RpAll κ F xs ds) :
    Ext F H (upd F p (.tup xs)) (upd H p (.tup xs)) ∧ Rp κ (upd F p (.tup xs)) (.ref p) (.tuple ds) := by
  have fp : F p = none := s.free hp
  have s1 : Same F (upd F p (.tup xs)) := fun b u z => by rw [upd_ne (ne_of_none z fp)]; exact z
  have s2 : Same H (upd H p (.tup xs)) := fun b u z => by rw [upd_ne (ne_of_none z hp)]; exact z
  refine ⟨⟨s1, s2, fun b u z => ?_, fun b u z n => ?_⟩, .tup (.inl (.inl upd_same)) hl (h.mono s1)⟩
  · by_cases hb : b = p
    · subst hb; rw [upd_same] at z ⊢; exact z
    · rw [upd_ne hb] at z ⊢; exact s b u z
  · by_cases hb : b = p
    · subst hb; exact .inl hp
    · rw [upd_ne hb] at z; rw [z] at n; cases n
/-- a new list is laid -/
theorem ext_lst {κ : Kit} {F H : Hp} {p : Addr} {xs : List V} {ds : List PyData} (s : Same F H) (hp : H p = none) (hl : xs.length ≤ sizeLine) (h : RpAll κ F xs ds) :
    Ext F H F (upd H p (.lst xs)) ∧ RK .F κ H F (upd H p (.lst xs)) (.ref p) (.list ds) := by
  have fp : F p = none := s.free hp
  have s2 : Same H (upd H p (.lst xs)) := fun b u z => by rw [upd_ne (ne_of_none z hp)]; exact z
  exact ⟨⟨Same.refl _, s2, s.trans s2, fun b u z n => by rw [z] at n; cases n⟩, p, rfl, hp, fp, .inl ⟨xs, ds, rfl, upd_same, hl, h⟩⟩
theorem dx_tup {n : Nat} {es : List Expr} {f : WA} {x1} (h : DA n X es f) (hn : n ≤ 1000 := by decide) : DX .E X (.Tuple es x1 pos) (wApp fTup f) := by
  refine (.of (pe_tup h.pa) (fun ρ σ F H P Q rr hp q => ?_))
  refine h.sem ρ σ F H _ _ rr hp fun ds F1 H1 vs p1 l1 e1 z1 => ?_
  have hl : vs.length ≤ sizeLine := by
    rw [z1.length, l1]
    exact Nat.le_of_lt (small1000 hn)
  refine ⟨hl, fun p hp => ?_⟩
  obtain ⟨e2, z2⟩ := ext_tup (κ := kitOf X) e1.sub hp hl z1
  exact q _ _ _ _ p1 (e1.trans e2) z2
theorem dx_lst {n : Nat} {es : List Expr} {f : WA} (h : DA n X es f) (hn : n ≤ 1000 := by decide) : DX .F X (.List es pos) (wApp fList f) := by
  refine (.of (pe_lst h.pa) (fun ρ σ F H P Q rr hp q => ?_))
  refine h.sem ρ σ F H _ _ rr hp fun ds F1 H1 vs p1 l1 e1 z1 => ?_
  have hl : vs.length ≤ sizeLine := by
    rw [z1.length, l1]
    exact Nat.le_of_lt (small1000 hn)
  refine ⟨hl, fun p hp => ?_⟩
  obtain ⟨e2, z2⟩ := ext_lst (κ := kitOf X) e1.sub hp hl z1
  exact q _ _ _ _ p1 (e1.trans e2) (z2.start e1.hh)

/-! ### the operators -/
variable {κ : Kit}
theorem pure_ {F H : Hp} {P : PyData → Prop} {Q : VK} {v : V} {d : PyData} (s : Same F H) (q : ∀ d F' H' v, P d → Ext F H F' H' → RK .E κ H F' H' v d → Q v H') (p : P d) (z : Rp κ F v d) : Q v H := q d F H v p (.refl s) z
theorem dpF {F H : Hp} {v : V} {d : PyData} (s : Same F H) (h : RpM κ F H v d) (f : Flat d) : Dp κ.K H v d ∧ SeqAt.shaped d = true := ⟨Rp.dp f.1 (h.toRp s), Rp.shaped f (h.toRp s)⟩
theorem bool_ {F H : Hp} {P : PyData → Prop} {Q : VK} {b : Bool} (s : Same F H) (q : ∀ d F' H' v, P d → Ext F H F' H' → RK .E κ H F' H' v d → Q v H') (p : P (.bool b)) : Q (.bl b) H := q _ F H _ p (.refl s) (.bl b)
theorem int_ {F H : Hp} {P : PyData → Prop} {Q : VK} {b : Int} (s : Same F H) (q : ∀ d F' H' v, P d → Ext F H F' H' → RK .E κ H F' H' v d → Q v H') (p : P (.int b)) : Q (.int b) H := q _ F H _ p (.refl s) (.int b)
theorem x_eq (hu : X.A.units + 64 < cLine) : OpR X (compareOp .Eq) (rEqD X.K) ∧ Op2 (kitOf X) .E (rEqD X.K) oEq :=
  ⟨op_eqD hu, fun x y dx dy F H P Q s hx hy ⟨f1, f2, p⟩ q => ⟨dx, dy, (dpF s hx f1).1, (dpF s hy f2).1, (dpF s hx f1).2, (dpF s hy f2).2, bool_ s q p⟩⟩
theorem x_ne (hu : X.A.units + 64 < cLine) : OpR X (compareOp .NotEq) (rNeD X.K) ∧ Op2 (kitOf X) .E (rNeD X.K) oNe :=
  ⟨op_neD hu, fun x y dx dy F H P Q s hx hy ⟨f1, f2, p⟩ q => ⟨dx, dy, (dpF s hx f1).1, (dpF s hy f2).1, (dpF s hx f1).2, (dpF s hy f2).2, bool_ s q p⟩⟩
def rLtD (K : PySem.W.Frag) : R2 := fun x y H Q => ∃ d e, Dp K H x d ∧ Dp K H y e ∧ PySem.W.alike d e = true ∧ d ≠ .none ∧ d.depth ≤ 64 ∧ Q (.bl (PySem.W.dataLt d e)) H
theorem op_ltD (hu : X.A.units + 64 < cLine) : OpR X (compareOp .Lt) (rLtD X.K) := by
  intro pins s σ H x y v u Q I rx ry h
  obtain ⟨d, e, hd, he, ha, hn, hz, q⟩ := h
  obtain ⟨as, r1⟩ := Dp.reads I d x v hd rx
  obtain ⟨bs, r2⟩ := Dp.reads I e y u he ry
  exact PySem.W.rcLt_alike d e X.A s v u as bs r1 r2 ha hn (by omega) X.prog X.w _ _ ⟨.bl _, H, I, rfl, q⟩
theorem x_lt (hu : X.A.units + 64 < cLine) : OpR X (compareOp .Lt) (rLtD X.K) ∧ Op2 (kitOf X) .E (rLtD X.K) oLt := by
  refine ⟨op_ltD hu, fun x y dx dy F H P Q s hx hy p q => ?_⟩
  have gen : PySem.W.alike dx dy = true ∧ dx ≠ .none ∧ Flat dx ∧ Flat dy ∧ P (.bool (PySem.W.dataLt dx dy)) → rLtD X.K x y H Q := fun ⟨h1, h2, f1, f2, p⟩ =>
    ⟨dx, dy, (dpF (κ := kitOf X) s hx f1).1, (dpF (κ := kitOf X) s hy f2).1, h1, h2, f1.2, bool_ s q p⟩
  unfold oLt at p
  split at p
  · rename_i i j
    exact gen ⟨by simp [PySem.W.alike], fun z => (nomatch z), ⟨rfl, by simp [PyData.depth]⟩, ⟨rfl, by simp [PyData.depth]⟩, by rw [PySem.W.dataLt_int]; exact p⟩
  · rename_i i j
    exact gen ⟨by simp [PySem.W.alike], fun z => (nomatch z), ⟨rfl, by simp [PyData.depth]⟩, ⟨rfl, by simp [PyData.depth]⟩, by rw [PySem.W.dataLt_str]; exact p⟩
  · exact gen p
theorem ints2 {g : Int → Int → V} {h : W2} {G : Int → Int → PyData} (hG : ∀ i j F, Rp κ F (g i j) (G i j)) (hh : ∀ x y P, h x y P → ∃ i j, x = .int i ∧ y = .int j ∧ P (G i j)) : Op2 κ .E (rI0 g) h := by
  intro x y dx dy F H P Q s hx hy p q
  obtain ⟨i, j, rfl, rfl, p2⟩ := hh dx dy P p
  exact ⟨i, j, RpM.int hx, RpM.int hy, q _ F H _ p2 (.refl s) (hG i j F)⟩
theorem ints2C {C : Int → Int → Prop} {g : Int → Int → V} {h : W2} {G : Int → Int → PyData} (hG : ∀ i j F, Rp κ F (g i j) (G i j)) (hh : ∀ x y P, h x y P → ∃ i j, x = .int i ∧ y = .int j ∧ C i j ∧ P (G i j)) : Op2 κ .E (rI C g) h := by
  intro x y dx dy F H P Q s hx hy p q
  obtain ⟨i, j, rfl, rfl, c, p2⟩ := hh dx dy P p
  exact ⟨i, j, RpM.int hx, RpM.int hy, c, q _ F H _ p2 (.refl s) (hG i j F)⟩
theorem x_gt : OpR X (compareOp .Gt) (rI0 fun i j => .bl (decide (j < i))) ∧ Op2 (kitOf X) .E (rI0 fun i j => .bl (decide (j < i))) oGt :=
  ⟨op_gt, ints2 (G := fun i j => .bool (decide (j < i))) (fun _ _ _ => .bl _) fun x y P p => by
    unfold oGt at p
    split at p
    · exact ⟨_, _, rfl, rfl, p⟩
    · exact p.elim⟩
theorem x_le : OpR X (compareOp .LtE) (rI0 fun i j => .bl (decide (i ≤ j))) ∧ Op2 (kitOf X) .E (rI0 fun i j => .bl (decide (i ≤ j))) oLe :=
  ⟨op_le, ints2 (G := fun i j => .bool (decide (i ≤ j))) (fun _ _ _ => .bl _) fun x y P p => by
    unfold oLe at p
    split at p
    · exact ⟨_, _, rfl, rfl, p⟩
    · exact p.elim⟩
theorem x_ge : OpR X (compareOp .GtE) (rI0 fun i j => .bl (decide (j ≤ i))) ∧ Op2 (kitOf X) .E (rI0 fun i j => .bl (decide (j ≤ i))) oGe :=
  ⟨op_ge, ints2 (G := fun i j => .bool (decide (j ≤ i))) (fun _ _ _ => .bl _) fun x y P p => by
    unfold oGe at p
    split at p
    · exact ⟨_, _, rfl, rfl, p⟩
    · exact p.elim⟩
theorem x_sub : OpR X (binaryOp .Sub) (rI0 fun i j => .int (i - j)) ∧ Op2 (kitOf X) .E (rI0 fun i j => .int (i - j)) oSub :=
  ⟨op_sub, ints2 (G := fun i j => .int (i - j)) (fun _ _ _ => .int _) fun x y P p => by
    unfold oSub at p
    split at p
    · exact ⟨_, _, rfl, rfl, p⟩
    · exact p.elim⟩
theorem x_mod : OpR X (binaryOp .Mod) (rI (fun _ j => 0 < j) fun i j => .int (i % j)) ∧ Op2 (kitOf X) .E (rI (fun _ j => 0 < j) fun i j => .int (i % j)) oMod :=
  ⟨op_mod, ints2C (G := fun i j => .int (i % j)) (fun _ _ _ => .int _) fun x y P p => by
    unfold oMod at p
    split at p
    · exact ⟨_, _, rfl, rfl, p⟩
    · exact p.elim⟩
theorem x_div : OpR X (binaryOp .FloorDiv) (rI CDiv fun i j => .int (i / j)) ∧ Op2 (kitOf X) .E (rI CDiv fun i j => .int (i / j)) oDiv :=
  ⟨op_fdiv, ints2C (G := fun i j => .int (i / j)) (fun _ _ _ => .int _) fun x y P p => by
    unfold oDiv at p
    split at p
    · exact ⟨_, _, rfl, rfl, p⟩
    · exact p.elim⟩
theorem x_neg : UnR X (unaryOp .USub) (rU fun i => .int (-i)) ∧ Op1 (kitOf X) .E (rU fun i => .int (-i)) oNeg := by
  refine ⟨un_neg, fun x dx F H P Q s hx p q => ?_⟩
  unfold oNeg at p
  split at p
  · exact ⟨_, RpM.int hx, int_ s q p⟩
  · exact p.elim
def rIsX : R2 := fun x y H Q => (y = .non ∧ Q (.bl (decide (x = .non))) H) ∨ rIsB x y H Q
def rNotX : R2 := fun x y H Q => (y = .non ∧ Q (.bl (!decide (x = .non))) H) ∨ rNotB x y H Q
theorem x_is : OpR X (compareOp .Is) rIsX ∧ Op2 (kitOf X) .E rIsX oIs := by
  refine ⟨op_isN.or op_isBl, fun x y dx dy F H P Q s hx hy p q => ?_⟩
  unfold oIs at p
  split at p
  · refine .inl ⟨RpM.none hy, ?_⟩
    rw [RpM.isNone hx]
    exact bool_ s q p
  · split at p
    · exact .inr ⟨_, _, RpM.bool hx, RpM.bool hy, bool_ s q p⟩
    · exact p.elim
  · exact p.elim
theorem x_isNot : OpR X (compareOp .IsNot) rNotX ∧ Op2 (kitOf X) .E rNotX oIsNot := by
  refine ⟨op_notN.or op_notBl, fun x y dx dy F H P Q s hx hy p q => ?_⟩
  unfold oIsNot at p
  split at p
  · refine .inl ⟨RpM.none hy, ?_⟩
    rw [RpM.isNone hx]
    exact bool_ s q p
  · split at p
    · exact .inr ⟨_, _, RpM.bool hx, RpM.bool hy, bool_ s q p⟩
    · exact p.elim
  · exact p.elim
/-- x in a list or tuple of data -/
def rInT (K : PySem.W.Frag) : R2 := fun x y H Q => ∃ d ds, Dp K H x d ∧ Dp K H y (.tuple ds) ∧ SeqAt.shaped d = true ∧ SeqAt.shaped (.list ds) = true ∧ Q (.bl (ds.any fun z => PyData.eqv z d)) H
def rNotInT (K : PySem.W.Frag) : R2 := fun x y H Q => ∃ d ds, Dp K H x d ∧ Dp K H y (.tuple ds) ∧ SeqAt.shaped d = true ∧ SeqAt.shaped (.list ds) = true ∧ Q (.bl (!ds.any fun z => PyData.eqv z d)) H
theorem op_inT (hu : X.A.units + 65 < cLine) : OpR X (compareOp .In) (rInT X.K) := by
  intro pins s σ H x y v u Q I rx ry h
  obtain ⟨d, ds, hd, he, sd, se, q⟩ := h
  obtain ⟨as, r1⟩ := Dp.reads I d x v hd rx
  obtain ⟨bs, r2⟩ := Dp.reads I (.tuple ds) y u he ry
  exact SeqAt.in_tuple_reads r2 r1 (SeqAt.canLay_of_shaped se) (SeqAt.canLay_of_shaped sd) (room_in_shaped sd hu) ⟨.bl _, H, I, rfl, q⟩
theorem op_notInT (hu : X.A.units + 65 < cLine) : OpR X (compareOp .NotIn) (rNotInT X.K) := by
  intro pins s σ H x y v u Q I rx ry h
  obtain ⟨d, ds, hd, he, sd, se, q⟩ := h
  obtain ⟨as, r1⟩ := Dp.reads I d x v hd rx
  obtain ⟨bs, r2⟩ := Dp.reads I (.tuple ds) y u he ry
  exact SeqAt.notIn_tuple_reads r2 r1 (SeqAt.canLay_of_shaped se) (SeqAt.canLay_of_shaped sd) (room_in_shaped sd hu) ⟨.bl _, H, I, rfl, q⟩
def rInX (K : PySem.W.Frag) : R2 := fun x y H Q => rInD K x y H Q ∨ (rInT K x y H Q ∨ ∃ i j, x = .str i ∧ y = .str j ∧ Q (.bl (!(Builtin.Str.occurrences j i 0 j.length 1).isEmpty)) H)
def rNotInX (K : PySem.W.Frag) : R2 := fun x y H Q => rNotInD K x y H Q ∨ (rNotInT K x y H Q ∨ ∃ i j, x = .str i ∧ y = .str j ∧ Q (.bl (!(!(Builtin.Str.occurrences j i 0 j.length 1).isEmpty))) H)
theorem flat_list {ds : List PyData} (h : Flat (.list ds)) : Flat (.tuple ds) := ⟨by simpa [noDict] using h.1, by simpa [PyData.depth] using h.2⟩
theorem inX {x y : V} {dx dy : PyData} {F H : Hp} {P : PyData → Prop} (s : Same F H) (hx : RpM κ F H x dx) (hy : RpM κ F H y dy) (p : oIn dx dy P) :
    (∃ ds, Dp κ.K H x dx ∧ Dp κ.K H y (.list ds) ∧ SeqAt.shaped dx = true ∧ SeqAt.shaped (.list ds) = true ∧ P (.bool (ds.any fun z => PyData.eqv z dx))) ∨
    (∃ ds, Dp κ.K H x dx ∧ Dp κ.K H y (.tuple ds) ∧ SeqAt.shaped dx = true ∧ SeqAt.shaped (.list ds) = true ∧ P (.bool (ds.any fun z => PyData.eqv z dx))) ∨
    ∃ i j, x = .str i ∧ y = .str j ∧ P (.bool (!(Builtin.Str.occurrences j i 0 j.length 1).isEmpty)) := by
  unfold oIn at p
  split at p
  · obtain ⟨f1, f2, p⟩ := p
    exact .inl ⟨_, (dpF s hx f1).1, (dpF s hy f2).1, (dpF s hx f1).2, (dpF s hy f2).2, p⟩
  · obtain ⟨f1, f2, p⟩ := p
    refine .inr (.inl ⟨_, (dpF s hx f1).1, (dpF s hy (flat_list f2)).1, (dpF s hx f1).2, ?_, p⟩)
    have z := (dpF s hy (flat_list f2)).2
    unfold SeqAt.shaped at z ⊢
    simpa [PyData.canLay0, PyData.depth] using z
  · split at p
    · obtain ⟨e1, _⟩ := RpM.str hx
      obtain ⟨e2, _⟩ := RpM.str hy
      exact .inr (.inr ⟨_, _, e1, e2, p⟩)
    · exact p.elim
  · exact p.elim
theorem x_in (hu : X.A.units + 65 < cLine) : OpR X (compareOp .In) (rInX X.K) ∧ Op2 (kitOf X) .E (rInX X.K) oIn := by
  refine ⟨(op_inD hu).or ((op_inT hu).or op_in_str), fun x y dx dy F H P Q s hx hy p q => ?_⟩
  rcases inX s hx hy p with ⟨ds, h1, h2, h3, h4, p⟩ | ⟨ds, h1, h2, h3, h4, p⟩ | ⟨i, j, h1, h2, p⟩
  · exact .inl ⟨_, _, h1, h2, h3, h4, bool_ s q p⟩
  · exact .inr (.inl ⟨_, _, h1, h2, h3, h4, bool_ s q p⟩)
  · exact .inr (.inr ⟨_, _, h1, h2, bool_ s q p⟩)
theorem x_notIn (hu : X.A.units + 65 < cLine) : OpR X (compareOp .NotIn) (rNotInX X.K) ∧ Op2 (kitOf X) .E (rNotInX X.K) oNotIn := by
  refine ⟨(op_notInD hu).or ((op_notInT hu).or op_notIn_str), fun x y dx dy F H P Q s hx hy p q => ?_⟩
  rcases inX s hx hy p with ⟨ds, h1, h2, h3, h4, p⟩ | ⟨ds, h1, h2, h3, h4, p⟩ | ⟨i, j, h1, h2, p⟩
  · exact .inl ⟨_, _, h1, h2, h3, h4, bool_ s q p⟩
  · exact .inr (.inl ⟨_, _, h1, h2, h3, h4, bool_ s q p⟩)
  · exact .inr (.inr ⟨_, _, h1, h2, bool_ s q p⟩)
end
end DL

set_option maxRecDepth 100000
set_option maxHeartbeats 2000000
namespace L2
open PySem PySem.Spec PyProof.Rows
theorem tuple_mul1 (l : Addr) (items : Array Value) (n : Nat) (dd : Option Addr) (sl : Array (Option Value)) (u : Tok) :
    Meets (Builtin.«tuple.__mul__» ⟨[.ref l, .int 1 u], []⟩) (fun _ R s => s.heap.get? l = some { cls := .type "tuple", dict := dd, data := .seq items n, slots := sl } ∧
      R (.ok (.ret (Value.ref l))) s) :=
  .of_wp fun prog w A R s h => by
    obtain ⟨hp, g, d, tk, os⟩ := s
    obtain ⟨hl, h⟩ := h
    have f1 := AutoSeq1.idx_int
    wp_walk using wpAny_loadPart' hl
    repeat (first
      | (refine wpAny_ite_false (decide_eq_false (by decide)) ?_; wp_walk using wpAny_loadPart' hl)
      | (refine wpAny_ite_true (decide_eq_true (by simp)) ?_; wp_walk using wpAny_loadPart' hl))
    exact ⟨_, rfl, h⟩
def rRep1 (K : PySem.W.Frag) : R2 := fun x y H Q => ∃ l xs, x = .ref l ∧ y = .int 1 ∧ SqT K H l xs ∧ Q (.ref l) H
theorem op_rep1 {X : Cx} : OpR X (binaryOp .Mult) (rRep1 X.K) := by
  intro pins s σ H x y v u Q I rx ry h
  obtain ⟨l, xs, rfl, rfl, hT, q⟩ := h
  cases rx
  obtain ⟨t, rfl⟩ := ry
  obtain ⟨its, r, ⟨⟨cls, dd, data, sl⟩, ho, hc, n, hd⟩, hs⟩ := I.tuple hT
  simp only at hc hd
  subst hc hd
  exact wpAny_binaryOp_repeat_ref (T := "tuple") (U := "int") (by decide) ⟨_, ho, rfl⟩ (fun s' => typeIs_int s' 1 t) noFill_tuple_mul F.fills_int_mul F.slot_int_rmul repeat_tuple F.slot_int_index.lookup
    (call_meets F.slot_int_rmul (typeIs_int s 1 t) F.entry_int_rmul (F.args_int_rmul_2 _ _) (int_rmul_tuple 1 t l its.toArray n dd sl)
      ⟨ho, rfl, ⟨_, ho, rfl⟩, call_meets F.slot_tuple_mul ⟨_, ho, rfl⟩ F.entry_tuple_mul (F.args_tuple_mul_2 _ _) (tuple_mul1 l its.toArray n dd sl t) ⟨ho, ⟨.ref l, H, I, rfl, q⟩⟩⟩)
theorem list_mulW (l : Addr) (items : Array Value) (n : Nat) (dd : Option Addr) (sl : Array (Option Value)) (x : Int) (u : Tok) (hc0 : ¬(!Builtin.List.listFitsIndex x) = true) (hc1 : ¬items.size * x.toNat > (2 ^ 63 - 1) / 8) (hc2 : ¬Builtin.List.listTooLong (items.size * x.toNat) = true) :
    Meets (Builtin.«list.__mul__» ⟨[.ref l, .int x u], []⟩) (fun _ R s => s.heap.get? l = some { cls := .type "list", dict := dd, data := .seq items n, slots := sl } ∧
      R (.ok (.ret (Value.ref s.heap.objs.size))) { s with heap := s.heap.push { cls := Value.type "list", data := Data.seq (List.foldl (fun x1 x2 => x1 ++ x2) #[] (List.replicate (if items.isEmpty = true then 0 else x.toNat) items)) }, toks := s.toks }) :=
  .of_wp fun prog w A R s h => by
    obtain ⟨hp, g, d, tk, os⟩ := s
    obtain ⟨hl, h⟩ := h
    have hsz := AutoListH.joined_fits hc2
    wp_walk using wpAny_loadPart' hl
    refine wpAny_ite_false (decide_eq_false (Nat.not_lt.mpr hsz)) ?_
    wp_walk using wpAny_loadPart' hl
    exact ⟨_, rfl, h⟩
theorem int_rmul_listW (a : Int) (t : Tok) (l : Addr) (items : Array Value) (n : Nat) (dd : Option Addr) (sl : Array (Option Value)) :
    Meets (Builtin.«int.__rmul__» ⟨[.int a t, .ref l], []⟩) (fun _ R s => s.heap.get? l = some { cls := .type "list", dict := dd, data := .seq items n, slots := sl } ∧ R (.ok (.ret Value.notImplemented)) s) :=
  .of_wp fun prog w A R s h => by obtain ⟨hp, g, d, tk, os⟩ := s; obtain ⟨hl, h⟩ := h; wp_walk using wpAny_loadPart' hl; exact ⟨_, rfl, h⟩
def rRepL (K : PySem.W.Frag) : R2 := fun x y H Q => ∃ l k xs, x = .ref l ∧ y = .int k ∧ SqL K H l xs ∧ 0 ≤ k ∧ k ≤ 1000 ∧ xs.length ≤ 1000 ∧ ∀ p, H p = none → Q (.ref p) (upd H p (.lst (List.replicate k.toNat xs).flatten))
theorem op_repL {X : Cx} : OpR X (binaryOp .Mult) (rRepL X.K) := by
  intro pins s σ H x y v u Q I rx ry h
  obtain ⟨l, k, xs, rfl, rfl, hT, h1, h2, hz, q⟩ := h
  cases rx
  obtain ⟨t, rfl⟩ := ry
  obtain ⟨its, r, p1, z1⟩ := I.list hT
  obtain ⟨⟨cls, dd, data, sl⟩, ho, hc, n, hd⟩ := p1.isList
  simp only at hc hd
  subst hc hd
  have hle : its.length = xs.length := r.length.symm
  have hb : its.length * k.toNat ≤ 1000 * 1000 := Nat.mul_le_mul (by omega) (by omega)
  have hlen : its.toArray.size * k.toNat ≤ sizeLine := by rw [List.size_toArray, sizeLine_eq]; omega
  have hcap : ¬ its.toArray.size * k.toNat > (2 ^ 63 - 1) / 8 := by
    have : (sizeLine : Nat) ≤ (2 ^ 63 - 1) / 8 := by decide
    omega
  have hfit : ¬ (!Builtin.List.listFitsIndex k) = true := by
    rw [fitsIndex_both (by omega) (by omega)]
    exact Bool.false_ne_true
  have hlong : ¬ Builtin.List.listTooLong (its.toArray.size * k.toNat) = true := by
    rw [notLongL hlen]
    exact Bool.false_ne_true
  have hnew : List.foldl (fun x1 x2 => x1 ++ x2) #[] (List.replicate (if its.toArray.isEmpty = true then 0 else k.toNat) its.toArray) = (List.replicate k.toNat its).flatten.toArray := by
    rw [size_rep]
    cases its with
    | nil => simp
    | cons a r' => rw [if_neg (by simp)]
  refine wpAny_binaryOp_repeat_ref (T := "list") (U := "int") (by decide) ⟨_, ho, rfl⟩ (fun s' => typeIs_int s' k t) noFill_list_mul PySem.F.fills_int_mul PySem.F.slot_int_rmul repeat_list PySem.F.slot_int_index.lookup
    (call_meets PySem.F.slot_int_rmul (typeIs_int s k t) PySem.F.entry_int_rmul (PySem.F.args_int_rmul_2 _ _) (int_rmul_listW k t l its.toArray n dd sl)
      ⟨ho, rfl, ⟨_, ho, rfl⟩, call_meets PySem.F.slot_list_mul ⟨_, ho, rfl⟩ PySem.F.entry_list_mul (PySem.F.args_list_mul_2 _ _) (list_mulW l its.toArray n dd sl k t hfit hcap hlong) ⟨ho, ?_⟩⟩)
  rw [hnew]
  exact ⟨.ref _, _, I.lnew (t' := s.toks) (r.rep k.toNat) (by rw [PyProof.Rows.lm_len_rep_flat, sizeLine_eq, ← hle]; have := Nat.mul_comm its.length k.toNat; omega), rfl, q _ I.fresh⟩
/-- a text times a number -/
def rRepS : R2 := fun x y H Q => ∃ a k, x = .str a ∧ y = .int k ∧ 0 ≤ k ∧ k ≤ 1000 ∧ a.length ≤ 1000 ∧ Q (.str (DL.repS k.toNat a)) H
theorem mul_repS (a : Str) (k : Int) (h : 0 ≤ k) : Txt.mul a k = DL.repS k.toNat a := by
  have f : ∀ (n : Nat) (c : Array Nat), (List.replicate n a.cps).foldl (· ++ ·) c = c ++ (DL.repS n a).cps := by
    intro n
    induction n with
    | zero => intro c; show c = c ++ #[]; simp
    | succ n ih =>
      intro c
      rw [List.replicate_succ, List.foldl_cons, ih]
      show _ = c ++ (a.cps ++ (DL.repS n a).cps)
      rw [Array.append_assoc]
  unfold Txt.mul
  by_cases h1 : k < 1
  · have e : k = 0 := by omega
    subst e
    rw [if_pos h1]
    rfl
  · rw [if_neg h1]
    by_cases h2 : (k == 1 || a.length == 0) = true
    · rw [if_pos h2]
      rcases Bool.or_eq_true _ _ |>.mp h2 with e | e
      · have e : k = 1 := by simpa using e
        subst e
        show a = ⟨a.cps ++ #[]⟩
        rw [Array.append_empty]
      · have e : a.cps = #[] := by
          have : a.cps.size = 0 := by simpa [Str.length] using e
          exact Array.eq_empty_of_size_eq_zero this
        have z : ∀ n, DL.repS n ⟨#[]⟩ = ⟨#[]⟩ := fun n => by
          induction n with
          | zero => rfl
          | succ n ih => rw [DL.repS, ih]; rfl
        cases a
        simp only at e
        subst e
        rw [z]
    · rw [if_neg h2, f]
      simp
theorem repS_len (a : Str) (n : Nat) : (DL.repS n a).length = n * a.length := by
  induction n with
  | zero => simp [DL.repS, Str.empty, Str.length]
  | succ n ih =>
    have : (DL.repS (n + 1) a).length = a.length + (DL.repS n a).length := by
      show (a.cps ++ (DL.repS n a).cps).size = _
      rw [Array.size_append]
      rfl
    rw [this, ih, Nat.succ_mul, Nat.add_comm]
theorem op_repS {X : Cx} : OpR X (binaryOp .Mult) rRepS := by
  intro pins s σ H x y v u Q I rx ry h
  obtain ⟨a, k, rfl, rfl, h1, h2, hz, q⟩ := h
  obtain ⟨t, rfl⟩ := rx
  obtain ⟨t', rfl⟩ := ry
  refine SB.mul ⟨by rw [decide_eq_false (by omega), decide_eq_false (by omega)] <;> rfl, fun h3 _ h4 => ?_, fun _ _ => ?_⟩ fun t2 k2 => ?_
  · have : (1000 : Int) ≤ (2 ^ 63 - 1) / k := by
      rw [Int.le_ediv_iff_mul_le (by omega)]
      omega
    omega
  · unfold Builtin.Str.tooLong
    have : a.length * k.toNat ≤ 1000 * 1000 := Nat.mul_le_mul (by omega) (by omega)
    rw [sizeLine_eq]
    exact decide_eq_false (by omega)
  · rw [mul_repS a k h1]
    exact ⟨.str _, H, I.kept (t' := k2) fun b o e => e, ⟨t2, rfl⟩, q⟩
end L2

set_option maxRecDepth 100000
set_option maxHeartbeats 1000000
/-! DLe: sums, products, places, slices, built-in functions, calls of own defs. -/
namespace DL
open PySem PySem.Spec PyProof.Rows L2
section
variable {X : Cx} {κ : Kit}
/-! ### + -/
def rCatL (K : PySem.W.Frag) : R2 := fun x y H Q => ∃ l b xs zs, x = .ref l ∧ y = .ref b ∧ SqL K H l xs ∧ SqL K H b zs ∧ xs.length + zs.length ≤ sizeLine ∧ ∀ p, H p = none → Q (.ref p) (upd H p (.lst (xs ++ zs)))
theorem op_catL : OpR X (binaryOp .Add) (rCatL X.K) := by
  intro pins s σ H x y v u Q I rx ry h
  obtain ⟨l, b, xs, zs, rfl, rfl, hH, hB, hz, q⟩ := h
  cases rx
  cases ry
  obtain ⟨its, r, p1, z1⟩ := I.list hH
  obtain ⟨its2, r2, p2, z2⟩ := I.list hB
  obtain ⟨⟨cls, dd, data, sl⟩, ho, hc, n, hd⟩ := p1.isList
  obtain ⟨⟨cls2, dd2, data2, sl2⟩, ho2, hc2, n2, hd2⟩ := p2.isList
  simp only at hc hd hc2 hd2
  subst hc hd hc2 hd2
  have l1 := r.length
  have l2 := r2.length
  have e : its.toArray ++ its2.toArray = (its ++ its2).toArray := by simp
  refine concat_meets ⟨_, ho, rfl⟩ ⟨_, ho2, rfl⟩ noFill_list_add seq_list_add PySem.F.slot_list_add PySem.F.entry_list_add (PySem.F.args_list_add_2 _ _) (list_addW l b its.toArray its2.toArray n n2 dd dd2 sl sl2 (by rw [List.size_toArray, List.size_toArray]; omega)) ⟨ho, ho2, ?_⟩
  rw [e]
  exact ⟨.ref _, _, I.lnew (t' := s.toks) (r.append r2) (by rw [List.length_append]; omega), rfl, q _ I.fresh⟩
theorem strOk_append {a b : Str} (ha : PyData.strOk a = true) (hb : PyData.strOk b = true) : PyData.strOk (a ++ b) = true := by
  unfold PyData.strOk at *
  show (a.cps ++ b.cps).all _ = true
  rw [Array.all_append, ha, hb]
  rfl
theorem Str.length_append (a b : Str) : (a ++ b).length = a.length + b.length := by
  show (a.cps ++ b.cps).size = _
  rw [Array.size_append]
  rfl
def rAdd (K : PySem.W.Frag) : R2 := fun x y H Q => rI0 (fun i j => .int (i + j)) x y H Q ∨ ((∃ i j, x = .str i ∧ y = .str j ∧ i.length + j.length ≤ sizeLine ∧ Q (.str (i ++ j)) H) ∨ (rCatA K x y H Q ∨ rCatL K x y H Q))
theorem rp_tup {F H : Hp} {v : V} {ds : List PyData} (s : Same F H) (h : RpM κ F H v (.tuple ds)) : Rp κ F v (.tuple ds) := by
  obtain ⟨_, _, _, _, _, _, h⟩ := RpM.tuple s h
  exact h
theorem nil_of {F : Hp} {xs : List V} {ds : List PyData} (h : RpAll κ F xs ds) : xs = [] ↔ ds = [] := by
  cases h <;> simp
theorem x_add : OpR X (binaryOp .Add) (rAdd X.K) ∧ Op2 (kitOf X) .E (rAdd X.K) oAdd := by
  refine ⟨op_add.or (op_add_str.or (op_catA.or op_catL)), fun x y dx dy F H P Q s hx hy p q => ?_⟩
  unfold oAdd at p
  split at p
  · exact .inl ⟨_, _, RpM.int hx, RpM.int hy, int_ s q p⟩
  · obtain ⟨e1, l1, o1⟩ := RpM.str hx
    obtain ⟨e2, l2, o2⟩ := RpM.str hy
    exact .inr (.inl ⟨_, _, e1, e2, p.1, q _ F H _ p.2 (.refl s) (.str _ (by rw [Str.length_append]; exact p.1) (strOk_append o1 o2))⟩)
  · rename_i a b
    obtain ⟨a1, xs, e1, h1, l1, r1, R1⟩ := RpM.tuple s hx
    obtain ⟨a2, ys, e2, h2, l2, r2, R2⟩ := RpM.tuple s hy
    subst e1 e2
    have hl : xs.length + ys.length ≤ sizeLine := by rw [r1.length, r2.length]; exact p.1
    refine .inr (.inr (.inl ⟨a1, a2, xs, ys, rfl, rfl, h1, h2, hl, fun e => ?_, fun e e' => ?_, fun e e' p0 hp => ?_⟩))
    · have : a = [] := (nil_of r1).mp e
      subst this
      exact q _ F H _ p.2 (.refl s) R2
    · have : b = [] := (nil_of r2).mp e'
      subst this
      have q' := p.2
      rw [List.append_nil] at q'
      exact q _ F H _ q' (.refl s) R1
    · obtain ⟨e2, z2⟩ := ext_tup (κ := kitOf X) s hp (by rw [List.length_append]; exact hl) (r1.append r2)
      exact q _ _ _ _ p.2 e2 z2
  · obtain ⟨a1, xs, e1, h1, l1, r1⟩ := RpM.list s hx
    obtain ⟨a2, ys, e2, h2, l2, r2⟩ := RpM.list s hy
    subst e1 e2
    have hl : xs.length + ys.length ≤ sizeLine := by rw [r1.length, r2.length]; exact p.1
    refine .inr (.inr (.inr ⟨a1, a2, xs, ys, rfl, rfl, h1, h2, hl, fun p0 hp => ?_⟩))
    obtain ⟨e2, z2⟩ := ext_lst (κ := kitOf X) s hp (by rw [List.length_append]; exact hl) (r1.append r2)
    exact frzQ q _ _ _ _ p.2 e2 z2
  · exact p.elim
theorem x_addL : OpR X (binaryOp .Add) (rCatL X.K) ∧ Op2 (kitOf X) .F (rCatL X.K) oAddL := by
  refine ⟨op_catL, fun x y dx dy F H P Q s hx hy p q => ?_⟩
  unfold oAddL at p
  split at p
  · obtain ⟨a1, xs, e1, h1, l1, r1⟩ := RpM.list s hx
    obtain ⟨a2, ys, e2, h2, l2, r2⟩ := RpM.list s hy
    subst e1 e2
    have hl : xs.length + ys.length ≤ sizeLine := by rw [r1.length, r2.length]; exact p.1
    refine ⟨a1, a2, xs, ys, rfl, rfl, h1, h2, hl, fun p0 hp => ?_⟩
    obtain ⟨e2, z2⟩ := ext_lst (κ := kitOf X) s hp (by rw [List.length_append]; exact hl) (r1.append r2)
    exact q _ _ _ _ p.2 e2 z2
  · exact p.elim
/-! ### * -/
def rMul (K : PySem.W.Frag) : R2 := fun x y H Q => rI CMul (fun i j => .int (i * j)) x y H Q ∨ (rRepT K x y H Q ∨ (rRep1 K x y H Q ∨ (rRepS x y H Q ∨ rRepL K x y H Q)))
theorem x_mul : OpR X (binaryOp .Mult) (rMul X.K) ∧ Op2 (kitOf X) .E (rMul X.K) oMul := by
  refine ⟨op_mul.or (op_repT.or (op_rep1.or (op_repS.or op_repL))), fun x y dx dy F H P Q s hx hy p q => ?_⟩
  unfold oMul at p
  split at p
  · exact .inl ⟨_, _, RpM.int hx, RpM.int hy, p.1, int_ s q p.2⟩
  · obtain ⟨a1, xs, e1, h1, l1, r1, R1⟩ := RpM.tuple s hx
    subst e1
    obtain ⟨⟨c1, c2, c3, c4⟩, p⟩ := p
    have hl := r1.length
    rename_i a j
    by_cases hj : j = 1
    · subst hj
      have e : (List.replicate (1 : Int).toNat a).flatten = a := by
        show (List.replicate 1 a).flatten = a
        simp
      rw [e] at p
      exact .inr (.inr (.inl ⟨a1, xs, rfl, RpM.int hy, h1, q _ F H _ p (.refl s) R1⟩))
    · refine .inr (.inl ⟨a1, _, xs, rfl, RpM.int hy, h1, fun z => c1 ((nil_of r1).mp z), by omega, c3, by omega, fun p0 hp => ?_⟩)
      have l2 : ∀ (n : Nat), (List.replicate n xs).flatten.length = n * xs.length := fun n => by
        induction n with
        | zero => simp
        | succ n ih => rw [List.replicate_succ, List.flatten_cons, List.length_append, ih, Nat.succ_mul, Nat.add_comm]
      obtain ⟨e2, z2⟩ := ext_tup (κ := kitOf X) s hp (by
        rw [l2, sizeLine_eq]
        have : j.toNat * xs.length ≤ 1000 * 1000 := Nat.mul_le_mul (by omega) (by omega)
        omega) (r1.rep j.toNat)
      exact q _ _ _ _ p e2 z2
  · obtain ⟨e1, l1, o1⟩ := RpM.str hx
    obtain ⟨⟨c1, c2, c3⟩, p⟩ := p
    rename_i a j
    refine .inr (.inr (.inr (.inl ⟨_, _, e1, RpM.int hy, c1, c2, c3, q _ F H _ p (.refl s) (.str _ ?_ ?_)⟩)))
    · rw [repS_len, sizeLine_eq]
      have : j.toNat * a.length ≤ 1000 * 1000 := Nat.mul_le_mul (by omega) c3
      omega
    · generalize j.toNat = n
      induction n with
      | zero => simp [repS, PyData.strOk, Str.empty]
      | succ n ih => exact strOk_append o1 ih
  · obtain ⟨a1, xs, e1, h1, l1, r1⟩ := RpM.list s hx
    subst e1
    obtain ⟨⟨c1, c2, c3⟩, p⟩ := p
    rename_i a j
    have hl := r1.length
    refine .inr (.inr (.inr (.inr ⟨a1, _, xs, rfl, RpM.int hy, h1, c1, c2, by omega, fun p0 hp => ?_⟩)))
    obtain ⟨e2, z2⟩ := ext_lst (κ := kitOf X) s hp (by
      rw [PyProof.Rows.lm_len_rep_flat, sizeLine_eq]
      have : j.toNat * xs.length ≤ 1000 * 1000 := Nat.mul_le_mul (by omega) (by omega)
      omega) (r1.rep j.toNat)
    exact frzQ q _ _ _ _ p e2 z2
  · exact p.elim
theorem x_mulL : OpR X (binaryOp .Mult) (rRepL X.K) ∧ Op2 (kitOf X) .F (rRepL X.K) oMulL := by
  refine ⟨op_repL, fun x y dx dy F H P Q s hx hy p q => ?_⟩
  unfold oMulL at p
  split at p
  · obtain ⟨a1, xs, e1, h1, l1, r1⟩ := RpM.list s hx
    subst e1
    obtain ⟨⟨c1, c2, c3⟩, p⟩ := p
    rename_i a j
    have hl := r1.length
    refine ⟨a1, _, xs, rfl, RpM.int hy, h1, c1, c2, by omega, fun p0 hp => ?_⟩
    obtain ⟨e2, z2⟩ := ext_lst (κ := kitOf X) s hp (by
      rw [PyProof.Rows.lm_len_rep_flat, sizeLine_eq]
      have : j.toNat * xs.length ≤ 1000 * 1000 := Nat.mul_le_mul (by omega) (by omega)
      omega) (r1.rep j.toNat)
    exact q _ _ _ _ p e2 z2
  · exact p.elim
/-! ### a place -/
theorem atI_rp {F : Hp} {xs : List V} {ds : List PyData} {i : Int} {d : PyData} (h : RpAll κ F xs ds) (e : atI ds i = some d) : ∃ v, atI xs i = some v ∧ Rp κ F v d := by
  unfold atI at e ⊢
  rw [h.length]
  cases q : ixN ds.length i with
  | none => rw [q] at e; cases e
  | some j => rw [q] at e; exact h.get (i := j) e
theorem strOk_one {z : Str} {c : Nat} (h : PyData.strOk z = true) (hc : c ∈ z.cps.toList) : PyData.strOk ⟨#[c]⟩ = true := by
  unfold PyData.strOk at *
  have h1 := Array.all_eq_true'.mp h c (by simpa using hc)
  simpa using h1
theorem atI_mem {α : Type} {xs : List α} {i : Int} {d : α} (e : atI xs i = some d) : d ∈ xs := by
  obtain ⟨j, _, h, _⟩ := atI_get e
  exact List.mem_of_getElem? h
theorem x_ix : IxR X (rIx X.K) ∧ Op2 (kitOf X) .E (rIx X.K) oIx := by
  refine ⟨ix_seq, fun x y dx dy F H P Q s hx hy p q => ?_⟩
  unfold oIx at p
  split at p
  · obtain ⟨a1, xs, e1, h1, l1, r1⟩ := RpM.list s hx
    obtain ⟨d, hd, p⟩ := p
    obtain ⟨v, hv, r⟩ := atI_rp r1 hd
    exact .inl ⟨a1, xs, _, v, e1, RpM.int hy, h1, hv, q _ F H _ p (.refl s) r⟩
  · obtain ⟨a1, xs, e1, h1, l1, r1, _⟩ := RpM.tuple s hx
    obtain ⟨d, hd, p⟩ := p
    obtain ⟨v, hv, r⟩ := atI_rp r1 hd
    exact .inr (.inl ⟨a1, xs, _, v, e1, RpM.int hy, h1, hv, q _ F H _ p (.refl s) r⟩)
  · obtain ⟨e1, l1, o1⟩ := RpM.str hx
    obtain ⟨c, hc, p⟩ := p
    exact .inr (.inr ⟨_, _, c, e1, RpM.int hy, l1, hc, q _ F H _ p (.refl s) (.str _ (by show 1 ≤ sizeLine; decide) (strOk_one o1 (atI_mem hc)))⟩)
  · exact p.elim
variable {k ka kb kc : Kd} {a b c : Expr} {fa fb fc : WE} {pos p2 : Pos}
theorem dx_ix (ha : DX ka X a fa) (hb : DX kb X b fb) (hs : PlainIx b := by exact fun _ _ => rfl) : DX .E X (.Subscript a b pos) (w2 oIx fa fb) :=
  (.of (pe_ix x_ix.1 ha.pe hb.pe hs) (sem_op2 x_ix.2 ha.sem hb.sem))
/-! ### slices -/
def SemO (κ : Kit) (t : TO) (f : WO) : Prop := ∀ (ρ : Rho) (σ : L2.St) (F H : Hp) (P : Option Int → Prop) (Q : Option Int → Hp → Prop), EnvR κ F H ρ σ → f ρ P →
  (∀ o F' H', P o → Ext F H F' H' → Q o H') → t σ H Q
def canO (κ : Kit) (f : WO) : TO := fun σ H Q => ∃ (ρ : Rho) (F : Hp) (P : Option Int → Prop), EnvR κ F H ρ σ ∧ f ρ P ∧ ∀ o F' H', P o → Ext F H F' H' → Q o H'
structure DO (X : Cx) (e : Option Expr) (f : WO) : Prop where
  po : PO X e (canO (kitOf X) f)
theorem DO.of {e : Option Expr} {t : TO} {f : WO} (h : PO X e t) (s : SemO (kitOf X) t f) : DO X e f := ⟨⟨fun pins s0 σ H Q I ⟨ρ, F, P, r, p, q⟩ => h.run pins s0 σ H Q I (s ρ σ F H P Q r p q)⟩⟩
theorem DO.sem {e : Option Expr} {f : WO} (h : DO X e f) : SemO (kitOf X) (canO (kitOf X) f) f := fun ρ σ F H P Q r p q => ⟨ρ, F, P, r, p, q⟩
theorem do_no : DO X none oNo := (.of (po_none) (fun ρ σ F H P Q rr hp q => q none F H hp (.refl rr.sub)))
theorem do_some (ha : DX ka X a fa) : DO X (some a) (oPart fa) := by
  refine (.of (po_some ha.pe) (fun ρ σ F H P Q rr hp q => ?_))
  refine ha.sem.toM ρ σ F H _ _ rr hp fun d F' H' v p e z => ?_
  unfold oPart at hp
  cases d with
  | int i => exact ⟨i, RpM.int z, q _ F' H' p e⟩
  | _ => exact p.elim
def rSlX (K : PySem.W.Frag) : V → Option Int → Option Int → Hp → VK → Prop := fun x lo hi H Q => rSlL K x lo hi H Q ∨ (rSlA K x lo hi H Q ∨ rSlS x lo hi H Q)
theorem strOk_of {z : Str} {l : List Nat} (h : PyData.strOk z = true) (hs : ∀ c ∈ l, c ∈ z.cps.toList) : PyData.strOk ⟨l.toArray⟩ = true := by
  unfold PyData.strOk at *
  rw [List.all_toArray]
  exact List.all_eq_true.mpr fun c hc => Array.all_eq_true'.mp h c (by simpa using hs c hc)
theorem strOk_cut {z : Str} {lo hi : Option Int} (h : PyData.strOk z = true) : PyData.strOk (cutS z lo hi) = true :=
  strOk_of h fun c hc => List.mem_of_mem_drop (List.mem_of_mem_take hc)
theorem cutV_eq {ds : List V} {lo hi : Option Int} (h : HT.sIx ds.length 0 lo = 0 ∧ HT.sIx ds.length ds.length hi = ds.length) : cutV ds lo hi = ds := by
  unfold cutV
  rw [h.1, h.2, Nat.sub_zero, List.drop_zero, List.take_length]
theorem dx_slice {lo hi : Option Expr} {fl fh : WO} (ha : DX ka X a fa) (hl : DO X lo fl) (hh : DO X hi fh) : DX .E X (.Subscript a (.Slice lo hi none p2) pos) (wSlice fa fl fh) := by
  refine (.of (pe_slice (sl_list.or (sl_tupA.or sl_str)) ha.pe hl.po hh.po) (fun ρ σ F H P Q rr hp q => ?_))
  refine ha.sem.toM ρ σ F H _ _ rr hp fun d F1 H1 v p1 e1 z1 => ?_
  refine hl.sem ρ σ F1 H1 _ _ (rr.ext e1) p1 fun l F2 H2 p2 e2 => ?_
  refine hh.sem ρ σ F2 H2 _ _ (rr.ext (e1.trans e2)) p2 fun h F3 H3 p3 e3 => ?_
  have e := (e1.trans e2).trans e3
  have z := RpM.ext (e2.trans e3) z1
  have s := e3.sub
  have q' : ∀ d F' H' v, P d → Ext F3 H3 F' H' → RK .E (kitOf X) H3 F' H' v d → Q v H' := fun d F' H' v p e' z' => q d F' H' v p (e.trans e') z'
  cases d with
  | list ds =>
    obtain ⟨a1, xs, ev, h1, l1, r1⟩ := RpM.list s z
    refine .inl ⟨a1, xs, ev, h1, fun p hp => ?_⟩
    obtain ⟨e4, z4⟩ := ext_lst (κ := kitOf X) s hp (Nat.le_trans (cutV_length _ _ _) l1) (r1.cut l h)
    exact frzQ q' _ _ _ _ p3 e4 z4
  | tuple ds =>
    obtain ⟨a1, xs, ev, h1, l1, r1, R1⟩ := RpM.tuple s z
    refine .inr (.inl ⟨a1, xs, ev, h1, fun hw => ?_, fun hw p hp => ?_⟩)
    · have hd : cutD ds l h = ds := by
        rw [r1.length] at hw
        unfold cutD
        rw [hw.1, hw.2, Nat.sub_zero, List.drop_zero, List.take_length]
      have p3' : P (.tuple (cutD ds l h)) := p3
      rw [hd] at p3'
      subst ev
      exact q' _ F3 H3 _ p3' (.refl s) R1
    · obtain ⟨e4, z4⟩ := ext_tup (κ := kitOf X) s hp (Nat.le_trans (cutV_length _ _ _) l1) (r1.cut l h)
      exact q' _ _ _ _ p3 e4 z4
  | str y =>
    obtain ⟨ev, l1, o1⟩ := RpM.str z
    exact .inr (.inr ⟨y, ev, l1, q' _ F3 H3 _ p3 (.refl s) (.str _ (Nat.le_trans (cutS_length _ _ _) l1) (strOk_cut o1))⟩)
  | _ => exact p3.elim
end
end DL

set_option maxRecDepth 100000
set_option maxHeartbeats 1000000
/-! DLf: built-in functions, calls of own defs, iterators, comprehensions. -/
namespace DL
open PySem PySem.Spec PyProof.Rows L2
section
variable {X : Cx} {κ : Kit}
theorem rm1 {F H : Hp} {vs : List V} {d : PyData} (h : RmAll κ F H vs [d]) : ∃ v, vs = [v] ∧ RpM κ F H v d := by
  cases h with
  | cons h1 h2 => cases h2; exact ⟨_, rfl, h1⟩
theorem rm2 {F H : Hp} {vs : List V} {d e : PyData} (h : RmAll κ F H vs [d, e]) : ∃ v u, vs = [v, u] ∧ RpM κ F H v d ∧ RpM κ F H u e := by
  cases h with
  | cons h1 h2 =>
    obtain ⟨u, rfl, h3⟩ := rm1 h2
    exact ⟨_, u, rfl, h1, h3⟩
def rLenX (K : PySem.W.Frag) : List V → Hp → VK → Prop := fun xs H Q => (∃ p ys, xs = [.ref p] ∧ (SqL K H p ys ∨ SqT K H p ys) ∧ Q (.int ys.length) H) ∨ ∃ z, xs = [.str z] ∧ z.length ≤ sizeLine ∧ Q (.int z.length) H
theorem x_len : CallR X (.builtin "len") (rLenX X.K) ∧ OpN (kitOf X) .E (rLenX X.K) fLen := by
  refine ⟨call_len_seq.or call_len_str, fun vs ds F H P Q s hx p q => ?_⟩
  unfold fLen at p
  split at p
  · obtain ⟨v, rfl, h⟩ := rm1 hx
    obtain ⟨a, xs, rfl, h1, h2, h3⟩ := RpM.list s h
    exact .inl ⟨a, xs, rfl, .inl h1, by rw [h3.length]; exact int_ s q p⟩
  · obtain ⟨v, rfl, h⟩ := rm1 hx
    obtain ⟨a, xs, rfl, h1, h2, h3, _⟩ := RpM.tuple s h
    exact .inl ⟨a, xs, rfl, .inr h1, by rw [h3.length]; exact int_ s q p⟩
  · obtain ⟨v, rfl, h⟩ := rm1 hx
    obtain ⟨rfl, h1, h2⟩ := RpM.str h
    exact .inr ⟨_, rfl, h1, int_ s q p⟩
  · exact p.elim
theorem bools_rp {F : Hp} : ∀ {ds : List PyData} {xs : List V} {bs : List Bool}, RpAll κ F xs ds → boolsOf ds = some bs → xs = bs.map V.bl
  | [], _, bs, .nil, e => by cases e; rfl
  | d :: ds, _, bs, .cons h t, e => by
    cases h with
    | bl b =>
      rw [boolsOf] at e
      cases q : boolsOf ds with
      | none => rw [q] at e; cases e
      | some cs =>
        rw [q] at e
        cases e
        rw [List.map_cons, bools_rp t q]
    | _ => simp [boolsOf] at e
theorem x_all (hc : X.calm = true) : CallR X (.builtin "all") (rAll X.K) ∧ OpN (kitOf X) .E (rAll X.K) fAll := by
  refine ⟨cr_all hc, fun vs ds F H P Q s hx p q => ?_⟩
  unfold fAll at p
  split at p
  · obtain ⟨v, rfl, h⟩ := rm1 hx
    obtain ⟨a, xs, rfl, h1, h2, h3⟩ := RpM.list s h
    obtain ⟨bs, e, p⟩ := p
    exact ⟨a, bs, rfl, by rw [← bools_rp h3 e]; exact h1, bool_ s q p⟩
  · exact p.elim
theorem x_any (hc : X.calm = true) : CallR X (.builtin "any") (rAny X.K) ∧ OpN (kitOf X) .E (rAny X.K) fAny := by
  refine ⟨cr_any hc, fun vs ds F H P Q s hx p q => ?_⟩
  unfold fAny at p
  split at p
  · obtain ⟨v, rfl, h⟩ := rm1 hx
    obtain ⟨a, xs, rfl, h1, h2, h3⟩ := RpM.list s h
    obtain ⟨bs, e, p⟩ := p
    exact ⟨a, bs, rfl, by rw [← bools_rp h3 e]; exact h1, bool_ s q p⟩
  · exact p.elim
abbrev rTupOf (K : PySem.W.Frag) : List V → Hp → VK → Prop := fun xs H Q => ∃ p ys, xs = [.ref p] ∧ ((SqL K H p ys ∧ ∀ l, H l = none → Q (.ref l) (upd H l (.tup ys))) ∨ (SqT K H p ys ∧ Q (.ref p) H))
theorem x_tupleOf : CallR X (.type "tuple") (rTupOf X.K) ∧ OpN (kitOf X) .E (rTupOf X.K) fTupleOf := by
  refine ⟨call_tuple_of, fun vs ds F H P Q s hx p q => ?_⟩
  unfold fTupleOf at p
  split at p
  · obtain ⟨v, rfl, h⟩ := rm1 hx
    obtain ⟨a, xs, rfl, h1, h2, h3⟩ := RpM.list s h
    refine ⟨a, xs, rfl, .inl ⟨h1, fun l hl => ?_⟩⟩
    obtain ⟨e2, z2⟩ := ext_tup (κ := kitOf X) s hl h2 h3
    exact q _ _ _ _ p e2 z2
  · obtain ⟨v, rfl, h⟩ := rm1 hx
    obtain ⟨a, xs, rfl, h1, h2, h3, h4⟩ := RpM.tuple s h
    exact ⟨a, xs, rfl, .inr ⟨h1, q _ F H _ p (.refl s) h4⟩⟩
  · exact p.elim
abbrev rLstOf (K : PySem.W.Frag) : List V → Hp → VK → Prop := fun xs H Q => ∃ p ys, xs = [.ref p] ∧ (SqL K H p ys ∨ SqT K H p ys) ∧ ∀ l, H l = none → Q (.ref l) (upd H l (.lst ys))
theorem x_listOf : CallR X (.type "list") (rLstOf X.K) ∧ OpN (kitOf X) .F (rLstOf X.K) fListOf := by
  refine ⟨call_list_of, fun vs ds F H P Q s hx p q => ?_⟩
  unfold fListOf at p
  split at p
  · obtain ⟨v, rfl, h⟩ := rm1 hx
    obtain ⟨a, xs, rfl, h1, h2, h3⟩ := RpM.list s h
    refine ⟨a, xs, rfl, .inl h1, fun l hl => ?_⟩
    obtain ⟨e2, z2⟩ := ext_lst (κ := kitOf X) s hl h2 h3
    exact q _ _ _ _ p e2 z2
  · obtain ⟨v, rfl, h⟩ := rm1 hx
    obtain ⟨a, xs, rfl, h1, h2, h3, _⟩ := RpM.tuple s h
    refine ⟨a, xs, rfl, .inr h1, fun l hl => ?_⟩
    obtain ⟨e2, z2⟩ := ext_lst (κ := kitOf X) s hl h2 h3
    exact q _ _ _ _ p e2 z2
  · exact p.elim
theorem num_str {n : Int} (h0 : 0 ≤ n) (h1 : n < 10 ^ 100) : n.natAbs.log2 < 1920 ∧ (Str.ofString (toString n)).length ≤ sizeLine ∧ PyData.strOk (Str.ofString (toString n)) = true := by
  obtain ⟨m, rfl⟩ : ∃ m : Nat, n = m := ⟨n.toNat, by omega⟩
  have hm : m < 10 ^ 100 := by exact_mod_cast h1
  have e := TL.tl_num m
  refine ⟨?_, ?_, ?_⟩
  · rw [Int.natAbs_natCast]
    by_cases z : m = 0
    · subst z; decide
    · exact (Nat.log2_lt z).mpr (Nat.lt_trans hm (by decide))
  · rw [TL.len_tl, e, sizeLine_eq]
    have := TL.numL_len (n := m) (k := 100) (by decide) hm
    omega
  · unfold PyData.strOk
    rw [Array.all_eq_true']
    intro c hc
    have hc2 : c ∈ TL.numL m := by
      rw [← e]
      simpa [TL.tl] using hc
    have hz : ¬ (c < 48 ∨ 57 < c) := fun q => TL.numL_free q hc2
    exact decide_eq_true (by omega)
abbrev rStrOf : List V → Hp → VK → Prop := fun xs H Q => ∃ i : Int, xs = [.int i] ∧ i.natAbs.log2 < 1920 ∧ Q (.str (toString i)) H
theorem x_strOf : CallR X (.type "str") rStrOf ∧ OpN (kitOf X) .E rStrOf fStrOf := by
  refine ⟨call_str_int, fun vs ds F H P Q s hx p q => ?_⟩
  unfold fStrOf at p
  split at p
  · obtain ⟨v, rfl, h⟩ := rm1 hx
    have e := RpM.int h
    subst e
    obtain ⟨⟨h0, h1⟩, p⟩ := p
    obtain ⟨z1, z2, z3⟩ := num_str h0 h1
    exact ⟨_, rfl, z1, q _ F H _ p (.refl s) (.str _ z2 z3)⟩
  · exact p.elim
abbrev rIntOf : List V → Hp → VK → Prop := fun xs H Q => (∃ a n, xs = [.str a] ∧ PySem.intText? a = some n ∧ a.length ≤ 640 ∧ Q (.int n) H) ∨ ((∃ i, xs = [.int i] ∧ Q (.int i) H) ∨ ∃ k, xs = [.bl k] ∧ Q (.int (if k then 1 else 0)) H)
theorem x_intOf : CallR X (.type "int") rIntOf ∧ OpN (kitOf X) .E rIntOf fIntOf := by
  refine ⟨call_int_str.or call_int1, fun vs ds F H P Q s hx p q => ?_⟩
  unfold fIntOf at p
  split at p
  · obtain ⟨v, rfl, h⟩ := rm1 hx
    obtain ⟨rfl, h1, h2⟩ := RpM.str h
    obtain ⟨hl, n, e, p⟩ := p
    exact .inl ⟨_, n, rfl, e, hl, int_ s q p⟩
  · obtain ⟨v, rfl, h⟩ := rm1 hx
    have e := RpM.int h
    subst e
    exact .inr (.inl ⟨_, rfl, int_ s q p⟩)
  · exact p.elim
variable {k ka kb kc : Kd} {a b c e : Expr} {es : List Expr} {fa fb fc : WE} {f : WA} {pos p p2 p3 : Pos} {x : Str} {id T : String}
theorem dx_callB {r : List V → Hp → VK → Prop} {g : WF} (h : CallR X (.builtin id) r ∧ OpN (kitOf X) k r g) (hm : X.mg x = none) (ha : DB X (e :: es) f) (hg : Gl X x := by rfl) (hv : bootBuiltins x = some (.builtin id) := by decide +kernel) (hn : x ≠ "__name__" := by decide) (hdb : (x == ("__debug__" : Str)) = false := by decide)
    (he : starEach (e :: es) X.env = (false, eval e X.env) :: starEach es X.env := by rfl) (hpl : (backTo pos (starEach es X.env)).any (·.1) = false := by rfl) : DX k X (.Call (.Name x p) (e :: es) [] pos) (wApp g f) :=
  (.of (pe_callB h.1 hg hm hv ha.pa hn hdb he hpl) (sem_opN h.2 ha.sem))
theorem dx_callTy {r : List V → Hp → VK → Prop} {g : WF} (h : CallR X (.type T) r ∧ OpN (kitOf X) k r g) (hm : X.mg x = none) (ha : DB X (e :: es) f) (hg : Gl X x := by rfl) (hv : bootBuiltins x = some (.type T) := by decide +kernel) (hn : x ≠ "__name__" := by decide) (hdb : (x == ("__debug__" : Str)) = false := by decide)
    (he : starEach (e :: es) X.env = (false, eval e X.env) :: starEach es X.env := by rfl) (hpl : (backTo pos (starEach es X.env)).any (·.1) = false := by rfl) : DX k X (.Call (.Name x p) (e :: es) [] pos) (wApp g f) :=
  (.of (pe_callTy h.1 hg hm hv ha.pa hn hdb he hpl) (sem_opN h.2 ha.sem))

/-! ### isinstance -/
def tyOf : PyData → String
  | .none => "NoneType"
  | .bool _ => "bool"
  | .int _ => "int"
  | .str _ => "str"
  | .list _ => "list"
  | .tuple _ => "tuple"
  | .dict _ => "dict"
def tyNames : List String := ["int", "bool", "str", "list", "tuple", "dict"]
theorem kit_all : (["NoneType", "bool", "int", "str", "list", "tuple", "dict"].all fun a => tyNames.all fun b => decide (kitB a b = some (a == b || (a == "bool" && b == "int")))) = true := by decide +kernel
theorem isTy_eq (d : PyData) (b : String) (h : b ∈ tyNames) : isTy b d = (tyOf d == b || (tyOf d == "bool" && b == "int")) := by
  simp only [tyNames, List.mem_cons, List.not_mem_nil, or_false] at h
  rcases h with rfl | rfl | rfl | rfl | rfl | rfl <;> cases d <;> rfl
theorem kitB_ty (d : PyData) (b : String) (h : b ∈ tyNames) : kitB (tyOf d) b = some (isTy b d) := by
  rw [isTy_eq d b h]
  have h1 : tyOf d ∈ ["NoneType", "bool", "int", "str", "list", "tuple", "dict"] := by cases d <;> simp [tyOf]
  have h2 := List.all_eq_true.mp kit_all _ h1
  have h3 := List.all_eq_true.mp h2 _ h
  exact of_decide_eq_true h3
theorem tyX_of {F H : Hp} {v : V} {d : PyData} (h : Rp κ H v d) : TyX κ.K H v (.type (tyOf d)) := by
  cases h with
  | non => exact .base .non
  | bl b => exact .base (.bl b)
  | int i => exact .base (.int i)
  | str x _ _ => exact .base (.str x)
  | lst h1 h2 h3 =>
    rcases h1 with (h1 | ⟨o, h1⟩) | ⟨o, its, n, h1, h4, _⟩
    · exact .base (.lst h1)
    · exact .base (.frz h1)
    · exact .kList h1 h4
  | tup h1 h2 h3 =>
    rcases h1 with (h1 | ⟨o, h1⟩) | ⟨o, its, n, h1, h4, _⟩
    · exact .base (.tup h1)
    · exact .fTuple h1
    · exact .kTuple h1 h4
  | dct h1 h2 h3 =>
    cases h2 with
    | k kvs => exact .base (.dK h1)
    | t kvs => exact .base (.dT h1)
theorem dx_isi (ha : DX ka X a fa) (hm : X.mg "isinstance" = none) (hm2 : X.mg x = none) (ht : T ∈ tyNames := by decide) (hg : Gl X "isinstance" := by rfl) (hg2 : Gl X x := by rfl) (hv2 : bootBuiltins x = some (.type T) := by decide +kernel)
    (hn : x ≠ "__name__" := by decide) (hdb : (x == ("__debug__" : Str)) = false := by decide)
    (s1 : starEach [a, .Name x p2] X.env = (false, eval a X.env) :: starEach [.Name x p2] X.env := by rfl) (s2 : starEach [.Name x p2] X.env = (false, eval (.Name x p2) X.env) :: starEach [] X.env := by rfl)
    (hpl : (backTo pos (starEach [.Name x p2] X.env)).any (·.1) = false := by rfl) :
    DX .E X (.Call (.Name "isinstance" p) [a, .Name x p2] [] pos) (w1 (oIsi [T]) fa) := by
  refine (.of (pe_callB call_isi hg hm (by decide +kernel) (pa_cons ha.pe (pa_cons (pe_bltn (v := .ty T) hg2 hm2 hv2 rfl hn hdb) pa_nil s2) s1) (by decide) (by decide) s1 hpl) (fun ρ σ F H P Q rr hp q => ?_))
  refine ha.sem.toM ρ σ F H _ _ rr hp fun d F' H' v pp e z => ?_
  refine ⟨v, .ty T, .type (tyOf d), .type T, isTy T d, rfl, .ty T, tyX_of (F := F') (κ := kitOf X) (RpM.toRp e.sub z), kit_ty (kitB_ty d T ht), ?_⟩
  have p' : P (.bool (isTy T d)) := by
    have z : oIsi [T] d P := pp
    simpa [oIsi] using z
  exact q _ F' H' _ p' e (.bl _)
/-- isinstance(x, (T, U)) -/
theorem dx_isi2 {U : String} {y : Str} {p4 : Pos} {kk : Nat} (ha : DX ka X a fa) (hm : X.mg "isinstance" = none) (hm2 : X.mg x = none) (hm3 : X.mg y = none) (ht : T ∈ tyNames := by decide) (hu : U ∈ tyNames := by decide) (hg : Gl X "isinstance" := by rfl) (hg2 : Gl X x := by rfl) (hg3 : Gl X y := by rfl)
    (hv2 : bootBuiltins x = some (.type T) := by decide +kernel) (hv3 : bootBuiltins y = some (.type U) := by decide +kernel)
    (hn : x ≠ "__name__" := by decide) (hdb : (x == ("__debug__" : Str)) = false := by decide) (hn3 : y ≠ "__name__" := by decide) (hdb3 : (y == ("__debug__" : Str)) = false := by decide)
    (s1 : starEach [a, .Tuple [.Name x p2, .Name y p3] kk p4] X.env = (false, eval a X.env) :: starEach [.Tuple [.Name x p2, .Name y p3] kk p4] X.env := by rfl)
    (s2 : starEach [.Tuple [.Name x p2, .Name y p3] kk p4] X.env = (false, eval (.Tuple [.Name x p2, .Name y p3] kk p4) X.env) :: starEach [] X.env := by rfl)
    (s3 : starEach [.Name x p2, .Name y p3] X.env = (false, eval (.Name x p2) X.env) :: starEach [.Name y p3] X.env := by rfl)
    (s4 : starEach [.Name y p3] X.env = (false, eval (.Name y p3) X.env) :: starEach [] X.env := by rfl)
    (hpl : (backTo pos (starEach [.Tuple [.Name x p2, .Name y p3] kk p4] X.env)).any (·.1) = false := by rfl) :
    DX .E X (.Call (.Name "isinstance" p) [a, .Tuple [.Name x p2, .Name y p3] kk p4] [] pos) (w1 (oIsi [T, U]) fa) := by
  refine (.of (pe_callB call_isiT hg hm (by decide +kernel) (pa_cons ha.pe (pa_cons (pe_tup (pa_cons (pe_bltn (v := .ty T) hg2 hm2 hv2 rfl hn hdb) (pa_cons (pe_bltn (v := .ty U) hg3 hm3 hv3 rfl hn3 hdb3) pa_nil s4) s3)) pa_nil s2) s1) (by decide) (by decide) s1 hpl) (fun ρ σ F H P Q rr hp q => ?_))
  refine ha.sem.toM ρ σ F H _ _ rr hp fun d F' H' v pp e z => ?_
  refine ⟨by show 2 ≤ sizeLine; decide, fun tp htp => ?_⟩
  have s2 : Same H' (upd H' tp (.tup [.ty T, .ty U])) := fun b u z => by rw [upd_ne (ne_of_none z htp)]; exact z
  refine ⟨v, tp, [.ty T, .ty U], .type (tyOf d), [.type T, .type U], (isTy T d || isTy U d), rfl, upd_same, .cons (.ty T) (.cons (.ty U) .nil), tyX_of (F := F') (κ := kitOf X) (Rp.mono s2 (RpM.toRp e.sub z)), ?_, ?_⟩
  · refine kitAny_cons (kit_ty (kitB_ty d T ht)) (fun h => kitAny_cons (kit_ty (kitB_ty d U hu)) (fun h2 => ?_) fun h2 => ?_) fun h => ?_
    · rw [h, h2]; exact kitAny_nil
    · rw [h2, Bool.or_true]
    · rw [h, Bool.true_or]
  · have p' : P (.bool (isTy T d || isTy U d)) := by
      have z : oIsi [T, U] d P := pp
      simpa [oIsi] using z
    exact q _ F' _ _ p' ⟨e.ff, e.hh.trans s2, e.sub.trans s2, e.new⟩ (.bl _)
end
end DL

set_option maxRecDepth 100000
set_option maxHeartbeats 1000000
/-! DLg: calls of own defs, iterators, targets, comprehensions. -/
namespace DL
open PySem PySem.Spec PyProof.Rows L2
/-! ### a def's contract -/
def spW (κ : Kit) (k : Kd) (n : Nat) (W : WF) : Sp := fun vs H Q _ => vs.length = n ∧ ∃ (F : Hp) (ds : List PyData) (P : PyData → Prop), Same F H ∧ RpAll κ F vs ds ∧ W ds P ∧
  ∀ d F' H' v, P d → Ext F H F' H' → RK k κ H F' H' v d → Q v H'
/-- the module's def x does W: at a level -/
def Own (P : Program) (w : World) (K : PySem.W.Frag) (mg : Str → Option Value) (base : Heap) (x : Str) (k : Kd) (n j : Nat) (W : WF) : Prop :=
  ∃ (f : Addr) (fd : FuncData) (ps : List Str), FnOk P w K mg base CX0 j f fd ps (spW ⟨K, P, w⟩ k n W) ∧ mg x = some (.ref f) ∧ PySem.W.keepIn K (.ref f) = true ∧ Binds K fd ps []
section
variable {X : Cx} {κ : Kit} {k ka kb kc : Kd} {a b c e : Expr} {es : List Expr} {ta tb tc : TE} {fa fb fc : WE} {t : TA} {f : WA} {pos p p2 p3 : Pos} {x : Str}
theorem dx_call {n j : Nat} {W : WF} (G : Own X.prog X.w X.K X.mg X.base x k n j W) (hr : Room j X.A) (ha : DA n X (e :: es) f) (hg : Gl X x := by rfl) (hdb : (x == ("__debug__" : Str)) = false := by decide)
    (he : starEach (e :: es) X.env = (false, eval e X.env) :: starEach es X.env := by rfl) (hpl : (backTo pos (starEach es X.env)).any (·.1) = false := by rfl) :
    DX k X (.Call (.Name x p) (e :: es) [] pos) (wApp W f) := by
  obtain ⟨g, fd, ps, F, hm, hk, hb⟩ := G
  refine (.of (pe_call F hr hg hm hk hb .nil pass0 ha.pa hdb he hpl) (fun ρ σ F H P Q rr hp q => ?_))
  refine ha.sem ρ σ F H _ _ rr hp fun ds F1 H1 vs p1 l1 e1 z1 => ?_
  show spW (kitOf X) k n W (vs ++ []) H1 Q E0
  rw [List.append_nil]
  exact ⟨by rw [z1.length, l1], F1, ds, P, e1.sub, z1, p1, fun d F' H' v p e z => q d F' H' v p (e1.trans e) (z.start e1.hh)⟩
theorem dx_call0 {j : Nat} {W : WF} (G : Own X.prog X.w X.K X.mg X.base x k 0 j W) (hr : Room j X.A) (hg : Gl X x := by rfl) (hdb : (x == ("__debug__" : Str)) = false := by decide) :
    DX k X (.Call (.Name x p) [] [] pos) (wApp W aNil) := by
  obtain ⟨g, fd, ps, F, hm, hk, hb⟩ := G
  refine (.of (pe_call0 F hr hg hm hk hb .nil pass0 hdb) (fun ρ σ F H P Q rr hp q => ?_))
  exact ⟨rfl, F, [], P, rr.sub, .nil, hp, q⟩

/-! ### iterators -/
def WalkD (κ : Kit) (F : Hp) (J : It) (ds : List PyData) : Prop := ∀ F2 H2, Same F F2 → Same F2 H2 →
  (∀ i d, ds[i]? = some d → J.go i H2 ∧ ∀ x H', J.yld i H2 x H' → ∃ F', Ext F2 H2 F' H' ∧ Rp κ F' x d) ∧ J.stop ds.length H2
def SemI (κ : Kit) (t : TI) (f : WA) : Prop := ∀ (ρ : Rho) (σ : L2.St) (F H : Hp) (P : List PyData → Prop) (R : It → Hp → Prop), EnvR κ F H ρ σ → f ρ P →
  (∀ ds F' H' J, P ds → ds.length ≤ sizeLine → Ext F H F' H' → WalkD κ F' J ds → R J H') → t σ H R
def canI (κ : Kit) (f : WA) : TI := fun σ H R => ∃ (ρ : Rho) (F : Hp) (P : List PyData → Prop), EnvR κ F H ρ σ ∧ f ρ P ∧ ∀ ds F' H' J, P ds → ds.length ≤ sizeLine → Ext F H F' H' → WalkD κ F' J ds → R J H'
structure DI (X : Cx) (tg e : Expr) (f : WA) : Prop where
  pi : PI X tg e (canI (kitOf X) f)
theorem DI.of {tg e : Expr} {t : TI} {f : WA} (h : PI X tg e t) (s : SemI (kitOf X) t f) : DI X tg e f := ⟨⟨fun pins s0 σ H Q I ⟨ρ, F, P, r, p, q⟩ => h.run pins s0 σ H Q I (s ρ σ F H P Q r p q)⟩⟩
theorem DI.sem {tg e : Expr} {f : WA} (h : DI X tg e f) : SemI (kitOf X) (canI (kitOf X) f) f := fun ρ σ F H P Q r p q => ⟨ρ, F, P, r, p, q⟩
def iLT (K : PySem.W.Frag) (tl : TE) : TI := fun σ H R => tl σ H fun x H1 => ∃ a, x = .ref a ∧ ((∃ xs, SqL K H1 a xs ∧ R (Itl K a) H1) ∨ ∃ xs, SqT K H1 a xs ∧ R (Itt K a) H1)
theorem pi_lt {tg : Expr} {l : Expr} {tl : TE} (hl : PE X l tl) : PI X tg l (iLT X.K tl) := by
  refine ⟨fun pins s σ H R I h => ?_⟩
  refine thn (hl.run pins s σ H _ I h) fun v s1 ⟨x, H1, I1, r1, q1⟩ => ?_
  obtain ⟨a, e, q1⟩ := q1
  subst e
  cases r1
  rcases q1 with ⟨xs, hq, q⟩ | ⟨xs, hq, q⟩
  · obtain ⟨its, rv, p, hz⟩ := I1.list hq
    refine wpAny_pyIter_list p.isList ?_
    refine ⟨s1.heap.objs.size, [s1.heap.objs.size], _, _, H1, rfl, I1.kept (t' := s1.toks) fun b o e => Heap.get?_push_of_some _ e, turn_list a _, ⟨_, Heap.get?_push_size _ rfl, rfl, rfl⟩, fun b hb => ?_, q⟩
    have e : b = s1.heap.objs.size := by simpa using hb
    subst e
    exact I1.fpOk (Nat.le_refl _) (I1.hok.fresh (Nat.le_refl _))
  · obtain ⟨its, rv, p, hz⟩ := I1.tuple hq
    refine wpAny_pyIter_tuple (show s1.heap.IsTuple a its.toArray from p) ?_
    refine ⟨s1.heap.objs.size, [s1.heap.objs.size], _, _, H1, rfl, I1.kept (t' := s1.toks) fun b o e => Heap.get?_push_of_some _ e, turn_tuple a _, ⟨_, Heap.get?_push_size _ rfl, rfl, rfl⟩, fun b hb => ?_, q⟩
    have e : b = s1.heap.objs.size := by simpa using hb
    subst e
    exact I1.fpOk (Nat.le_refl _) (I1.hok.fresh (Nat.le_refl _))
theorem walk_l {F : Hp} {a : Addr} {xs : List V} {ds : List PyData} (h1 : SqL κ.K F a xs) (h2 : RpAll κ F xs ds) : WalkD κ F (Itl κ.K a) ds := fun F2 H2 s1 s2 => by
  have hq : SqL κ.K H2 a xs := (s1.trans s2).seq h1
  refine ⟨fun i d hd => ?_, xs, hq, by rw [h2.length]; exact Nat.le_refl _⟩
  obtain ⟨v, hv, r⟩ := h2.get hd
  refine ⟨⟨xs, v, hq, hv⟩, fun x H' y => ?_⟩
  obtain ⟨rfl, y⟩ := y
  have e := y xs hq
  rw [hv] at e
  cases e
  exact ⟨F2, .refl s2, r.mono s1⟩
theorem walk_t {F : Hp} {a : Addr} {xs : List V} {ds : List PyData} (h1 : SqT κ.K F a xs) (h2 : RpAll κ F xs ds) : WalkD κ F (Itt κ.K a) ds := fun F2 H2 s1 s2 => by
  have hq : SqT κ.K H2 a xs := sameT (s1.trans s2) h1
  refine ⟨fun i d hd => ?_, xs, hq, by rw [h2.length]; exact Nat.le_refl _⟩
  obtain ⟨v, hv, r⟩ := h2.get hd
  refine ⟨⟨xs, v, hq, hv⟩, fun x H' y => ?_⟩
  obtain ⟨rfl, y⟩ := y
  have e := y xs hq
  rw [hv] at e
  cases e
  exact ⟨F2, .refl s2, r.mono s1⟩
theorem di_seq {tg : Expr} (ha : DX ka X a fa) (hk : ka.safe = true := by rfl) : DI X tg a (iSeq fa) := by
  refine (.of (pi_lt ha.pe) (fun ρ σ F H P R rr hp q => ?_))
  refine (ha.sem.toE hk) ρ σ F H _ _ rr hp fun d F' H' v p e z => ?_
  cases d with
  | list ds =>
    cases z with
    | lst h1 h2 h3 => exact ⟨_, rfl, .inl ⟨_, e.sub.seq h1, q _ _ _ _ p (by rw [← h3.length]; exact h2) e (walk_l (κ := kitOf X) h1 h3)⟩⟩
  | tuple ds =>
    cases z with
    | tup h1 h2 h3 => exact ⟨_, rfl, .inr ⟨_, sameT e.sub h1, q _ _ _ _ p (by rw [← h3.length]; exact h2) e (walk_t (κ := kitOf X) h1 h3)⟩⟩
  | _ => exact p.elim
theorem walk_r {F : Hp} {lo hi : Int} : WalkD κ F (Itr lo (hi - lo).toNat) (rangeD lo hi) := fun F2 H2 s1 s2 => by
  unfold rangeD
  refine ⟨fun i d hd => ?_, ?_⟩
  · rw [List.getElem?_map] at hd
    cases q : (List.range (hi - lo).toNat)[i]? with
    | none => rw [q] at hd; cases hd
    | some j =>
      rw [q] at hd
      cases hd
      obtain ⟨h1, h2⟩ := List.getElem?_eq_some_iff.mp q
      rw [List.length_range] at h1
      rw [List.getElem_range] at h2
      subst h2
      refine ⟨h1, fun x H' y => ?_⟩
      obtain ⟨rfl, rfl⟩ := y
      exact ⟨F2, .refl s2, .int _⟩
  · show (hi - lo).toNat ≤ _
    rw [List.length_map, List.length_range]
    exact Nat.le_refl _
theorem di_range1 {tg : Expr} {pr : Pos} (ha : DX ka X a fa) (hm : X.mg "range" = none) (hg : Gl X "range" := by rfl) (hs : starEach [a] X.env = [(false, eval a X.env)] := by rfl) (hs2 : starEach [a] X.env = (false, eval a X.env) :: starEach [] X.env := by rfl) :
    DI X tg (.Call (.Name "range" pr) [a] [] pos) (iRange1 fa) := by
  refine (.of (pi_range1 hg hm (pa_cons ha.pe pa_nil hs2) hs) (fun ρ σ F H P R rr hp q => ?_))
  refine ha.sem.toM ρ σ F H _ _ rr hp fun d F' H' v p e z => ?_
  unfold iRange1 at hp
  cases d with
  | int j =>
    have ev := RpM.int z
    subst ev
    obtain ⟨⟨h1, h2⟩, p⟩ := p
    refine ⟨j, rfl, by omega, by omega, ?_⟩
    have w := walk_r (κ := kitOf X) (F := F') (lo := 0) (hi := j)
    rw [show (j - 0 : Int) = j by omega] at w
    exact q _ _ _ _ p (by unfold rangeD; rw [List.length_map, List.length_range, sizeLine_eq]; omega) e w
  | _ => exact p.elim
theorem di_range2 {tg : Expr} {pr : Pos} (ha : DX ka X a fa) (hb : DX kb X b fb) (hm : X.mg "range" = none) (hg : Gl X "range" := by rfl) (hs : starEach [a, b] X.env = [(false, eval a X.env), (false, eval b X.env)] := by rfl) (hs2 : starEach [b] X.env = [(false, eval b X.env)] := by rfl)
    (hs3 : starEach [a, b] X.env = (false, eval a X.env) :: starEach [b] X.env := by rfl) (hs4 : starEach [b] X.env = (false, eval b X.env) :: starEach [] X.env := by rfl) :
    DI X tg (.Call (.Name "range" pr) [a, b] [] pos) (iRange2 fa fb) := by
  refine (.of (pi_range2 hg hm (pa_cons ha.pe (pa_cons hb.pe pa_nil hs4) hs3) hs hs2) (fun ρ σ F H P R rr hp q => ?_))
  refine ha.sem.toM ρ σ F H _ _ rr hp fun d F1 H1 v p1 e1 z1 => ?_
  refine hb.sem.toM ρ σ F1 H1 _ _ (rr.ext e1) p1 fun d2 F2 H2 v2 p2 e2 z2 => ?_
  cases d with
  | int i =>
    cases d2 with
    | int j =>
      have ev := RpM.int z1
      subst ev
      have ev := RpM.int z2
      subst ev
      obtain ⟨⟨h1, h2, h3, h4, h5⟩, p⟩ := p2
      refine ⟨i, j, rfl, ⟨by omega, by omega, by omega, by omega⟩, ?_⟩
      exact q _ _ _ _ p (by unfold rangeD; rw [List.length_map, List.length_range, sizeLine_eq]; omega) (e1.trans e2) walk_r
    | _ => exact p2.elim
  | _ => cases d2 <;> exact p2.elim
theorem di_str {tg : Expr} (ha : DX ka X a fa) : DI X tg a (iStr fa) := by
  refine (.of (pi_str ha.pe) (fun ρ σ F H P R rr hp q => ?_))
  refine ha.sem.toM ρ σ F H _ _ rr hp fun d F' H' v p e z => ?_
  unfold iStr at hp
  cases d with
  | str y =>
    obtain ⟨ev, l1, o1⟩ := RpM.str z
    refine ⟨y, ev, ?_⟩
    refine q _ _ _ _ p (by rw [List.length_map]; exact l1) e fun F2 H2 s1 s2 => ⟨fun i d hd => ?_, ?_⟩
    · rw [List.getElem?_map] at hd
      cases qq : y.cps.toList[i]? with
      | none => rw [qq] at hd; cases hd
      | some c =>
        rw [qq] at hd
        cases hd
        have hi := (List.getElem?_eq_some_iff.mp qq).1
        refine ⟨by show i < y.cps.size; simpa using hi, fun x H' yy => ?_⟩
        obtain ⟨rfl, c', hc', rfl⟩ := yy
        have e2 : c' = c := by
          have z : y.cps.toList[i]? = some c' := by rw [Array.getElem?_toList]; exact hc'
          rw [qq] at z
          cases z
          rfl
        subst e2
        exact ⟨F2, .refl s2, .str _ (by show 1 ≤ sizeLine; decide) (strOk_one o1 (List.mem_of_getElem? qq))⟩
    · show y.cps.size ≤ _
      rw [List.length_map, Array.length_toList]
      exact Nat.le_refl _
  | _ => exact p.elim

/-! ### targets -/
/-- the slots at vs are stored, frozen; all else stays -/
def SemG (κ : Kit) (vs : List Nat) (g : TG) (f : WG) : Prop := ∀ (ρ : Rho) (σ : L2.St) (F H : Hp) (v : V) (d : PyData) (P : Rho → Prop) (Q : L2.St → Hp → Prop), EnvR κ F H ρ σ → Rp κ F v d → f d ρ P →
  (∀ ρ' σ', P ρ' → EnvR κ F H ρ' σ' → (∀ i : Nat, i ∉ vs → σ'[i]? = σ[i]?) → σ'.length = σ.length → (∀ (i : Nat) (e : PyData), ρ'[i]? = some (some (.own e)) → ρ[i]? = some (some (.own e)) ∧ σ'[i]? = σ[i]?) → Q σ' H) → g v σ H Q
def SemGs (κ : Kit) (vs : List Nat) (g : TGs) (f : WGs) : Prop := ∀ (ρ : Rho) (σ : L2.St) (F H : Hp) (v : List V) (d : List PyData) (P : Rho → Prop) (Q : L2.St → Hp → Prop), EnvR κ F H ρ σ → RpAll κ F v d → f d ρ P →
  (∀ ρ' σ', P ρ' → EnvR κ F H ρ' σ' → (∀ i : Nat, i ∉ vs → σ'[i]? = σ[i]?) → σ'.length = σ.length → (∀ (i : Nat) (e : PyData), ρ'[i]? = some (some (.own e)) → ρ[i]? = some (some (.own e)) ∧ σ'[i]? = σ[i]?) → Q σ' H) → g v σ H Q
def EndG (κ : Kit) (vs : List Nat) (F H : Hp) (ρ : Rho) (σ : L2.St) (P : Rho → Prop) (Q : L2.St → Hp → Prop) : Prop := ∀ ρ' σ', P ρ' → EnvR κ F H ρ' σ' → (∀ i : Nat, i ∉ vs → σ'[i]? = σ[i]?) → σ'.length = σ.length → (∀ (i : Nat) (e : PyData), ρ'[i]? = some (some (.own e)) → ρ[i]? = some (some (.own e)) ∧ σ'[i]? = σ[i]?) → Q σ' H
def canG (κ : Kit) (vs : List Nat) (f : WG) : TG := fun v σ H Q => ∃ (ρ : Rho) (F : Hp) (d : PyData) (P : Rho → Prop), EnvR κ F H ρ σ ∧ Rp κ F v d ∧ f d ρ P ∧ EndG κ vs F H ρ σ P Q
def canGs (κ : Kit) (vs : List Nat) (f : WGs) : TGs := fun v σ H Q => ∃ (ρ : Rho) (F : Hp) (d : List PyData) (P : Rho → Prop), EnvR κ F H ρ σ ∧ RpAll κ F v d ∧ f d ρ P ∧ EndG κ vs F H ρ σ P Q
structure DG (vs : List Nat) (X : Cx) (tg : Expr) (f : WG) : Prop where
  pg : PG X tg (canG (kitOf X) vs f)
structure DGs (vs : List Nat) (X : Cx) (tgs : List Expr) (f : WGs) : Prop where
  pg : PGs X tgs (canGs (kitOf X) vs f)
theorem DG.of {vs : List Nat} {tg : Expr} {g : TG} {f : WG} (h : PG X tg g) (s : SemG (kitOf X) vs g f) : DG vs X tg f := ⟨⟨fun pins s0 σ H v u Q I rv ⟨ρ, F, d, P, r, rd, p, q⟩ => h.run pins s0 σ H v u Q I rv (s ρ σ F H v d P Q r rd p q)⟩⟩
theorem DG.sem {vs : List Nat} {tg : Expr} {f : WG} (h : DG vs X tg f) : SemG (kitOf X) vs (canG (kitOf X) vs f) f := fun ρ σ F H v d P Q r rd p q => ⟨ρ, F, d, P, r, rd, p, q⟩
theorem DGs.of {vs : List Nat} {tg : List Expr} {g : TGs} {f : WGs} (h : PGs X tg g) (s : SemGs (kitOf X) vs g f) : DGs vs X tg f := ⟨⟨fun pins s0 σ H v u Q I rv ⟨ρ, F, d, P, r, rd, p, q⟩ => h.run pins s0 σ H v u Q I rv (s ρ σ F H v d P Q r rd p q)⟩⟩
theorem DGs.sem {vs : List Nat} {tg : List Expr} {f : WGs} (h : DGs vs X tg f) : SemGs (kitOf X) vs (canGs (kitOf X) vs f) f := fun ρ σ F H v d P Q r rd p q => ⟨ρ, F, d, P, r, rd, p, q⟩
theorem own_set {ρ : Rho} {σ : L2.St} {i : Nat} {v : V} {d : PyData} {j : Nat} {e : PyData} (hj : (ρ.set i (some (.dat d)))[j]? = some (some (.own e))) : ρ[j]? = some (some (.own e)) ∧ (σ.set i (some v))[j]? = σ[j]? := by
  by_cases h : i = j
  · subst h
    have hl : i < ρ.length := by
      have := (List.getElem?_eq_some_iff.mp hj).1
      rw [List.length_set] at this
      exact this
    rw [List.getElem?_set_self hl] at hj
    cases hj
  · rw [List.getElem?_set_ne h] at hj ⊢
    exact ⟨hj, rfl⟩
theorem dg_nm (i : Nat) {y : Str} {py : Pos} (hN : X.N.Nodup) (hi : X.N[i]? = some y := by rfl) (hx : Loc X.env.scope y := by first | exact Or.inl rfl | exact Or.inr rfl) (hf : X.fn y = true ∨ X.env.scope.names.lookup y = some .local := by first | exact .inl rfl | exact .inr rfl | assumption) : DG [i] X (.Name y py) (gNm i) := by
  refine (.of (pg_name hN hi hx hf) (fun ρ σ F H v d P Q rr hv hp q => ?_))
  refine q _ _ hp (rr.setDat hv) (fun j hj => ?_) (by rw [List.length_set]) fun j e hj => own_set hj
  have : i ≠ j := fun z => hj (by simp [z])
  rw [List.getElem?_set_ne this]
theorem dgs_nil : DGs [] X [] gNl := by
  refine (.of (pgs_nil) (fun ρ σ F H v d P Q rr hv hp q => ?_))
  cases hv with
  | nil => exact ⟨rfl, q ρ σ hp rr (fun _ _ => rfl) rfl fun _ _ h => ⟨h, rfl⟩⟩
  | cons _ _ => exact hp.elim
theorem dgs_cons {vs ws : List Nat} {fg : WG} {fgs : WGs} (h1 : DG vs X e fg) (h2 : DGs ws X es fgs)
    (hs : (assignEach (e :: es) X.env).map (·.2) = assign e X.env :: (assignEach es X.env).map (·.2) := by rfl) : DGs (vs ++ ws) X (e :: es) (gCn fg fgs) := by
  refine (.of (pgs_cons h1.pg h2.pg hs) (fun ρ σ F H v d P Q rr hv hp q => ?_))
  cases hv with
  | nil => exact hp.elim
  | cons hv hvs =>
    refine ⟨_, _, rfl, ?_⟩
    refine h1.sem ρ σ F H _ _ _ _ rr hv hp fun ρ1 σ1 p1 r1 a1 l1 o1 => ?_
    refine h2.sem ρ1 σ1 F H _ _ _ _ r1 hvs p1 fun ρ2 σ2 p2 r2 a2 l2 o2 => ?_
    refine q ρ2 σ2 p2 r2 (fun i hi => ?_) (l2.trans l1) fun i e he => ?_
    · rw [List.mem_append, not_or] at hi
      rw [a2 i hi.2, a1 i hi.1]
    · obtain ⟨z1, z2⟩ := o2 i e he
      obtain ⟨z3, z4⟩ := o1 i e z1
      exact ⟨z3, z2.trans z4⟩
theorem dg_tp {vs : List Nat} {n kk : Nat} {fg : WGs} (hc : X.calm = true) (h : DGs vs X es fg)
    (hn : (assignEach es X.env).length = n := by rfl) (hst : (assignEach es X.env).findIdx? (·.1) = none := by rfl) : DG vs X (.Tuple es kk pos) (gTp n fg) := by
  refine (.of (pg_tup hc h.pg hn hst) (fun ρ σ F H v d P Q rr hv hp q => ?_))
  cases d with
  | tuple ds =>
    cases hv with
    | tup h1 h2 h3 => exact ⟨_, _, rfl, sameT rr.sub h1, by rw [h3.length]; exact hp.1, h.sem ρ σ F H _ _ P Q rr h3 hp.2 q⟩
  | _ => exact hp.elim

/-! ### comprehensions -/
structure DTs (X : Cx) (ifs : List Expr) (f : WT) : Prop where
  pt : PTs X ifs (canT (kitOf X) f)
theorem DTs.of {ifs : List Expr} {t : TT} {f : WT} (h : PTs X ifs t) (s : SemT (kitOf X) t f) : DTs X ifs f := ⟨⟨fun pins s0 σ H Q I ⟨ρ, F, P, r, p, q⟩ => h.run pins s0 σ H Q I (s ρ σ F H P Q r p q)⟩⟩
theorem DTs.sem {ifs : List Expr} {f : WT} (h : DTs X ifs f) : SemT (kitOf X) (canT (kitOf X) f) f := can_semT
theorem dts_nil : DTs X [] tYes := (.of (pts_nil) (fun ρ σ F H P Q rr hp q => q true F H hp (.refl rr.sub)))
theorem dts_one {f : WT} (h : DT X c f) : DTs X [c] f := (.of (pts_one h.pt) (h.sem))
theorem wipe_get {σ : L2.St} : ∀ {vs : List Nat} {i : Nat}, i ∉ vs → (L2.wipe σ vs)[i]? = σ[i]?
  | [], _, _ => rfl
  | v :: vs, i, h => by
    rw [List.mem_cons, not_or] at h
    show ((L2.wipe σ vs).set v none)[i]? = _
    rw [List.getElem?_set_ne (fun z => h.1 z.symm), wipe_get h.2]
theorem wipe_in {σ : L2.St} : ∀ {vs : List Nat} {i : Nat}, i ∈ vs → i < σ.length → (L2.wipe σ vs)[i]? = some none
  | v :: vs, i, h, hl => by
    show ((L2.wipe σ vs).set v none)[i]? = _
    by_cases e : v = i
    · subst e
      rw [List.getElem?_set_self (by rw [wipe_length]; exact hl)]
    · rw [List.getElem?_set_ne e]
      exact wipe_in ((List.mem_cons.mp h).resolve_left fun z => e z.symm) hl
theorem wipe_same {σ τ : L2.St} {vs : List Nat} (hl : τ.length = σ.length) (h : ∀ i : Nat, i ∉ vs → τ[i]? = (L2.wipe σ vs)[i]?) : L2.wipe τ vs = L2.wipe σ vs := by
  refine List.ext_getElem? fun i => ?_
  by_cases hi : i ∈ vs
  · by_cases hlt : i < σ.length
    · rw [wipe_in hi hlt, wipe_in hi (by rw [hl]; exact hlt)]
    · rw [List.getElem?_eq_none (by rw [wipe_length]; omega), List.getElem?_eq_none (by rw [wipe_length]; omega)]
  · rw [wipe_get hi]
    exact h i hi
theorem Ext.noCell {F H F' H' : Hp} {a : Addr} {o : HO} (e : Ext F H F' H') (n : F a = none) (h : H a = some o) (ht : ∀ xs, o ≠ .tup xs) : F' a = none := by
  cases q : F' a with
  | none => rfl
  | some u =>
    have e1 := e.sub a u q
    rw [e.hh a o h] at e1
    cases e1
    rcases e.new a o q n with z | ⟨xs, z⟩
    · rw [h] at z; cases z
    · exact absurd z (ht xs)
theorem ext_app {F H Fi : Hp} {H' : Hp} {D : Addr} {acc : List V} {y : V} (e : Ext F H Fi H') (hD : H D = none) (fD : Fi D = none) : Ext F H Fi (upd H' D (.lst (acc ++ [y]))) := by
  refine ⟨e.ff, fun b u z => ?_, fun b u z => ?_, e.new⟩
  · rw [upd_ne (ne_of_none z hD)]; exact e.hh b u z
  · rw [upd_ne (ne_of_none z fD)]; exact e.sub b u z
theorem sem_comp {wi : TI} {fi : WA} {own : List Nat} {g : TG} {fg : WG} {tt : TT} {ft : WT} {te : TE} {fe : WE} (hi : SemI κ wi fi) (hg : SemG κ own g fg) (ht : SemT κ tt ft) (he : SemE κ ka te fe) (hk : ka.safe = true) :
    SemE κ .F (tLc wi g tt te own) (wComp fi own fg ft fe) := by
  intro ρ σ F H P Q rr hp q
  refine hi ρ σ F H _ _ rr hp fun ds F1 H1 J p1 lds e1 w1 => ?_
  intro D hD
  have d1 : F1 D = none := e1.sub.free hD
  have s0 : Same H1 (upd H1 D (.lst [])) := fun b u z => by rw [upd_ne (ne_of_none z hD)]; exact z
  refine ⟨fun i m H' => ∃ Fi acc dd, m = ds.length - i ∧ i ≤ ds.length ∧ Ext F1 H1 Fi H' ∧ Fi D = none ∧ H' D = some (.lst acc) ∧ acc.length ≤ i ∧ RpAll κ Fi acc dd ∧ compD fg ft fe (wipeD ρ own) (ds.drop i) fun ys => P (.list (dd ++ ys)), ⟨ds.length, F1, [], [], rfl, Nat.zero_le _, ⟨Same.refl _, s0, e1.sub.trans s0, fun a o h n => by rw [h] at n; cases n⟩, d1, upd_same, Nat.le_refl _, .nil, p1⟩, ?_⟩
  rintro i m H' ⟨Fi, acc, dd, rfl, hi, ei, fD, hD', hacc, racc, hc⟩
  obtain ⟨wgo, wstop⟩ := w1 Fi H' ei.ff ei.sub
  by_cases hlt : i < ds.length
  · have hd : ds[i]? = some ds[i] := List.getElem?_eq_getElem hlt
    obtain ⟨go, yl⟩ := wgo i _ hd
    rw [List.drop_eq_getElem_cons hlt] at hc
    refine .inr ⟨go, fun H'' => ∃ Fi acc dd, Ext F1 H1 Fi H'' ∧ Fi D = none ∧ H'' D = some (.lst acc) ∧ acc.length ≤ i + 1 ∧ RpAll κ Fi acc dd ∧ compD fg ft fe (wipeD ρ own) (ds.drop (i + 1)) fun ys => P (.list (dd ++ ys)), fun H'' ⟨Fi, acc, dd, a1, a2, a3, a4, a5, a6⟩ => ⟨ds.length - (i + 1), by omega, Fi, acc, dd, rfl, hlt, a1, a2, a3, a4, a5, a6⟩, fun x H2 hy => ?_⟩
    obtain ⟨F2, e2, r2⟩ := yl x H2 hy
    have nt : ∀ zs, HO.lst acc ≠ .tup zs := fun _ z => nomatch z
    have eF : Ext F1 H1 F2 H2 := ei.trans e2
    have hD2 : H2 D = some (.lst acc) := e2.hh _ _ hD'
    have fD2 : F2 D = none := e2.noCell fD hD' nt
    refine hg (wipeD ρ own) (L2.wipe σ own) F2 H2 x ds[i] _ _ ((rr.ext (e1.trans eF)).wipe own) r2 hc fun ρ' σ' p' r' a' l' o' => ⟨wipe_same (by rw [l', wipe_length]) a', ?_⟩
    refine ht ρ' σ' F2 H2 _ _ r' p' fun b F3 H3 p3 e3 => ?_
    have hD3 : H3 D = some (.lst acc) := e3.hh _ _ hD2
    have fD3 : F3 D = none := e3.noCell fD2 hD2 nt
    cases b with
    | false => exact iteF ⟨F3, acc, dd, eF.trans e3, fD3, hD3, by omega, racc.mono (e2.ff.trans e3.ff), p3⟩
    | true =>
      refine iteT ((he.toE hk) ρ' σ' F3 H3 _ _ (r'.ext e3) p3 fun y F4 H4 v p4 e4 z4 => ?_)
      have hD4 : H4 D = some (.lst acc) := e4.hh _ _ hD3
      have fD4 : F4 D = none := e4.noCell fD3 hD3 nt
      refine ⟨acc, hD4, by omega, F4, acc ++ [v], dd ++ [y], ext_app (eF.trans (e3.trans e4)) hD fD4, fD4, upd_same, by rw [List.length_append, List.length_singleton]; omega, (racc.mono (e2.ff.trans (e3.ff.trans e4.ff))).append (.cons z4 .nil), ?_⟩
      have ee : (fun ys => P (.list (dd ++ [y] ++ ys))) = (fun ys => P (.list (dd ++ (y :: ys)))) := funext fun ys => by
        rw [List.append_assoc]
        rfl
      rw [ee]
      exact p4
  · have e : i = ds.length := by omega
    subst e
    refine .inl ⟨wstop, ?_⟩
    rw [List.drop_length] at hc
    have hc' : P (.list (dd ++ [])) := hc
    rw [List.append_nil] at hc'
    have eE : Ext F H Fi H' := e1.trans ei
    exact q _ Fi H' (.ref D) hc' eE ⟨D, rfl, e1.hh.free hD, fD, .inl ⟨acc, dd, rfl, hD', Nat.le_trans hacc lds, racc⟩⟩
theorem dx_comp {elt tg iter : Expr} {ifs : List Expr} {scope : Scope} {own : List (Str × Nat)} {fi : WA} {fg : WG} {ft : WT} {fe : WE} (hc : X.calm = true) (hN : X.N.Nodup) (hi : DI X tg iter fi) (ok : blkC X.N X.env.scope scope own = true)
    (hg : ∀ (s : Shared) (H : Hp) (C : Addr) (cl : List (Str × Addr)) (fp : List Addr), DG (own.map (·.2)) (X.blk s H scope (compEnvC scope cl C X.env) fp) tg fg) (ht : ∀ (s : Shared) (H : Hp) (C : Addr) (cl : List (Str × Addr)) (fp : List Addr), DTs (X.blk s H scope (compEnvC scope cl C X.env) fp) ifs ft)
    (he : ∀ (s : Shared) (H : Hp) (C : Addr) (cl : List (Str × Addr)) (fp : List Addr), DX ka (X.blk s H scope (compEnvC scope cl C X.env) fp) elt fe) (hk : ka.safe = true := by rfl) (hs : ∀ x, foldedSetIterable iter X.env x = pure x := by intro _; rfl) :
    DX .F X (.ListComp elt [⟨tg, iter, ifs, 0⟩] scope pos) (wComp fi (own.map (·.2)) fg ft fe) :=
  (.of (pe_lc (te := canE (kitOf X) ka fe) (tt := canT (kitOf X) ft) (g := canG (kitOf X) (own.map (·.2)) fg) hc hN hi.pi (blkOk_by ok) (fun s H C cl fp => (hg s H C cl fp).pg) (fun s H C cl fp => (ht s H C cl fp).pt) (fun s H C cl fp => (he s H C cl fp).pe) hs) (sem_comp hi.sem (hg X.s_0 X.H_0 0 [] []).sem (ht X.s_0 X.H_0 0 [] []).sem (he X.s_0 X.H_0 0 [] []).sem hk))
end
end DL

set_option maxRecDepth 100000
set_option maxHeartbeats 1000000
/-! DLh: statements, loops, the contract of a def. -/
namespace DL
open PySem PySem.Spec PyProof.Rows L2
structure StR (κ : Kit) (Fi Hi : Hp) (ρ : Rho) (σ : L2.St) (F H : Hp) : Prop where
  env : EnvR κ F H ρ σ
  ext : Ext Fi Hi F H
  own : ∀ (i : Nat) (a : Addr) (d : PyData), ρ[i]? = some (some (.own d)) → σ[i]? = some (some (.ref a)) → Hi a = none
structure Link (κ : Kit) (kr : Kd) (Fi Hi : Hp) (D : DEnds) (Df : Ends) : Prop where
  nx : ∀ ρ σ F H, StR κ Fi Hi ρ σ F H → D.nx ρ → Df.nx σ H
  bk : ∀ ρ σ F H, StR κ Fi Hi ρ σ F H → D.bk ρ → Df.bk σ H
  ct : ∀ ρ σ F H, StR κ Fi Hi ρ σ F H → D.ct ρ → Df.ct σ H
  rt : ∀ d F H v, Ext Fi Hi F H → RK kr κ Hi F H v d → D.rt d → Df.rt v H
def SemS (κ : Kit) (kr : Kd) (ts : TS) (td : DTS) : Prop := ∀ (D : DEnds) (Df : Ends) (Fi Hi : Hp) (ρ : Rho) (σ : L2.St) (F H : Hp), StR κ Fi Hi ρ σ F H → td D ρ → Link κ kr Fi Hi D Df → ts Df σ H
def canS (κ : Kit) (kr : Kd) (td : DTS) : TS := fun Df σ H => ∃ (D : DEnds) (Fi Hi : Hp) (ρ : Rho) (F : Hp), StR κ Fi Hi ρ σ F H ∧ td D ρ ∧ Link κ kr Fi Hi D Df
structure DS (kr : Kd) (X : Cx) (st : Stmt) (td : DTS) : Prop where
  ps : PS X st (canS (kitOf X) kr td)
structure DSs (kr : Kd) (X : Cx) (st : List Stmt) (td : DTS) : Prop where
  ps : PSs X st (canS (kitOf X) kr td)
theorem DS.of {kr : Kd} {X : Cx} {st : Stmt} {ts : TS} {td : DTS} (h : PS X st ts) (s : SemS (kitOf X) kr ts td) : DS kr X st td := ⟨⟨fun pins s0 σ H Df I ⟨D, Fi, Hi, ρ, F, r, p, l⟩ => h.run pins s0 σ H Df I (s D Df Fi Hi ρ σ F H r p l)⟩⟩
theorem DS.sem {kr : Kd} {X : Cx} {st : Stmt} {td : DTS} (h : DS kr X st td) : SemS (kitOf X) kr (canS (kitOf X) kr td) td := fun D Df Fi Hi ρ σ F H r p l => ⟨D, Fi, Hi, ρ, F, r, p, l⟩
theorem DSs.of {kr : Kd} {X : Cx} {st : List Stmt} {ts : TS} {td : DTS} (h : PSs X st ts) (s : SemS (kitOf X) kr ts td) : DSs kr X st td := ⟨⟨fun pins s0 σ H Df I ⟨D, Fi, Hi, ρ, F, r, p, l⟩ => h.run pins s0 σ H Df I (s D Df Fi Hi ρ σ F H r p l)⟩⟩
theorem DSs.sem {kr : Kd} {X : Cx} {st : List Stmt} {td : DTS} (h : DSs kr X st td) : SemS (kitOf X) kr (canS (kitOf X) kr td) td := fun D Df Fi Hi ρ σ F H r p l => ⟨D, Fi, Hi, ρ, F, r, p, l⟩
section
variable {κ : Kit} {Fi Hi F H F' H' F1 H1 : Hp} {ρ ρ' : Rho} {σ σ' : L2.St} {i : Nat} {d : PyData} {v : V}
theorem StR.next (r : StR κ Fi Hi ρ σ F H) (e : Ext F H F' H') : StR κ Fi Hi ρ σ F' H' := ⟨r.env.ext e, r.ext.trans e, r.own⟩
theorem StR.setDat (r : StR κ Fi Hi ρ σ F H) (h : Rp κ F v d) : StR κ Fi Hi (ρ.set i (some (.dat d))) (σ.set i (some v)) F H := by
  refine ⟨r.env.setDat h, r.ext, fun j a e hj sj => ?_⟩
  obtain ⟨h1, h2⟩ := own_set (v := v) (σ := σ) hj
  exact r.own j a e h1 (by rw [← h2]; exact sj)
theorem StR.setOwn {a : Addr} (r : StR κ Fi Hi ρ σ F H) (hF : F a = none) (hH : Hi a = none) (hc : Cell κ F H a d) (ha : ∀ j e, ρ[j]? = some (some (.own e)) → σ[j]? = some (some (.ref a)) → j = i) : StR κ Fi Hi (ρ.set i (some (.own d))) (σ.set i (some (.ref a))) F H := by
  refine ⟨r.env.set ⟨a, rfl, hF, hc⟩ fun d' a' j e h1 h2 h3 h4 => ?_, r.ext, fun j b e hj sj => ?_⟩
  · cases h2
    exact ha j e h3 h4
  · by_cases hij : i = j
    · subst hij
      have hl : i < ρ.length := by
        have := (List.getElem?_eq_some_iff.mp hj).1
        rw [List.length_set] at this
        exact this
      rw [List.getElem?_set_self (by rw [← r.env.len]; exact hl)] at sj
      cases sj
      exact hH
    · rw [List.getElem?_set_ne hij] at hj sj
      exact r.own j b e hj sj
/-- a new object is stored -/
theorem StR.setNew (r : StR κ Fi Hi ρ σ F H) (e : Ext F H F' H') (z : RK .F κ H F' H' v d) : StR κ Fi Hi (ρ.set i (some (.own d))) (σ.set i (some v)) F' H' := by
  obtain ⟨p, rfl, n1, n2, hc⟩ := z
  refine (r.next e).setOwn n2 (r.ext.hh.free n1) hc fun j d' hj sj => ?_
  obtain ⟨a, h1, h2, h3⟩ := r.env.slot j _ hj
  rw [h1] at sj
  cases sj
  obtain ⟨o, ho, _⟩ := h3.there
  rw [n1] at ho
  cases ho
/-- an own cell is written -/
theorem StR.write {a : Addr} {e : PyData} {o' : HO} {d' : PyData} (r : StR κ Fi Hi ρ σ F H) (hj : ρ[i]? = some (some (.own e))) (sj : σ[i]? = some (some (.ref a))) (hc : Cell κ F (upd H a o') a d') : StR κ Fi Hi (ρ.set i (some (.own d'))) σ F (upd H a o') := by
  obtain ⟨a', h1, h2, h3⟩ := r.env.slot i _ hj
  rw [sj] at h1
  cases h1
  have hHi := r.own i a e hj sj
  have s1 : Same F (upd H a o') := fun b u z => by rw [upd_ne (ne_of_none z h2)]; exact r.env.sub b u z
  have other : ∀ {j : Nat} {b : Addr} {x : PyData}, ρ[j]? = some (some (.own x)) → σ[j]? = some (some (.ref b)) → i ≠ j → b ≠ a := fun {j b x} hj' sj' hij z => by
    subst z
    exact hij (r.env.apart i j b e x hj hj' sj sj')
  have hl : i < ρ.length := (List.getElem?_eq_some_iff.mp hj).1
  refine ⟨⟨s1, by rw [List.length_set]; exact r.env.len, fun j s hs => ?_, fun j k b x y hx hy sx sy => ?_⟩, ⟨r.ext.ff, fun b u z => ?_, s1, r.ext.new⟩, fun j b x hx sx => ?_⟩
  · by_cases hij : i = j
    · subst hij
      rw [List.getElem?_set_self hl] at hs
      cases hs
      exact ⟨a, sj, h2, hc⟩
    · rw [List.getElem?_set_ne hij] at hs
      have q := r.env.slot j s hs
      cases s with
      | dat x => exact q
      | own x =>
        obtain ⟨b, q1, q2, q3⟩ := q
        have nb : b ≠ a := other hs q1 hij
        refine ⟨b, q1, q2, ?_⟩
        rcases q3 with ⟨xs, ds, z1, z2, z3, z4⟩ | ⟨o, ks, xs, ds, z1, z2, z3, z4⟩
        · exact .inl ⟨xs, ds, z1, by rw [upd_ne nb]; exact z2, z3, z4⟩
        · exact .inr ⟨o, ks, xs, ds, z1, by rw [upd_ne nb]; exact z2, z3, z4⟩
  · have get : ∀ {j : Nat} {x : PyData}, (ρ.set i (some (Sl.own d')))[j]? = some (some (.own x)) → ∃ x', ρ[j]? = some (some (.own x')) := fun {j x} hx => by
      by_cases hij : i = j
      · subst hij; exact ⟨e, hj⟩
      · rw [List.getElem?_set_ne hij] at hx; exact ⟨x, hx⟩
    obtain ⟨x', hx'⟩ := get hx
    obtain ⟨y', hy'⟩ := get hy
    exact r.env.apart j k b x' y' hx' hy' sx sy
  · rw [upd_ne (ne_of_none z hHi)]; exact r.ext.hh b u z
  · by_cases hij : i = j
    · subst hij
      rw [sj] at sx
      cases sx
      exact hHi
    · rw [List.getElem?_set_ne hij] at hx
      exact r.own j b x hx sx
theorem StR.freeze (r : StR κ Fi Hi ρ σ F H) (i : Nat) : ∃ F', StR κ Fi Hi (frz ρ i) σ F' H ∧ Same F F' := by
  unfold frz
  split
  · rename_i d hj
    obtain ⟨a, h1, h2, h3⟩ := r.env.slot i _ hj
    obtain ⟨o, ho, hno⟩ := h3.there
    have s1 : Same F (upd F a o) := fun b u z => by rw [upd_ne (ne_of_none z h2)]; exact z
    have s2 : Same (upd F a o) H := fun b u z => by
      by_cases hb : b = a
      · subst hb; rw [upd_same] at z; cases z; exact ho
      · rw [upd_ne hb] at z; exact r.env.sub b u z
    have hl : i < ρ.length := (List.getElem?_eq_some_iff.mp hj).1
    have old : ∀ {j : Nat} {x : PyData}, (ρ.set i (some (Sl.dat d)))[j]? = some (some (.own x)) → i ≠ j ∧ ρ[j]? = some (some (.own x)) := fun {j x} hx => by
      by_cases hij : i = j
      · subst hij
        rw [List.getElem?_set_self hl] at hx
        cases hx
      · rw [List.getElem?_set_ne hij] at hx; exact ⟨hij, hx⟩
    refine ⟨upd F a o, ⟨⟨s2, by rw [List.length_set]; exact r.env.len, fun j s hs => ?_, fun j k b x y hx hy sx sy => r.env.apart j k b x y (old hx).2 (old hy).2 sx sy⟩, ⟨r.ext.ff.trans s1, r.ext.hh, s2, fun b u z n => ?_⟩, fun j b x hx sx => r.own j b x (old hx).2 sx⟩, s1⟩
    · by_cases hij : i = j
      · subst hij
        rw [List.getElem?_set_self hl] at hs
        cases hs
        refine ⟨.ref a, h1, ?_⟩
        have hc2 : Cell κ (upd F a o) (upd F a o) a d := by
          rcases h3 with ⟨xs, ds, g1, g2, g3, g4⟩ | ⟨u, ks, xs, ds, g1, g2, g3, g4⟩
          · rw [ho] at g2; cases g2
            exact .inl ⟨xs, ds, g1, upd_same, g3, g4.mono s1⟩
          · rw [ho] at g2; cases g2
            exact .inr ⟨_, ks, xs, ds, g1, upd_same, g3, g4.mono s1⟩
        exact hc2.toRp (Same.refl _)
      · rw [List.getElem?_set_ne hij] at hs
        have q := r.env.slot j s hs
        cases s with
        | dat x => obtain ⟨w, q1, q2⟩ := q; exact ⟨w, q1, q2.mono s1⟩
        | own x =>
          obtain ⟨b, q1, q2, q3⟩ := q
          have nb : b ≠ a := fun z => by
            subst z
            exact hij (r.env.apart i j b d x hj hs h1 q1)
          refine ⟨b, q1, by rw [upd_ne nb]; exact q2, ?_⟩
          rcases q3 with ⟨xs, ds, z1, z2, z3, z4⟩ | ⟨o', ks, xs, ds, z1, z2, z3, z4⟩
          · exact .inl ⟨xs, ds, z1, z2, z3, z4.mono s1⟩
          · exact .inr ⟨o', ks, xs, ds, z1, z2, z3, z4.mono s1⟩
    · by_cases hb : b = a
      · subst hb
        exact .inl (r.own i b d hj h1)
      · rw [upd_ne hb] at z
        exact r.ext.new b u z n
  · exact ⟨F, r, Same.refl _⟩
theorem Ext.rebase (a : Ext Fi Hi F1 H1) (b : Ext F1 Hi F H) : Ext Fi Hi F H := by
  refine ⟨a.ff.trans b.ff, b.hh, b.sub, fun c o e n => ?_⟩
  cases q : F1 c with
  | none => exact b.new c o e q
  | some o1 =>
    have e1 := b.ff c o1 q
    rw [e] at e1
    cases e1
    exact a.new c o q n
theorem Ext.base (a : Ext Fi Hi F H) : Ext F Hi F H := ⟨Same.refl _, a.hh, a.sub, fun c o e n => by rw [e] at n; cases n⟩
theorem StR.base (r : StR κ Fi Hi ρ σ F H) : StR κ F Hi ρ σ F H := ⟨r.env, r.ext.base, r.own⟩
theorem StR.rebase (a : Ext Fi Hi F1 H1) (r : StR κ F1 Hi ρ σ F H) : StR κ Fi Hi ρ σ F H := ⟨r.env, a.rebase r.ext, r.own⟩
theorem Link.base {kr : Kd} {D : DEnds} {Df : Ends} (a : Ext Fi Hi F1 H1) (l : Link κ kr Fi Hi D Df) : Link κ kr F1 Hi D Df :=
  ⟨fun ρ σ F H r => l.nx ρ σ F H (r.rebase a), fun ρ σ F H r => l.bk ρ σ F H (r.rebase a), fun ρ σ F H r => l.ct ρ σ F H (r.rebase a), fun d F H v e z => l.rt d F H v (a.rebase e) z⟩
theorem RK.low {k : Kd} (s : Same Hi H) (h : RK k κ H F' H' v d) : RK k κ Hi F' H' v d := h.start s
end
section
variable {X : Cx} {κ : Kit} {kr k ka kb kc : Kd} {a b c e : Expr} {es : List Expr} {fa fb fc : WE} {f : WA} {pos p p2 p3 : Pos} {st : Stmt} {rest : List Stmt} {td ud : DTS}
theorem ds_nil : DSs kr X [] dNext := (.of (pss_nil) (fun D Df Fi Hi ρ σ F H r h l => l.nx ρ σ F H r h))
theorem ds_cons (h1 : DS kr X st td) (h2 : DSs kr X rest ud) : DSs kr X (st :: rest) (dSeq td ud) :=
  (.of (pss_cons h1.ps h2.ps) (fun D Df Fi Hi ρ σ F H r h l => h1.sem { D with nx := ud D } _ Fi Hi ρ σ F H r h ⟨fun ρ' σ' F' H' r' h' => h2.sem D Df Fi Hi ρ' σ' F' H' r' h' l, l.bk, l.ct, l.rt⟩))
theorem ds_one (h1 : DS kr X st td) : DSs kr X [st] td := (.of (pss_one h1.ps) (h1.sem))
/-- an own slot is frozen ahead of a statement -/
theorem ds_frz (i : Nat) (h : DS kr X st td) : DS kr X st (dFrz i td) := (.of (h.ps) (fun D Df Fi Hi ρ σ F H r hd l => by
  obtain ⟨F', r', s⟩ := r.freeze i
  exact h.sem D Df Fi Hi _ σ F' H r' hd l))
theorem dss_frz (i : Nat) (h : DSs kr X rest td) : DSs kr X rest (dFrz i td) := (.of (h.ps) (fun D Df Fi Hi ρ σ F H r hd l => by
  obtain ⟨F', r', s⟩ := r.freeze i
  exact h.sem D Df Fi Hi _ σ F' H r' hd l))
theorem ds_pass : DS kr X (.Pass pos) dNext := (.of (ps_pass) (fun D Df Fi Hi ρ σ F H r h l => l.nx ρ σ F H r h))
theorem ds_break : DS kr X (.Break pos) dBreak := (.of (ps_break) (fun D Df Fi Hi ρ σ F H r h l => l.bk ρ σ F H r h))
theorem ds_continue : DS kr X (.Continue pos) dCont := (.of (ps_continue) (fun D Df Fi Hi ρ σ F H r h l => l.ct ρ σ F H r h))
theorem ds_ret (ha : DX ka X a fa) (hk : (ka = kr ∨ (kr = .E ∧ ka.safe = true)) := by first | exact Or.inl rfl | exact Or.inr ⟨rfl, rfl⟩) : DS kr X (.Return (some a) pos) (dRet fa) := by
  refine (.of (ps_ret ha.pe) (fun D Df Fi Hi ρ σ F H r h l => ?_))
  rcases hk with rfl | ⟨rfl, hk⟩
  · exact ha.sem ρ σ F H _ _ r.env h fun d F' H' v p e z => l.rt d F' H' v (r.ext.trans e) (z.start r.ext.hh) p
  · exact (ha.sem.toE hk) ρ σ F H _ _ r.env h fun d F' H' v p e z => l.rt d F' H' v (r.ext.trans e) (z.start r.ext.hh) p
/-- an own list is handed back -/
theorem ds_retOwn (i : Nat) {x : Str} {py : Pos} (hN : X.N[i]? = some x := by rfl) (hv : Vis X.env.scope x := by first | exact Or.inl rfl | exact Or.inr (Or.inl rfl) | exact Or.inr (Or.inr rfl)) (hd : (x == ("__debug__" : Str)) = false := by decide)
    (hcd : (x == ("__classdict__" : Str)) = false := by decide) : DS .F X (.Return (some (.Name x py)) pos) (dRet (wMut i)) := by
  refine (.of (ps_ret (pe_var hN hv hd hcd)) (fun D Df Fi Hi ρ σ F H r h l => ?_))
  unfold dRet wMut at h
  split at h
  · rename_i d e
    obtain ⟨a, h1, h2, h3⟩ := r.env.slot i _ e
    exact ⟨.ref a, h1, l.rt d F H (.ref a) r.ext ⟨a, rfl, r.own i a d e h1, h2, h3⟩ h⟩
  · exact h.elim
theorem ds_retN (hk : kr = .E := by rfl) : DS kr X (.Return none pos) dRetN := (.of (ps_retN) (fun D Df Fi Hi ρ σ F H r h l => by subst hk; exact l.rt .none F H .non r.ext .non h))
theorem ds_expr (ha : DX ka X a fa) (hs : swapsWith a none pos.line X.env = pure false := by rfl) : DS kr X (.Expr a pos) (dExpr fa) :=
  (.of (ps_expr ha.pe hs) (fun D Df Fi Hi ρ σ F H r h l => ha.sem.toM ρ σ F H _ _ r.env h fun d F' H' v p e z => l.nx ρ σ F' H' (r.next e) p))
theorem ds_if {cc : Expr} {sa sb : List Stmt} {ft : WT} (hc : DT X cc ft) (ha : DSs kr X sa td) (hb : DSs kr X sb ud) : DS kr X (.If cc sa sb pos) (dIf ft td ud) := by
  refine (.of (ps_if hc.pt ha.ps hb.ps) (fun D Df Fi Hi ρ σ F H r h l => ?_))
  refine hc.sem ρ σ F H _ _ r.env h fun c F' H' p e => ?_
  cases c with
  | true => exact iteT (ha.sem D Df Fi Hi ρ σ F' H' (r.next e) p l)
  | false => exact iteF (hb.sem D Df Fi Hi ρ σ F' H' (r.next e) p l)
theorem ds_set {i : Nat} {x : Str} {py : Pos} (hN : X.N.Nodup) (ha : DX ka X a fa) (hk : ka.safe = true := by rfl) (hi : X.N[i]? = some x := by rfl) (hx : Loc X.env.scope x := by first | exact Or.inl rfl | exact Or.inr rfl) (hs : swapsWith a (some (.Name x py)) pos.line X.env = pure false := by rfl) (hf : X.fn x = true ∨ X.env.scope.names.lookup x = some .local := by first | exact .inl rfl | exact .inr rfl | assumption) :
    DS kr X (.Assign [.Name x py] a pos) (dAsg i fa) :=
  (.of (ps_set hN hi hx ha.pe hs hf) (fun D Df Fi Hi ρ σ F H r h l => (ha.sem.toE hk) ρ σ F H _ _ r.env h fun d F' H' v p e z => l.nx _ _ F' H' ((r.next e).setDat z) p))
theorem ds_setM {i : Nat} {x : Str} {py : Pos} (hN : X.N.Nodup) (ha : DX .F X a fa) (hi : X.N[i]? = some x := by rfl) (hx : Loc X.env.scope x := by first | exact Or.inl rfl | exact Or.inr rfl) (hs : swapsWith a (some (.Name x py)) pos.line X.env = pure false := by rfl) (hf : X.fn x = true ∨ X.env.scope.names.lookup x = some .local := by first | exact .inl rfl | exact .inr rfl | assumption) :
    DS kr X (.Assign [.Name x py] a pos) (dAsgM i fa) :=
  (.of (ps_set hN hi hx ha.pe hs hf) (fun D Df Fi Hi ρ σ F H r h l => ha.sem ρ σ F H _ _ r.env h fun d F' H' v p e z => l.nx _ _ F' H' (r.setNew e z) p))
theorem ds_setG {vs : List Nat} {tg : Expr} {fg : WG} (ha : DX ka X a fa) (hg : DG vs X tg fg) (hk : ka.safe = true := by rfl) (hs : swapsWithSole [tg] a pos.line X.env = pure false := by rfl) (hw : swappedStores [tg] a X.env = pure none := by rfl)
    (h1 : (assignEach [tg] X.env).map (·.2) = [assign tg X.env] := by rfl) : DS kr X (.Assign [tg] a pos) (dAsgG fg fa) := by
  refine (.of (ps_asg ha.pe hg.pg hs hw h1) (fun D Df Fi Hi ρ σ F H r h l => ?_))
  refine (ha.sem.toE hk) ρ σ F H _ _ r.env h fun d F' H' v p e z => ?_
  refine hg.sem ρ σ F' H' v d _ _ (r.next e).env z p fun ρ' σ' p' r' _ _ o' => l.nx ρ' σ' F' H' ⟨r', r.ext.trans e, fun i a d hi si => ?_⟩ p'
  obtain ⟨q1, q2⟩ := o' i d hi
  exact r.own i a d q1 (by rw [← q2]; exact si)
theorem ds_setLc {i : Nat} {y : Str} {py spos : Pos} {elt tg iter : Expr} {ifs : List Expr} {scope : Scope} {own : List (Str × Nat)} {fi : WA} {fg : WG} {ft : WT} {fe : WE} (hc : X.calm = true) (hN : X.N.Nodup) (hi : DI X tg iter fi) (ok : blkC X.N X.env.scope scope own = true)
    (hg : ∀ (s : Shared) (H : Hp) (C : Addr) (cl : List (Str × Addr)) (fp : List Addr), DG (own.map (·.2)) (X.blk s H scope (compEnvC scope cl C X.env) fp) tg fg) (ht : ∀ (s : Shared) (H : Hp) (C : Addr) (cl : List (Str × Addr)) (fp : List Addr), DTs (X.blk s H scope (compEnvC scope cl C X.env) fp) ifs ft)
    (he : ∀ (s : Shared) (H : Hp) (C : Addr) (cl : List (Str × Addr)) (fp : List Addr), DX ka (X.blk s H scope (compEnvC scope cl C X.env) fp) elt fe) (hk : ka.safe = true := by rfl) (hy : X.N[i]? = some y := by rfl) (hyl : X.env.scope.names.lookup y = some .local := by rfl)
    (hsw : swapsWith (.ListComp elt [⟨tg, iter, ifs, 0⟩] scope pos) (some (.Name y py)) spos.line X.env = pure true := by exact sw_true rfl rfl rfl (by decide +kernel)) (hs : ∀ x, foldedSetIterable iter X.env x = pure x := by intro _; rfl) :
    DS kr X (.Assign [.Name y py] (.ListComp elt [⟨tg, iter, ifs, 0⟩] scope pos) spos) (dAsg i (wComp fi (own.map (·.2)) fg ft fe)) := by
  refine (.of (ps_setLc (te := canE (kitOf X) ka fe) (tt := canT (kitOf X) ft) (g := canG (kitOf X) (own.map (·.2)) fg) hc hN hy hyl hsw hi.pi (blkOk_by ok) (fun s H C cl fp => (hg s H C cl fp).pg) (fun s H C cl fp => (ht s H C cl fp).pt) (fun s H C cl fp => (he s H C cl fp).pe) hs) (fun D Df Fi Hi ρ σ F H r h l => ?_))
  have sm : SemE (kitOf X) .F _ _ := sem_comp hi.sem (hg X.s_0 X.H_0 0 [] []).sem (ht X.s_0 X.H_0 0 [] []).sem (he X.s_0 X.H_0 0 [] []).sem hk
  exact (sm.toE rfl) ρ σ F H _ _ r.env h fun d F' H' v p e z => l.nx _ _ F' H' ((r.next e).setDat z) p
theorem ds_setLcM {i : Nat} {y : Str} {py spos : Pos} {elt tg iter : Expr} {ifs : List Expr} {scope : Scope} {own : List (Str × Nat)} {fi : WA} {fg : WG} {ft : WT} {fe : WE} (hc : X.calm = true) (hN : X.N.Nodup) (hi : DI X tg iter fi) (ok : blkC X.N X.env.scope scope own = true)
    (hg : ∀ (s : Shared) (H : Hp) (C : Addr) (cl : List (Str × Addr)) (fp : List Addr), DG (own.map (·.2)) (X.blk s H scope (compEnvC scope cl C X.env) fp) tg fg) (ht : ∀ (s : Shared) (H : Hp) (C : Addr) (cl : List (Str × Addr)) (fp : List Addr), DTs (X.blk s H scope (compEnvC scope cl C X.env) fp) ifs ft)
    (he : ∀ (s : Shared) (H : Hp) (C : Addr) (cl : List (Str × Addr)) (fp : List Addr), DX ka (X.blk s H scope (compEnvC scope cl C X.env) fp) elt fe) (hk : ka.safe = true := by rfl) (hy : X.N[i]? = some y := by rfl) (hyl : X.env.scope.names.lookup y = some .local := by rfl)
    (hsw : swapsWith (.ListComp elt [⟨tg, iter, ifs, 0⟩] scope pos) (some (.Name y py)) spos.line X.env = pure true := by exact sw_true rfl rfl rfl (by decide +kernel)) (hs : ∀ x, foldedSetIterable iter X.env x = pure x := by intro _; rfl) :
    DS kr X (.Assign [.Name y py] (.ListComp elt [⟨tg, iter, ifs, 0⟩] scope pos) spos) (dAsgM i (wComp fi (own.map (·.2)) fg ft fe)) := by
  refine (.of (ps_setLc (te := canE (kitOf X) ka fe) (tt := canT (kitOf X) ft) (g := canG (kitOf X) (own.map (·.2)) fg) hc hN hy hyl hsw hi.pi (blkOk_by ok) (fun s H C cl fp => (hg s H C cl fp).pg) (fun s H C cl fp => (ht s H C cl fp).pt) (fun s H C cl fp => (he s H C cl fp).pe) hs) (fun D Df Fi Hi ρ σ F H r h l => ?_))
  have sm : SemE (kitOf X) .F _ _ := sem_comp hi.sem (hg X.s_0 X.H_0 0 [] []).sem (ht X.s_0 X.H_0 0 [] []).sem (he X.s_0 X.H_0 0 [] []).sem hk
  exact sm ρ σ F H _ _ r.env h fun d F' H' v p e z => l.nx _ _ F' H' (r.setNew e z) p
theorem ds_par {i j : Nat} {x y : Str} {px py pt : Pos} {kt k2 pt2} (hc : X.calm = true) (hN : X.N.Nodup) (ha : DA 2 X [a, b] f) (hi : X.N[i]? = some x := by rfl) (hj : X.N[j]? = some y := by rfl) (hij : i ≠ j := by decide)
    (hx : X.env.scope.names.lookup x = some .local := by rfl) (hy : X.env.scope.names.lookup y = some .local := by rfl)
    (hw : swappedStores [.Tuple [.Name x px, .Name y py] kt pt] (.Tuple [a, b] k2 pt2) X.env = pure (some [x, y]) := by rfl)
    (hs : swapsWithSole [.Tuple [.Name x px, .Name y py] kt pt] (.Tuple [a, b] k2 pt2) pos.line X.env = pure false := by rfl) :
    DS kr X (.Assign [.Tuple [.Name x px, .Name y py] kt pt] (.Tuple [a, b] k2 pt2) pos) (dPar i j f) := by
  refine (.of (ps_par hc hN hi hj hij hx hy ha.pa hw hs) (fun D Df Fi Hi ρ σ F H r h l => ?_))
  refine ha.sem ρ σ F H _ _ r.env h fun ds F' H' vs p n e z => ?_
  cases z with
  | cons z1 z =>
    cases z with
    | cons z2 z =>
      cases z with
      | nil => exact ⟨_, _, rfl, l.nx _ _ F' H' (((r.next e).setDat z1).setDat z2) p⟩
      | cons _ _ => cases n
    | nil => cases n
  | nil => cases n
/-! ### own lists changed -/
theorem own_list {F H : Hp} {a : Addr} {ds : List PyData} (h : Cell κ F H a (.list ds)) : ∃ xs, H a = some (.lst xs) ∧ xs.length ≤ sizeLine ∧ RpAll κ F xs ds := by
  rcases h with ⟨xs, ds, h1, h2, h3, h4⟩ | ⟨o, ks, xs, ds, h1, h2, h3, h4⟩
  · cases h1; exact ⟨xs, h2, h3, h4⟩
  · cases h1
theorem ds_append (i : Nat) {x : Str} {px ap : Pos} (ha : DX ka X a fa) (hk : ka.safe = true := by rfl) (hN : X.N[i]? = some x := by rfl) (hv : Vis X.env.scope x := by first | exact Or.inl rfl | exact Or.inr (Or.inl rfl) | exact Or.inr (Or.inr rfl)) (hd : (x == ("__debug__" : Str)) = false := by decide)
    (hcd : (x == ("__classdict__" : Str)) = false := by decide)
    (hbase : attributeBase (.Name x px) "append" X.env (eval (.Name x px) X.env) = eval (.Name x px) X.env := by rfl)
    (hfew : ((backTo p (starEach (a :: []) X.env)).all (fun x => !x.1) && (backToKw p (keywordEach [] X.env)).all (fun x => x.1.isSome)
      && decide ((a :: []).length + ([] : List Keyword).length + (if ([] : List Keyword).isEmpty then 0 else 1) < 30)) = true := by rfl)
    (hline : (ap.endLine == p.line) = true := by rfl) (hs : starEach (a :: []) X.env = (false, eval a X.env) :: starEach [] X.env := by rfl) (hplain : (backTo p (starEach [] X.env)).any (·.1) = false := by rfl)
    (hsw : swapsWith (.Call (.Attribute (.Name x px) "append" ap) [a] [] p) none pos.line X.env = pure false := by rfl) :
    DS kr X (.Expr (.Call (.Attribute (.Name x px) "append" ap) [a] [] p) pos) (dAppend i fa) := by
  refine (.of (ps_expr (pe_bm PySem.F.plainAttrs_list PySem.F.slot_list_append PySem.F.type_list_append mt_append (pe_var hN hv hd hcd) (pa_cons ha.pe pa_nil hs) hbase hfew hline hs hplain) hsw) (fun D Df Fi Hi ρ σ F H r h l => ?_))
  unfold dAppend at h
  split at h
  · rename_i ds e
    obtain ⟨q, h1, h2, h3⟩ := r.env.slot i _ e
    obtain ⟨xs, g1, g2, g3⟩ := own_list h3
    refine ⟨.ref q, h1, .inl ⟨rfl, xs, .inl (.inl g1)⟩, ?_⟩
    refine (ha.sem.toE hk) ρ σ F H _ _ r.env h fun d F' H' v p e' z => ?_
    have g1' : H' q = some (.lst xs) := e'.hh _ _ g1
    refine ⟨q, xs, v, rfl, rfl, g1', by rw [g3.length]; exact p.1, ?_⟩
    have r' := (r.next e').write (i := i) (o' := .lst (xs ++ [v])) (d' := .list (ds ++ [d])) e h1 (.inl ⟨xs ++ [v], ds ++ [d], rfl, upd_same, by rw [List.length_append, List.length_singleton, g3.length]; exact p.1, (g3.mono e'.ff).append (.cons z .nil)⟩)
    exact l.nx _ _ _ _ r' p.2
  · exact h.elim
theorem ds_pop (i : Nat) {x : Str} {px ap : Pos} (hN : X.N[i]? = some x := by rfl) (hv : Vis X.env.scope x := by first | exact Or.inl rfl | exact Or.inr (Or.inl rfl) | exact Or.inr (Or.inr rfl)) (hd : (x == ("__debug__" : Str)) = false := by decide)
    (hcd : (x == ("__classdict__" : Str)) = false := by decide)
    (hbase : attributeBase (.Name x px) "pop" X.env (eval (.Name x px) X.env) = eval (.Name x px) X.env := by rfl) (hline : (ap.endLine == p.line) = true := by rfl)
    (hsw : swapsWith (.Call (.Attribute (.Name x px) "pop" ap) [] [] p) none pos.line X.env = pure false := by rfl) :
    DS kr X (.Expr (.Call (.Attribute (.Name x px) "pop" ap) [] [] p) pos) (dPop i) := by
  refine (.of (ps_expr (pe_bm0 PySem.F.plainAttrs_list PySem.F.slot_list_pop PySem.F.type_list_pop mt_pop (pe_var hN hv hd hcd) hbase hline) hsw) (fun D Df Fi Hi ρ σ F H r h l => ?_))
  unfold dPop at h
  split at h
  · rename_i ds e
    obtain ⟨q, h1, h2, h3⟩ := r.env.slot i _ e
    obtain ⟨xs, g1, g2, g3⟩ := own_list h3
    have hne : xs ≠ [] := fun z => h.1 ((nil_of g3).mp z)
    have hl : xs.length - 1 < xs.length := by
      have := List.length_pos_iff.mpr hne
      omega
    refine ⟨.ref q, h1, .inl ⟨rfl, xs, .inl (.inl g1)⟩, q, xs, xs[xs.length - 1], rfl, rfl, g1, List.getElem?_eq_getElem hl, ?_⟩
    have r' := r.write (i := i) (o' := .lst xs.dropLast) (d' := .list ds.dropLast) e h1 (.inl ⟨xs.dropLast, ds.dropLast, rfl, upd_same, by rw [List.length_dropLast]; omega, g3.dropLast⟩)
    exact l.nx _ _ _ _ r' h.2
  · exact h.elim
theorem ds_setL (i : Nat) {x : Str} {px tp : Pos} (hk : DX kb X b fb) (ha : DX ka X a fa) (hka : ka.safe = true := by rfl) (hN : X.N[i]? = some x := by rfl) (hv : Vis X.env.scope x := by first | exact Or.inl rfl | exact Or.inr (Or.inl rfl) | exact Or.inr (Or.inr rfl)) (hd : (x == ("__debug__" : Str)) = false := by decide)
    (hcd : (x == ("__classdict__" : Str)) = false := by decide)
    (ha' : ∀ v, assign (.Subscript (.Name x px) b tp) X.env v = (do
      let ov ← holding [v] (eval (.Name x px) X.env)
      let iv ← holding [v, ov] (eval b X.env)
      standAt tp
      holding [v, ov, iv] (setItem ov iv v)
      release [v, ov, iv] []) := by intro _; rfl) (hs : swapsWithSole [.Subscript (.Name x px) b tp] a pos.line X.env = pure false := by rfl) (hw : swappedStores [.Subscript (.Name x px) b tp] a X.env = pure none := by rfl)
    (h1 : (assignEach [.Subscript (.Name x px) b tp] X.env).map (·.2) = [assign (.Subscript (.Name x px) b tp) X.env] := by rfl) :
    DS kr X (.Assign [.Subscript (.Name x px) b tp] a pos) (dSetL i fb fa) := by
  refine (.of (ps_asg ha.pe (pg_sub (pe_var hN hv hd hcd) hk.pe set_list ha') hs hw h1) (fun D Df Fi Hi ρ σ F H r h l => ?_))
  refine (ha.sem.toE hka) ρ σ F H _ _ r.env h fun d F1 H1 v p1 e1 z1 => ?_
  split at p1
  · rename_i ds e
    have r1 := r.next e1
    obtain ⟨q, g1, g2, g3⟩ := r1.env.slot i _ e
    refine ⟨.ref q, g1, ?_⟩
    refine hk.sem.toM ρ σ F1 H1 _ _ r1.env p1 fun d2 F2 H2 v2 p2 e2 z2 => ?_
    split at p2
    · rename_i j
      have ev := RpM.int z2
      subst ev
      obtain ⟨n, hn, p2⟩ := p2
      have r2 := r1.next e2
      obtain ⟨q', g4, g5, g6⟩ := r2.env.slot i _ e
      rw [g1] at g4
      cases g4
      obtain ⟨xs, g7, g8, g9⟩ := own_list g6
      refine ⟨q, xs, j, n, rfl, rfl, g7, by rw [g9.length]; exact hn, ?_⟩
      have r' := r2.write (i := i) (o' := .lst (xs.set n v)) (d' := .list (ds.set n d)) e g1 (.inl ⟨xs.set n v, ds.set n d, rfl, upd_same, by rw [List.length_set]; exact g8, RpAll.set (z1.mono e2.ff) n g9⟩)
      exact l.nx _ _ _ _ r' p2
    · exact p2.elim
  · exact p1.elim
/-- name op= e -/
theorem ds_aug (i : Nat) {x : Str} {px : Pos} {op : Operator} {r2 : R2} {g : W2} (hN : X.N.Nodup) (ho : OpR X (inplaceOp op) r2 ∧ Op2 (kitOf X) .E r2 g) (ha : DX ka X a fa) (hi : X.N[i]? = some x := by rfl) (hx : Loc X.env.scope x := by first | exact Or.inl rfl | exact Or.inr rfl) (hf : X.fn x = true ∨ X.env.scope.names.lookup x = some .local := by first | exact .inl rfl | exact .inr rfl | assumption) :
    DS kr X (.AugAssign (.Name x px) op a pos) (dAug i g fa) := by
  refine (.of (ps_aug hN hi hx ha.pe (fun pins s σ H x y v u Q I rx ry h => ho.1 pins s σ H x y v u Q I rx ry h) hf) (fun D Df Fi Hi ρ σ F H r h l => ?_))
  unfold dAug at h
  split at h
  · rename_i d e
    obtain ⟨v, h1, h2⟩ := r.env.slot i _ e
    refine ⟨v, h1, ?_⟩
    refine ha.sem.toM ρ σ F H _ _ r.env h fun d2 F' H' v2 p e' z => ?_
    exact ho.2 v v2 d d2 F' H' _ _ e'.sub (.inl (h2.mono e'.ff)) z p fun d3 F2 H2 v3 p3 e3 z3 => l.nx _ _ F2 H2 (((r.next e').next e3).setDat z3) p3
  · exact h.elim
theorem x_iadd : OpR X (inplaceOp .Add) (rI0 fun i j => .int (i + j)) ∧ Op2 (kitOf X) .E (rI0 fun i j => .int (i + j)) oIadd :=
  ⟨iop_add, ints2 (G := fun i j => .int (i + j)) (fun _ _ _ => .int _) fun x y P p => by
    unfold oIadd at p
    split at p
    · exact ⟨_, _, rfl, rfl, p⟩
    · exact p.elim⟩

/-! ### loops -/
theorem ds_for {tg iter : Expr} {body : List Stmt} {vs : List Nat} {fi : WA} {fg : WG} (hc : X.calm = true) (hi : DI X tg iter fi) (hg : DG vs X tg fg) (hb : DSs kr X body td) (hp : PassesOwn (model X.prog X.w) X.A X.env X.xe := by exact PassesOwn.never)
    (hs : ∀ x, foldedSetIterable iter X.env x = pure x := by intro _; rfl) : DS kr X (.For tg iter body [] pos) (dFor fi fg td) := by
  refine (.of (ps_for hp hc hi.pi hg.pg hb.ps hs) (fun D Df Fi Hi ρ σ F H r h l => ?_))
  refine hi.sem ρ σ F H _ _ r.env h fun ds F1 H1 J p1 lds e1 w1 => ?_
  have r1 := r.next e1
  refine ⟨fun i m σ' H' => ∃ ρ' F', m = ds.length - i ∧ i ≤ ds.length ∧ StR (kitOf X) F1 Hi ρ' σ' F' H' ∧ forD fg td D (ds.drop i) ρ', ⟨ds.length, ρ, F1, rfl, Nat.zero_le _, r1.base, p1⟩, ?_⟩
  rintro i m σ' H' ⟨ρ', F', rfl, hi', r', h'⟩
  obtain ⟨wgo, wstop⟩ := w1 F' H' r'.ext.ff r'.env.sub
  by_cases hlt : i < ds.length
  · have hd : ds[i]? = some ds[i] := List.getElem?_eq_getElem hlt
    obtain ⟨go, yl⟩ := wgo i _ hd
    rw [List.drop_eq_getElem_cons hlt] at h'
    refine .inr ⟨go, fun σ'' H'' => ∃ ρ'' F'', StR (kitOf X) F1 Hi ρ'' σ'' F'' H'' ∧ forD fg td D (ds.drop (i + 1)) ρ'', fun σ'' H'' ⟨ρ'', F'', a1, a2⟩ => ⟨ds.length - (i + 1), by omega, ρ'', F'', rfl, hlt, a1, a2⟩, fun x H2 hy => ?_⟩
    obtain ⟨F2, e2, r2⟩ := yl x H2 hy
    have q := r'.next e2
    refine hg.sem ρ' σ' F2 H2 x ds[i] _ _ q.env r2 h' fun ρ3 σ3 p3 r3 _ _ o3 => ?_
    have q3 : StR (kitOf X) F1 Hi ρ3 σ3 F2 H2 := ⟨r3, q.ext, fun i a d hi si => by
      obtain ⟨z1, z2⟩ := o3 i d hi
      exact q.own i a d z1 (by rw [← z2]; exact si)⟩
    exact hb.sem _ _ F1 Hi ρ3 σ3 F2 H2 q3 p3 ⟨fun ρ4 σ4 F4 H4 r4 h4 => ⟨ρ4, F4, r4, h4⟩, fun ρ4 σ4 F4 H4 r4 h4 => l.nx ρ4 σ4 F4 H4 (r4.rebase r1.ext) h4, fun ρ4 σ4 F4 H4 r4 h4 => ⟨ρ4, F4, r4, h4⟩, (l.base r1.ext).rt⟩
  · have e : i = ds.length := by omega
    subst e
    rw [List.drop_length] at h'
    exact .inl ⟨wstop, l.nx ρ' σ' F' H' (r'.rebase r1.ext) h'⟩
theorem ds_while {cc : Expr} {body : List Stmt} {ft : WT} (hc : DT X cc ft) (hb : DSs kr X body td) (hp : PassesOwn (model X.prog X.w) X.A X.env X.xe := by exact PassesOwn.never) : DS kr X (.While cc body [] pos) (dWhile ft td) := by
  refine (.of (ps_while hp hc.pt hb.ps) (fun D Df Fi Hi ρ σ F H r h l => ?_))
  obtain ⟨n0, h⟩ := h
  refine ⟨fun m σ' H' => ∃ ρ' F', StR (kitOf X) Fi Hi ρ' σ' F' H' ∧ whileD ft td D m ρ', ⟨n0, ρ, F, r, h⟩, ?_⟩
  rintro m σ' H' ⟨ρ', F', r', h'⟩
  cases m with
  | zero => exact h'.elim
  | succ m =>
    refine hc.sem ρ' σ' F' H' _ _ r'.env h' fun c F2 H2 p e => ?_
    have r2 := r'.next e
    cases c with
    | true =>
      refine iteT ⟨fun σ'' H'' => ∃ ρ'' F'', StR (kitOf X) Fi Hi ρ'' σ'' F'' H'' ∧ whileD ft td D m ρ'', fun σ'' H'' ⟨ρ'', F'', a1, a2⟩ => ⟨m, Nat.lt_succ_self m, ρ'', F'', a1, a2⟩, ?_⟩
      exact hb.sem _ _ Fi Hi ρ' σ' F2 H2 r2 p ⟨fun ρ4 σ4 F4 H4 r4 h4 => ⟨ρ4, F4, r4, h4⟩, fun ρ4 σ4 F4 H4 r4 h4 => l.nx ρ4 σ4 F4 H4 r4 h4, fun ρ4 σ4 F4 H4 r4 h4 => ⟨ρ4, F4, r4, h4⟩, l.rt⟩
    | false => exact iteF (l.nx ρ' σ' F2 H2 r2 p)

/-! ### a def -/
theorem start_env {κ : Kit} {F H : Hp} {N : List Str} {vs : List V} {ds : List PyData} (s : Same F H) (h : RpAll κ F vs ds) : EnvR κ F H (startD N.length ds) (L2.start N vs) := by
  unfold startD L2.start
  rw [← h.length]
  have hl := h.length
  have noOwn : ∀ (i : Nat) (e : PyData), (ds.map (fun d => some (Sl.dat d)) ++ List.replicate (N.length - vs.length) none)[i]? ≠ some (some (.own e)) := fun i e z => by
    by_cases hi : i < ds.length
    · rw [List.getElem?_append_left (by simpa using hi), List.getElem?_map] at z
      cases q : ds[i]? with
      | none => rw [q] at z; cases z
      | some d => rw [q] at z; cases z
    · rw [List.getElem?_append_right (by simpa using hi), List.getElem?_replicate] at z
      split at z <;> cases z
  refine ⟨s, by simp [hl], fun i sl e => ?_, fun i j a d e h1 => absurd h1 (noOwn i d)⟩
  by_cases hi : i < ds.length
  · rw [List.getElem?_append_left (by simpa using hi), List.getElem?_map] at e
    cases q : ds[i]? with
    | none => rw [q] at e; cases e
    | some d =>
      rw [q] at e
      cases e
      obtain ⟨v, hv, r⟩ := h.get q
      refine ⟨v, ?_, r⟩
      rw [List.getElem?_append_left (by simpa [hl] using hi), List.getElem?_map, hv]
      rfl
  · rw [List.getElem?_append_right (by simpa using hi), List.getElem?_replicate] at e
    split at e <;> cases e
end
section
variable {P : Program} {w : World} {K : PySem.W.Frag} {mg : Str → Option Value} {base : Heap}
theorem start_st {κ : Kit} {F H : Hp} {N : List Str} {vs : List V} {ds : List PyData} (s : Same F H) (h : RpAll κ F vs ds) : StR κ F H (startD N.length ds) (L2.start N vs) F H := by
  refine ⟨start_env s h, .refl s, fun i a d hi _ => absurd hi ?_⟩
  intro z
  unfold startD at z
  by_cases hi : i < ds.length
  · rw [List.getElem?_append_left (by simpa using hi), List.getElem?_map] at z
    cases q : ds[i]? with
    | none => rw [q] at z; cases z
    | some d => rw [q] at z; cases z
  · rw [List.getElem?_append_right (by simpa using hi), List.getElem?_replicate] at z
    split at z <;> cases z
/-- THE RULE: a def keeps what its body does over plain data -/
theorem fn_ofD {x qual : Str} {st : Stmt} {f : Addr} {fd : FuncData} {N ps : List Str} {j : Nat} {td : DTS} (F : Fun K x qual st f fd) (S : FnScope N ps (defScope st))
    (der : ∀ (cdv : Value) (A : Around) (outer : List Env) (s : Shared) (H : Hp) (E : XK), Room j (A.deeper (envOfC qual (defScope st) s.heap.objs.size f cdv)) →
      DSs .E (cxOf CX0 P w K mg base N qual (defScope st) f cdv A outer s H E).nox (defBody st) td) :
    FnOk P w K mg base CX0 (j + 1) f fd ps (spW ⟨K, P, w⟩ .E ps.length (wDef ps.length N.length td)) := by
  refine F.ok S (fun vs H Q E h => h.1) (fun cdv A outer s H vs Q E hr h => ?_)
  have h1 := der cdv A outer s H E hr
  refine ⟨_, h1.ps, ?_⟩
  obtain ⟨hl, F0, ds, P', sub, rp, ⟨_, hd⟩, q⟩ := h
  exact h1.sem _ _ F0 H _ _ F0 H (start_st sub rp) hd ⟨fun ρ σ F' H' r p => q .none F' H' .non p r.ext .non, fun _ _ _ _ _ z => z.elim, fun _ _ _ _ _ z => z.elim, fun d F' H' v e z p => q d F' H' v p e z⟩
theorem own_of {x qual : Str} {st : Stmt} {f : Addr} {fd : FuncData} {N ps : List Str} {j : Nat} {td : DTS} (F : Fun K x qual st f fd) (S : FnScope N ps (defScope st)) (hm : mg x = some (.ref f)) (hb : Binds K fd ps [])
    (der : ∀ (cdv : Value) (A : Around) (outer : List Env) (s : Shared) (H : Hp) (E : XK), Room j (A.deeper (envOfC qual (defScope st) s.heap.objs.size f cdv)) →
      DSs .E (cxOf CX0 P w K mg base N qual (defScope st) f cdv A outer s H E).nox (defBody st) td) :
    Own P w K mg base x .E ps.length (j + 1) (wDef ps.length N.length td) := ⟨f, fd, ps, fn_ofD F S der, hm, F.kp, hb⟩
/-- .. that hands back a new object -/
theorem own_ofF {x qual : Str} {st : Stmt} {f : Addr} {fd : FuncData} {N ps : List Str} {j : Nat} {td : DTS} (F : Fun K x qual st f fd) (S : FnScope N ps (defScope st)) (hm : mg x = some (.ref f)) (hb : Binds K fd ps [])
    (der : ∀ (cdv : Value) (A : Around) (outer : List Env) (s : Shared) (H : Hp) (E : XK), Room j (A.deeper (envOfC qual (defScope st) s.heap.objs.size f cdv)) →
      DSs .F (cxOf CX0 P w K mg base N qual (defScope st) f cdv A outer s H E).nox (defBody st) td) :
    Own P w K mg base x .F ps.length (j + 1) (wDefF ps.length N.length td) := by
  refine ⟨f, fd, ps, ?_, hm, F.kp, hb⟩
  refine F.ok S (fun vs H Q E h => h.1) (fun cdv A outer s H vs Q E hr h => ?_)
  have h1 := der cdv A outer s H E hr
  refine ⟨_, h1.ps, ?_⟩
  obtain ⟨hl, F0, ds, P', sub, rp, ⟨_, hd⟩, q⟩ := h
  exact h1.sem _ _ F0 H _ _ F0 H (start_st sub rp) hd ⟨fun ρ σ F' H' r p => p.elim, fun _ _ _ _ _ z => z.elim, fun _ _ _ _ _ z => z.elim, fun d F' H' v e z p => q d F' H' v p e z⟩
/-- a constant of the module -/
def GC (κ : Kit) (mg : Str → Option Value) (x : Str) (d : PyData) : Prop := ∃ v u, mg x = some u ∧ RelV v u ∧ ∀ F, Rp κ F v d
def tCon (κ : Kit) (d : PyData) : TE := fun _ H Q => ∀ v, (∀ F, Rp κ F v d) → Q v H
theorem dx_con {X : Cx} {x : Str} {d : PyData} {pos : Pos} (h : GC (kitOf X) X.mg x d) (hg : Gl X x := by rfl) (hd : (x == ("__debug__" : Str)) = false := by decide) : DX .E X (.Name x pos) (wC d) := by
  obtain ⟨v, u, hm, r, hv⟩ := h
  exact .of (t := tCon (kitOf X) d) ⟨fun _ _ _ H _ I h => ld_glob I hg hm ⟨v, H, I, r, h v hv⟩ hd⟩ fun ρ σ F H P Q rr hp q v hv => q d F H v hp (.refl rr.sub) (hv F)
theorem gc_int {κ : Kit} {mg : Str → Option Value} {x : Str} {i : Int} {t : Tok} (h : mg x = some (.int i t)) : GC κ mg x (.int i) := ⟨.int i, _, h, ⟨t, rfl⟩, fun _ => .int i⟩
theorem gc_str {κ : Kit} {mg : Str → Option Value} {x s : Str} {t : Tok} (h : mg x = some (.str s t)) (h1 : s.length ≤ sizeLine := by first | decide | decide +kernel) (h2 : PyData.strOk s = true := by first | rfl | decide +kernel) : GC κ mg x (.str s) := ⟨.str s, _, h, ⟨t, rfl⟩, fun _ => .str s h1 h2⟩
theorem hu65 {A : Around} {k : Nat} (hr : Room k A) : A.units + 65 < cLine := by have := hr.un; omega
/-- the script -/
theorem rp_ints {κ : Kit} {H : Hp} : ∀ ns : List Int, RpAll κ H (ns.map V.int) (ns.map PyData.int)
  | [] => .nil
  | n :: ns => .cons (.int n) (rp_ints ns)
def spLaw (K : PySem.W.Frag) : Sp := fun vs H Q _ => ∃ (a : Addr) (ns : List Int), vs = [.ref a] ∧ SqL K H a (ns.map V.int) ∧ ns.length ≤ 63 ∧ ∀ H', Q (.bl true) H'
theorem law_fn {f : Addr} {fd : FuncData} {ps : List Str} {j : Nat} {W : WF} (F : FnOk P w K mg base CX0 j f fd ps (spW ⟨K, P, w⟩ .E 1 W)) (h : ∀ ns : List Int, ns.length ≤ 63 → W [.list (ns.map PyData.int)] (fun d => d = .bool true)) :
    FnOk P w K mg base CX0 j f fd ps (spLaw K) := by
  refine F.imp fun vs H Q E ⟨a, ns, e, hs, hl, q⟩ => ?_
  subst e
  refine ⟨rfl, H, _, _, Same.refl H, .cons (.lst hs (by rw [List.length_map, sizeLine_eq]; omega) (rp_ints ns)) .nil, h ns hl, fun d F' H' v p e z => ?_⟩
  subst p
  have z' : Rp ⟨K, P, w⟩ F' v (.bool true) := z
  cases z'
  exact q H'
end
end DL

set_option maxRecDepth 100000
set_option maxHeartbeats 1000000
/-! DLi: texts joined and split. -/
namespace DL
open PySem PySem.Spec PyProof.Rows L2
section
variable {X : Cx} {κ : Kit} {k ka kb : Kd} {a b : Expr} {ta tb : TE} {fa fb : WE} {pos apos : Pos}
theorem strs_rp {F : Hp} : ∀ {ds : List PyData} {xs : List V} {ys : List Str}, RpAll κ F xs ds → strsOf ds = some ys → xs = ys.map V.str ∧ ∀ y ∈ ys, PyData.strOk y = true
  | [], _, ys, .nil, e => by cases e; exact ⟨rfl, fun _ h => nomatch h⟩
  | d :: ds, _, ys, .cons h t, e => by
    cases h with
    | str x h1 h2 =>
      rw [strsOf] at e
      cases q : strsOf ds with
      | none => rw [q] at e; cases e
      | some zs =>
        rw [q] at e
        cases e
        obtain ⟨z1, z2⟩ := strs_rp t q
        refine ⟨by rw [List.map_cons, z1], fun y hy => ?_⟩
        rcases List.mem_cons.mp hy with rfl | hy
        · exact h2
        · exact z2 y hy
    | _ => simp [strsOf] at e
theorem join_len (s : Str) : ∀ ys : List Str, (Str.join s ys).length ≤ (ys.map (·.length)).sum + ys.length * s.length
  | [] => Nat.zero_le _
  | [x] => by
    show x.length ≤ _
    simp
  | x :: y :: r => by
    have ih := join_len s (y :: r)
    show (x ++ s ++ Str.join s (y :: r)).length ≤ _
    rw [Str.length_append, Str.length_append, List.map_cons, List.sum_cons, List.length_cons, Nat.succ_mul]
    omega
theorem join_ok {s : Str} (hs : PyData.strOk s = true) : ∀ {ys : List Str}, (∀ y ∈ ys, PyData.strOk y = true) → PyData.strOk (Str.join s ys) = true
  | [], _ => (by simp [PyData.strOk, Str.join, Str.empty])
  | [x], h => h x (by simp)
  | x :: y :: r, h => strOk_append (strOk_append (h x (by simp)) hs) (join_ok hs fun z hz => h z (List.mem_cons_of_mem _ hz))
theorem sem_ms {k : Kd} {r : V → List V → Hp → VK → Prop} {g : Str → W1} (h : ∀ (x : Str) (y : V) (dy : PyData) (F H : Hp) (P : PyData → Prop) (Q : VK), Same F H → x.length ≤ sizeLine → PyData.strOk x = true → RpM κ F H y dy → g x dy P →
    (∀ d F' H' v, P d → Ext F H F' H' → RK k κ H F' H' v d → Q v H') → r (.str x) [y] H Q) (ha : SemE κ ka ta fa) (hb : SemE κ kb tb fb) : SemE κ k (tM1 r ta tb) (wMs g fa fb) := by
  intro ρ σ F H P Q rr hp q
  refine ha.toM ρ σ F H _ _ rr hp fun d1 F1 H1 v1 p1 e1 r1 => ?_
  split at p1
  · rename_i s
    obtain ⟨e, h1, h2⟩ := RpM.str r1
    subst e
    refine ⟨⟨s, rfl⟩, ?_⟩
    refine hb.toM ρ σ F1 H1 _ _ (rr.ext e1) p1 fun d2 F2 H2 v2 p2 e2 r2 => ?_
    exact h s v2 d2 F2 H2 P Q e2.sub h1 h2 r2 p2 fun d F' H' v p e z => q d F' H' v p ((e1.trans e2).trans e) (z.start ((e1.trans e2).hh))
  · exact p1.elim
theorem dx_join (ha : DX ka X a fa) (hb : DX kb X b fb) (hs : starEach [b] X.env = [(false, eval b X.env)] := by rfl) (hbase : attributeBase a "join" X.env (eval a X.env) = eval a X.env := by rfl) (hline : (apos.endLine == pos.line) = true := by rfl) :
    DX .E X (.Call (.Attribute a "join" apos) [b] [] pos) (wMs oJoin fa fb) := by
  refine (.of (pe_join ha.pe hb.pe hs hbase hline) (sem_ms (fun x y dy F H P Q s h1 h2 r2 p q => ?_) ha.sem hb.sem))
  unfold oJoin at p
  split at p
  · obtain ⟨ys, e, hz, p⟩ := p
    obtain ⟨a1, xs, rfl, g1, g2, g3⟩ := RpM.list s r2
    obtain ⟨z1, z2⟩ := strs_rp g3 e
    refine ⟨x, a1, ys, rfl, rfl, .inl (by rw [← z1]; exact g1), hz, ?_⟩
    rw [TL.join_eq]
    exact q _ F H _ p (.refl s) (.str _ (by rw [sizeLine_eq]; exact Nat.le_trans (join_len x ys) hz) (join_ok h2 z2))
  · obtain ⟨ys, e, hz, p⟩ := p
    obtain ⟨a1, xs, rfl, g1, g2, g3, _⟩ := RpM.tuple s r2
    obtain ⟨z1, z2⟩ := strs_rp g3 e
    refine ⟨x, a1, ys, rfl, rfl, .inr (by rw [← z1]; exact g1), hz, ?_⟩
    rw [TL.join_eq]
    exact q _ F H _ p (.refl s) (.str _ (by rw [sizeLine_eq]; exact Nat.le_trans (join_len x ys) hz) (join_ok h2 z2))
  · exact p.elim
theorem spl_mem (S : List Nat) : ∀ (l : List Nat) (k : Nat) (acc p : List Nat), p ∈ TL.spl S k acc l → (∀ c ∈ p, c ∈ acc ∨ c ∈ l) ∧ p.length ≤ acc.length + l.length
  | [], k, acc, p, h => by
    rw [TL.spl_nil] at h
    have e := List.mem_singleton.mp h
    subst e
    exact ⟨fun c hc => .inl hc, Nat.le_add_right _ _⟩
  | c :: r, 0, acc, p, h => by
    by_cases hp : TL.pre S (c :: r) = true
    · rw [TL.spl_hit hp] at h
      rcases List.mem_cons.mp h with rfl | h
      · exact ⟨fun c hc => .inl hc, Nat.le_add_right _ _⟩
      · obtain ⟨h1, h2⟩ := spl_mem S r _ _ _ h
        exact ⟨fun c hc => (h1 c hc).elim (fun z => nomatch z) fun z => .inr (List.mem_cons_of_mem _ z), by rw [List.length_nil] at h2; rw [List.length_cons]; omega⟩
    · rw [TL.spl_miss (by simpa using hp)] at h
      obtain ⟨h1, h2⟩ := spl_mem S r _ _ _ h
      refine ⟨fun d hd => ?_, by rw [List.length_append, List.length_singleton] at h2; rw [List.length_cons]; omega⟩
      rcases h1 d hd with z | z
      · rcases List.mem_append.mp z with z | z
        · exact .inl z
        · exact .inr (by rw [List.mem_singleton.mp z]; exact List.mem_cons_self)
      · exact .inr (List.mem_cons_of_mem _ z)
  | c :: r, k + 1, acc, p, h => by
    have h' : p ∈ TL.spl S k acc r := h
    obtain ⟨h1, h2⟩ := spl_mem S r _ _ _ h'
    exact ⟨fun d hd => (h1 d hd).imp id (List.mem_cons_of_mem _), by simp only [List.length_cons]; omega⟩
theorem spl_len (S : List Nat) : ∀ (l : List Nat) (k : Nat) (acc : List Nat), (TL.spl S k acc l).length ≤ l.length + 1
  | [], k, acc => by rw [TL.spl_nil]; simp
  | c :: r, 0, acc => by
    by_cases hp : TL.pre S (c :: r) = true
    · rw [TL.spl_hit hp, List.length_cons, List.length_cons]
      have := spl_len S r (S.length - 1) []
      omega
    · rw [TL.spl_miss (by simpa using hp), List.length_cons]
      have := spl_len S r 0 (acc ++ [c])
      omega
  | c :: r, k + 1, acc => by
    have := spl_len S r k acc
    show (TL.spl S k acc r).length ≤ _
    rw [List.length_cons]
    omega
theorem rp_strs {F : Hp} : ∀ {ys : List Str}, (∀ y ∈ ys, y.length ≤ sizeLine ∧ PyData.strOk y = true) → RpAll κ F (ys.map V.str) (ys.map PyData.str)
  | [], _ => .nil
  | y :: ys, h => .cons (.str y (h y (by simp)).1 (h y (by simp)).2) (rp_strs fun z hz => h z (List.mem_cons_of_mem _ hz))
theorem dx_split (ha : DX ka X a fa) (hb : DX kb X b fb) (hs : starEach [b] X.env = [(false, eval b X.env)] := by rfl) (hbase : attributeBase a "split" X.env (eval a X.env) = eval a X.env := by rfl) (hline : (apos.endLine == pos.line) = true := by rfl) :
    DX .F X (.Call (.Attribute a "split" apos) [b] [] pos) (wMs oSplit fa fb) := by
  refine (.of (pe_split ha.pe hb.pe hs hbase hline) (sem_ms (fun x y dy F H P Q s h1 h2 r2 p q => ?_) ha.sem hb.sem))
  unfold oSplit at p
  split at p
  · rename_i b
    obtain ⟨⟨hb, hk⟩, hl, p⟩ := p
    obtain ⟨rfl, _, _⟩ := RpM.str r2
    refine ⟨x, b, rfl, rfl, ?_, hl, fun l hn => ?_⟩
    · refine beq_eq_false_iff_ne.mpr fun z => hb ?_
      rw [TL.len_tl] at z
      exact List.eq_nil_of_length_eq_zero z
    · have e := TL.split_spl x b hb (TL.kind_ok hk)
      have e2 : (TL.spl (TL.tl b) 0 [] (TL.tl x)).map strL = (Txt.split x b).map PyData.str := by
        rw [← e, List.map_map]
        exact List.map_congr_left fun y _ => by
          show PyData.str ⟨(TL.tl y).toArray⟩ = _
          rw [TL.mk_tl]
      rw [e2] at p
      have ok : ∀ y ∈ Txt.split x b, y.length ≤ sizeLine ∧ PyData.strOk y = true := fun y hy => by
        have hm : TL.tl y ∈ TL.spl (TL.tl b) 0 [] (TL.tl x) := by rw [← e]; exact List.mem_map_of_mem hy
        obtain ⟨g1, g2⟩ := spl_mem _ _ _ _ _ hm
        refine ⟨?_, ?_⟩
        · rw [TL.len_tl]
          rw [TL.len_tl] at hl
          simp only [List.length_nil] at g2
          omega
        · rw [← TL.mk_tl y]
          exact strOk_of h2 fun c hc => (g1 c hc).elim (fun z => nomatch z) id
      have hlen : ((Txt.split x b).map V.str).length ≤ sizeLine := by
        have z := spl_len (TL.tl b) (TL.tl x) 0 []
        rw [← e, List.length_map] at z
        rw [List.length_map]
        rw [TL.len_tl] at hl
        omega
      obtain ⟨e3, z3⟩ := ext_lst (κ := kitOf X) s hn hlen (rp_strs ok)
      exact q _ _ _ _ p e3 z3
  · exact p.elim
end
end DL

set_option maxRecDepth 100000
set_option maxHeartbeats 1000000
/-! DLj: sorted, upper, {}, constants that are tuples, the foot of a recursion. -/
namespace DL
open PySem PySem.Spec PyProof.Rows L2
section
variable {X : Cx} {κ : Kit} {k ka kb : Kd} {a b : Expr} {ta tb : TE} {fa fb : WE} {pos apos : Pos}
/-! ### sorted -/
def enc2 : V × PyData → PyData := fun b => b.2
abbrev rSortedD (K : PySem.W.Frag) : List V → Hp → VK → Prop := fun vs H Q => ∃ (a : Addr) (xs : List V) (ds : List PyData), vs = [.ref a] ∧ SqL K H a xs ∧ DpAll K H xs ds ∧ PySem.W.AllAlike ds ∧ PySem.W.Sortable ds ∧ (∀ d ∈ ds, d.depth ≤ 60) ∧ xs.length ≤ sizeLine ∧
  ∀ p, H p = none → Q (.ref p) (upd H p (.lst (((xs.zip ds).mergeSort (PySem.W.dataLe false enc2)).map Prod.fst)))
theorem dp_len {K : PySem.W.Frag} {H : Hp} : ∀ {xs : List V} {ds : List PyData}, DpAll K H xs ds → xs.length = ds.length
  | _, _, .nil => rfl
  | _, _, .cons _ t => by rw [List.length_cons, List.length_cons, dp_len t]
theorem each_vals {pins : List (Addr × Obj)} {σ : L2.St} {H : Hp} {s : Shared} (I : Inv X pins σ H s) : ∀ {xs : List V} {us : List Value} {ds : List PyData}, Vals xs us → DpAll X.K H xs ds →
    PySem.W.EachIs (fun (v : Value) (b : V × PyData) => RelV b.1 v) us (xs.zip ds) ∧ PySem.W.EachIs (fun (v : Value) (b : V × PyData) => ∃ as, Reads s.heap v (enc2 b) as) us (xs.zip ds) ∧ (xs.zip ds).map enc2 = ds
  | _, _, _, .nil, .nil => ⟨.nil, .nil, rfl⟩
  | _, _, _, .cons r t, .cons h g => by
    obtain ⟨z1, z2, z3⟩ := each_vals I t g
    exact ⟨.cons r z1, .cons (Dp.reads I _ _ _ h r) z2, by rw [List.zip_cons_cons, List.map_cons, z3]; rfl⟩
theorem vals_each : ∀ {us : List Value} {zs : List (V × PyData)}, PySem.W.EachIs (fun (v : Value) (b : V × PyData) => RelV b.1 v) us zs → Vals (zs.map Prod.fst) us
  | _, _, .nil => .nil
  | _, _, .cons r t => .cons r (vals_each t)
theorem op_sortedD (hu : X.A.units + 65 < cLine) : CallR X (.builtin "sorted") (rSortedD X.K) := by
  intro pins s σ H vs us Q I r h
  obtain ⟨a, xs, ds, rfl, hs, hd, h1, h2, h3, h4, q⟩ := h
  obtain ⟨its, rv, p1, hz⟩ := I.list hs
  rw [Vals.ref1 r]
  obtain ⟨z1, z2, z3⟩ := each_vals I rv hd
  have hlen : (xs.zip ds).length = xs.length := by
    have := congrArg List.length z3
    rw [List.length_map] at this
    have e := dp_len hd
    omega
  refine PySem.W.sorted_data (vs := its) (bs := xs.zip ds) (enc := enc2) (R := fun (v : Value) (b : V × PyData) => RelV b.1 v) p1.isList z1 z2 (by rw [z3]; exact h1) (by rw [z3]; exact h2) (by rw [hlen]; exact h4) (fun b hb => ?_) fun out ho eo => ?_
  · have : enc2 b ∈ ds := by rw [← z3]; exact List.mem_map_of_mem hb
    have := h3 _ this
    omega
  · obtain ⟨ep, he'⟩ := PyProof.Rows.sortedAll_at s.heap its out.toArray
    have vv := vals_each eo
    have hl2 : (((xs.zip ds).mergeSort (PySem.W.dataLe false enc2)).map Prod.fst).length ≤ sizeLine := by
      rw [List.length_map, List.length_mergeSort, hlen]; exact h4
    exact ⟨.ref _, _, I.laid (o := .lst (((xs.zip ds).mergeSort (PySem.W.dataLe false enc2)).map Prod.fst)) (t' := s.toks) (fun _ _ => PyProof.Rows.sortedAll_old) (Nat.le_succ _) ⟨hl2, out, ep, vv, he'⟩, rfl, q _ (I.hok.fresh (Nat.le_succ _))⟩
theorem rp_zip {F : Hp} : ∀ {xs : List V} {ds : List PyData}, RpAll κ F xs ds → ∀ z ∈ xs.zip ds, Rp κ F z.1 z.2
  | _, _, .nil, z, hz => by simp at hz
  | _, _, .cons h t, z, hz => by
    rw [List.zip_cons_cons] at hz
    rcases List.mem_cons.mp hz with rfl | hz
    · exact h
    · exact rp_zip t z hz
theorem rp_unzip {F : Hp} : ∀ {zs : List (V × PyData)}, (∀ z ∈ zs, Rp κ F z.1 z.2) → RpAll κ F (zs.map Prod.fst) (zs.map Prod.snd)
  | [], _ => .nil
  | z :: zs, h => .cons (h z List.mem_cons_self) (rp_unzip fun y hy => h y (List.mem_cons_of_mem _ hy))
theorem zip_snd {F : Hp} : ∀ {xs : List V} {ds : List PyData}, RpAll κ F xs ds → (xs.zip ds).map Prod.snd = ds
  | _, _, .nil => rfl
  | _, _, .cons h t => by rw [List.zip_cons_cons, List.map_cons, zip_snd t]
theorem sort_snd (zs : List (V × PyData)) : (zs.mergeSort (PySem.W.dataLe false enc2)).map Prod.snd = sortD (zs.map Prod.snd) := by
  unfold sortD
  exact List.map_mergeSort fun a _ b _ => rfl
theorem dps_of {F : Hp} : ∀ {xs : List V} {ds : List PyData}, (∀ d ∈ ds, noDict d = true) → RpAll κ F xs ds → DpAll κ.K F xs ds
  | _, _, _, .nil => .nil
  | _, _, h, .cons r t => .cons (Rp.dp (h _ List.mem_cons_self) r) (dps_of (fun d hd => h d (List.mem_cons_of_mem _ hd)) t)
theorem x_sorted (hu : X.A.units + 65 < cLine) : CallR X (.builtin "sorted") (rSortedD X.K) ∧ OpN (kitOf X) .F (rSortedD X.K) fSorted := by
  refine ⟨op_sortedD hu, fun vs ds F H P Q s hx p q => ?_⟩
  unfold fSorted at p
  split at p
  · rename_i es
    obtain ⟨⟨h1, h2, h3⟩, p⟩ := p
    obtain ⟨v, rfl, h⟩ := rm1 hx
    obtain ⟨a, xs, rfl, g1, g2, g3⟩ := RpM.list s h
    refine ⟨a, xs, es, rfl, g1, dps_of (κ := kitOf X) (fun d hd => (h3 d hd).1) (g3.mono s), h1, h2, fun d hd => (h3 d hd).2, g2, fun p0 hp => ?_⟩
    have rr := rp_unzip (κ := kitOf X) (F := F) (zs := (xs.zip es).mergeSort (PySem.W.dataLe false enc2)) fun z hz => rp_zip g3 z ((List.mergeSort_perm _ _).mem_iff.mp hz)
    rw [sort_snd, zip_snd g3] at rr
    obtain ⟨e2, z2⟩ := ext_lst (κ := kitOf X) s hp (by
      rw [List.length_map, List.length_mergeSort, List.length_zip]
      have := g3.length
      omega) rr
    exact q _ _ _ _ p e2 z2
  · exact p.elim
/-! ### upper -/
theorem sem_m0 {r : V → List V → Hp → VK → Prop} {g : W1} (h : ∀ (x : V) (dx : PyData) (F H : Hp) (P : PyData → Prop) (Q : VK), Same F H → RpM κ F H x dx → g dx P → (∀ d F' H' v, P d → Ext F H F' H' → RK k κ H F' H' v d → Q v H') → (∃ a, x = .str a) ∧ r x [] H Q)
    (ha : SemE κ ka ta fa) : SemE κ k (tM0 r ta) (w1 g fa) := by
  intro ρ σ F H P Q rr hp q
  refine ha.toM ρ σ F H _ _ rr hp fun d1 F1 H1 v1 p1 e1 r1 => ?_
  exact h v1 d1 F1 H1 P Q e1.sub r1 p1 fun d F' H' v p e z => q d F' H' v p (e1.trans e) (z.start e1.hh)
theorem dx_upper (ha : DX ka X a fa) (hbase : attributeBase a "upper" X.env (eval a X.env) = eval a X.env := by rfl) (hline : (apos.endLine == pos.line) = true := by rfl) :
    DX .E X (.Call (.Attribute a "upper" apos) [] [] pos) (w1 oUpper fa) := by
  refine (.of (pe_upper ha.pe hbase hline) (sem_m0 (fun x dx F H P Q s h1 p q => ?_) ha.sem))
  unfold oUpper at p
  split at p
  · obtain ⟨⟨c1, c2, c3⟩, p⟩ := p
    obtain ⟨e, l1, o1⟩ := RpM.str h1
    exact ⟨⟨_, e⟩, _, e, rfl, c1, q _ F H _ p (.refl s) (.str _ c3 c2)⟩
  · exact p.elim
/-! ### {} -/
theorem dx_dict0 : DX .F X (.Dict [] [] pos) (wC (.dict [])) := by
  refine (.of pe_dnewK (fun ρ σ F H P Q rr hp q => fun p hn => ?_))
  have s := rr.sub
  have fp : F p = none := s.free hn
  have s2 : Same H (upd H p (.dK [])) := fun b u z => by rw [upd_ne (ne_of_none z hn)]; exact z
  exact q (.dict []) F _ (.ref p) hp ⟨Same.refl _, s2, s.trans s2, fun b u z n => by rw [z] at n; cases n⟩ ⟨p, rfl, hn, fp, .inr ⟨.dK [], [], [], [], rfl, upd_same, .k [], .nil⟩⟩
end
/-! ### the foot of a recursion -/
theorem own_foot {P : Program} {w : World} {K : PySem.W.Frag} {mg : Str → Option Value} {base : Heap} {x qual : Str} {st : Stmt} {f : Addr} {fd : FuncData} {ps : List Str} {k : Kd} {j : Nat} (F : Fun K x qual st f fd) (hm : mg x = some (.ref f)) (hb : Binds K fd ps []) :
    Own P w K mg base x k ps.length j (fun _ _ => False) :=
  ⟨f, fd, ps, ⟨fun vs H Q E ⟨_, _, _, _, _, _, h, _⟩ => h.elim, fun A outer s H args us vs Q E _ _ _ _ ⟨_, _, _, _, _, _, h, _⟩ => h.elim⟩, hm, F.kp, hb⟩
/-! ### a constant that is a tuple -/
theorem gc_tup {κ : Kit} {mg : Str → Option Value} {x : Str} {q : Addr} {od : Option Addr} {its : Array Value} {n : Nat} {sl : Array (Option Value)} {xs : List V} {ds : List PyData} (h : mg x = some (.ref q)) (hl : κ.K.lookup q = some ⟨.type "tuple", od, .seq its n, sl⟩)
    (hv : Vals xs its.toList) (hd : ∀ F, RpAll κ F xs ds) (hs : its.size ≤ 1000 := by exact Nat.le_of_ble_eq_true rfl) : GC κ mg x (.tuple ds) := by
  have h2 : its.size ≤ sizeLine := Nat.le_of_lt (small1000 hs)
  exact ⟨.ref q, _, h, rfl, fun F => .tup (.inr ⟨_, its, n, hl, rfl, rfl, h2, hv⟩) (by rw [hv.length, Array.length_toList]; exact h2) (hd F)⟩
end DL

set_option maxRecDepth 100000
set_option maxHeartbeats 1000000
/-! DLp: loops and comprehensions over plain data. -/
namespace DL
open PySem
section
variable {g : WG} {b : DTS} {D : DEnds} {t : WT} {e : WE} {ρ : Rho}
theorem forD_inv {xs : List PyData} (I : Rho → Prop) (h0 : I ρ) (step : ∀ x ∈ xs, ∀ (ρ : Rho) (N : Rho → Prop), I ρ → (∀ ρ', I ρ' → N ρ') → g x ρ fun ρ' => b ⟨N, D.rt, D.nx, N⟩ ρ') (done : ∀ ρ, I ρ → D.nx ρ) : forD g b D xs ρ := by
  induction xs generalizing ρ with
  | nil => exact done ρ h0
  | cons x xs ih => exact step x (by simp) ρ _ h0 fun ρ' h => ih h fun y hy => step y (List.mem_cons_of_mem _ hy)
theorem forD_ix {xs : List PyData} (I : Nat → Rho → Prop) (h0 : I 0 ρ) (step : ∀ i x, xs[i]? = some x → ∀ (ρ : Rho) (N : Rho → Prop), I i ρ → (∀ ρ', I (i + 1) ρ' → N ρ') → g x ρ fun ρ' => b ⟨N, D.rt, D.nx, N⟩ ρ') (done : ∀ ρ, I xs.length ρ → D.nx ρ) : forD g b D xs ρ := by
  induction xs generalizing ρ I with
  | nil => exact done ρ h0
  | cons x xs ih => exact step 0 x rfl ρ _ h0 fun ρ' h => ih (fun i => I (i + 1)) h (fun i y hy => step (i + 1) y hy) done
/-- by what was gone through -/
theorem forD_pre {xs : List PyData} (I : List PyData → Rho → Prop) (h0 : I [] ρ) (step : ∀ p x q, xs = p ++ x :: q → ∀ (ρ : Rho) (N : Rho → Prop), I p ρ → (∀ ρ', I (p ++ [x]) ρ' → N ρ') → g x ρ fun ρ' => b ⟨N, D.rt, D.nx, N⟩ ρ') (done : ∀ ρ, I xs ρ → D.nx ρ) : forD g b D xs ρ := by
  have gen : ∀ (q p : List PyData) (ρ : Rho), xs = p ++ q → I p ρ → forD g b D q ρ := by
    intro q
    induction q with
    | nil =>
      intro p ρ e h
      rw [List.append_nil] at e
      subst e
      exact done ρ h
    | cons x q ih =>
      intro p ρ e h
      exact step p x q e ρ _ h fun ρ' h' => ih (p ++ [x]) ρ' (by rw [e, List.append_assoc]; rfl) h'
  exact gen xs [] ρ rfl h0
theorem compD_map {xs : List PyData} {P : List PyData → Prop} (f : PyData → PyData) (h : ∀ x ∈ xs, ∀ (K1 : PyData → Prop) (K2 : Prop), K1 (f x) → g x ρ fun ρ' => t ρ' fun c => match c with
    | true => e ρ' K1
    | false => K2) (p : P (xs.map f)) : compD g t e ρ xs P := by
  induction xs generalizing P with
  | nil => exact p
  | cons x xs ih => exact h x (by simp) _ _ (ih (fun y hy => h y (List.mem_cons_of_mem _ hy)) p)
theorem compD_filter {xs : List PyData} {P : List PyData → Prop} (c : PyData → Bool) (f : PyData → PyData) (h : ∀ x ∈ xs, ∀ (K1 : PyData → Prop) (K2 : Prop), (c x = true → K1 (f x)) → (c x = false → K2) → g x ρ fun ρ' => t ρ' fun c => match c with
    | true => e ρ' K1
    | false => K2) (p : P ((xs.filter c).map f)) : compD g t e ρ xs P := by
  induction xs generalizing P with
  | nil => exact p
  | cons x xs ih =>
    have ih' := fun P p => ih (P := P) (fun y hy => h y (List.mem_cons_of_mem _ hy)) p
    refine h x (by simp) _ _ (fun hc => ih' _ ?_) fun hc => ih' _ ?_
    · rw [List.filter_cons_of_pos hc] at p
      exact p
    · rw [List.filter_cons_of_neg (by rw [hc]; exact Bool.false_ne_true)] at p
      exact p
/-- .. over things that stand for data -/
theorem compD_mapE {α : Type} (enc : α → PyData) (f : α → PyData) {l : List α} {P : List PyData → Prop} (h : ∀ a ∈ l, ∀ (K1 : PyData → Prop) (K2 : Prop), K1 (f a) → g (enc a) ρ fun ρ' => t ρ' fun c => match c with
    | true => e ρ' K1
    | false => K2) (p : P (l.map f)) : compD g t e ρ (l.map enc) P := by
  induction l generalizing P with
  | nil => exact p
  | cons x xs ih => exact h x (by simp) _ _ (ih (fun y hy => h y (List.mem_cons_of_mem _ hy)) p)
theorem compD_filterE {α : Type} (enc : α → PyData) (c : α → Bool) (f : α → PyData) {l : List α} {P : List PyData → Prop} (h : ∀ a ∈ l, ∀ (K1 : PyData → Prop) (K2 : Prop), (c a = true → K1 (f a)) → (c a = false → K2) → g (enc a) ρ fun ρ' => t ρ' fun c => match c with
    | true => e ρ' K1
    | false => K2) (p : P ((l.filter c).map f)) : compD g t e ρ (l.map enc) P := by
  induction l generalizing P with
  | nil => exact p
  | cons x xs ih =>
    have ih' := fun P p => ih (P := P) (fun y hy => h y (List.mem_cons_of_mem _ hy)) p
    refine h x (by simp) _ _ (fun hc => ih' _ ?_) fun hc => ih' _ ?_
    · rw [List.filter_cons_of_pos hc] at p
      exact p
    · rw [List.filter_cons_of_neg (by rw [hc]; exact Bool.false_ne_true)] at p
      exact p
/-- the element may come out in several ways -/
theorem compD_rel {xs : List PyData} {P : List PyData → Prop} (R : PyData → PyData → Prop) (h : ∀ x ∈ xs, ∀ (K1 : PyData → Prop) (K2 : Prop), (∀ y, R x y → K1 y) → g x ρ fun ρ' => t ρ' fun c => match c with
    | true => e ρ' K1
    | false => K2) (p : ∀ ys, Paired R xs ys → P ys) : compD g t e ρ xs P := by
  induction xs generalizing P with
  | nil => exact p [] .nil
  | cons x xs ih => exact h x (by simp) _ _ fun y hy => ih (fun z hz => h z (List.mem_cons_of_mem _ hz)) fun ys hs => p (y :: ys) (.cons hy hs)
end
theorem dec_true {p : Prop} [Decidable p] (h : p) : decide p = true := decide_eq_true h
/-- indexing -/
theorem atI_of {α : Type} {xs : List α} {i : Int} {v : α} (h0 : 0 ≤ i) (h : xs[i.toNat]? = some v) : L2.atI xs i = some v := by
  have := L2.atI_nat h
  rw [show ((i.toNat : Nat) : Int) = i by omega] at this
  exact this
theorem atI_in {α : Type} {xs : List α} {i : Int} (h0 : 0 ≤ i) (h1 : i < xs.length) : ∃ v, L2.atI xs i = some v ∧ v ∈ xs := by
  have hl : i.toNat < xs.length := by omega
  exact ⟨xs[i.toNat], atI_of h0 (List.getElem?_eq_getElem hl), List.getElem_mem hl⟩
theorem bools_map {α : Type} (f : α → Bool) : ∀ l : List α, boolsOf (l.map fun x => PyData.bool (f x)) = some (l.map f)
  | [] => rfl
  | x :: l => by
    rw [List.map_cons, boolsOf, bools_map f l]
    rfl
theorem strs_map {α : Type} (f : α → Str) : ∀ l : List α, strsOf (l.map fun x => PyData.str (f x)) = some (l.map f)
  | [] => rfl
  | x :: l => by
    rw [List.map_cons, strsOf, strs_map f l]
    rfl
theorem eqvAll_ints : ∀ xs ys : List Int, PyData.eqvAll (xs.map .int) (ys.map .int) = decide (xs = ys)
  | [], [] => by simp [PyData.eqvAll]
  | [], _ :: _ => by simp [PyData.eqvAll]
  | _ :: _, [] => by simp [PyData.eqvAll]
  | x :: xs, y :: ys => by
    rw [List.map_cons, List.map_cons, PyData.eqvAll, PyData.eqv, eqvAll_ints xs ys]
    by_cases h : x = y
    · subst h; simp
    · simp [h]
theorem flat_ints (xs : List Int) : Flat (.tuple (xs.map .int)) ∧ Flat (.list (xs.map .int)) := by
  have h1 : ∀ xs : List Int, noDict.noDicts (xs.map PyData.int) = true := fun xs => by
    induction xs with
    | nil => rfl
    | cons x xs ih => rw [List.map_cons, noDict.noDicts, ih]; rfl
  have h2 := PySem.W.depth_ints xs
  exact ⟨⟨by rw [noDict]; exact h1 xs, by rw [PyData.depth, h2]; decide⟩, ⟨by rw [noDict]; exact h1 xs, by rw [PyData.depth, h2]; decide⟩⟩
theorem flat_int (i : Int) : Flat (.int i) := ⟨rfl, by simp [PyData.depth]⟩
theorem flat_bool (i : Bool) : Flat (.bool i) := ⟨rfl, by simp [PyData.depth]⟩
theorem flat_none : Flat .none := ⟨rfl, by simp [PyData.depth]⟩
theorem flat_str (i : Str) : Flat (.str i) := ⟨rfl, by simp [PyData.depth]⟩
/-! ### operators at data of a known form -/
section
variable {P : PyData → Prop}
theorem prop_of {A B : Prop} {P : Prop} (a : A) (b : B) : (A ∧ B ∧ P) = P := propext ⟨fun h => h.2.2, fun h => ⟨a, b, h⟩⟩
theorem eqv_int (i j : Int) : PyData.eqv (.int i) (.int j) = decide (i = j) := by
  rw [PyData.eqv]
  exact Bool.beq_eq_decide_eq i j
theorem eqv_str (i j : Str) : PyData.eqv (.str i) (.str j) = decide (i = j) := by
  rw [PyData.eqv]
  exact Bool.beq_eq_decide_eq i j
theorem eqv_tup (xs ys : List Int) : PyData.eqv (.tuple (xs.map .int)) (.tuple (ys.map .int)) = decide (xs = ys) := by rw [PyData.eqv, eqvAll_ints]
theorem eqv_lst (xs ys : List Int) : PyData.eqv (.list (xs.map .int)) (.list (ys.map .int)) = decide (xs = ys) := by rw [PyData.eqv, eqvAll_ints]
theorem oEq_int (i j : Int) : oEq (.int i) (.int j) P = P (.bool (decide (i = j))) := by rw [oEq, eqv_int]; exact prop_of (flat_int i) (flat_int j)
theorem oNe_int (i j : Int) : oNe (.int i) (.int j) P = P (.bool (!decide (i = j))) := by rw [oNe, eqv_int]; exact prop_of (flat_int i) (flat_int j)
theorem oEq_str (i j : Str) : oEq (.str i) (.str j) P = P (.bool (decide (i = j))) := by rw [oEq, eqv_str]; exact prop_of (flat_str i) (flat_str j)
theorem oNe_str (i j : Str) : oNe (.str i) (.str j) P = P (.bool (!decide (i = j))) := by rw [oNe, eqv_str]; exact prop_of (flat_str i) (flat_str j)
theorem oEq_bool (i j : Bool) : oEq (.bool i) (.bool j) P = P (.bool (decide (i = j))) := by
  rw [oEq, PyData.eqv, Bool.beq_eq_decide_eq]; exact prop_of (flat_bool i) (flat_bool j)
theorem oNe_bool (i j : Bool) : oNe (.bool i) (.bool j) P = P (.bool (!decide (i = j))) := by
  rw [oNe, PyData.eqv, Bool.beq_eq_decide_eq]; exact prop_of (flat_bool i) (flat_bool j)
theorem oEq_tup (xs ys : List Int) : oEq (.tuple (xs.map .int)) (.tuple (ys.map .int)) P = P (.bool (decide (xs = ys))) := by rw [oEq, eqv_tup]; exact prop_of (flat_ints xs).1 (flat_ints ys).1
theorem oNe_tup (xs ys : List Int) : oNe (.tuple (xs.map .int)) (.tuple (ys.map .int)) P = P (.bool (!decide (xs = ys))) := by rw [oNe, eqv_tup]; exact prop_of (flat_ints xs).1 (flat_ints ys).1
theorem oEq_lst (xs ys : List Int) : oEq (.list (xs.map .int)) (.list (ys.map .int)) P = P (.bool (decide (xs = ys))) := by rw [oEq, eqv_lst]; exact prop_of (flat_ints xs).2 (flat_ints ys).2
theorem oNe_lst (xs ys : List Int) : oNe (.list (xs.map .int)) (.list (ys.map .int)) P = P (.bool (!decide (xs = ys))) := by rw [oNe, eqv_lst]; exact prop_of (flat_ints xs).2 (flat_ints ys).2
theorem oEq_tup0 (xs : List Int) : oEq (.tuple (xs.map .int)) (.tuple []) P = P (.bool (decide (xs = []))) := oEq_tup xs []
theorem oNe_tup0 (xs : List Int) : oNe (.tuple (xs.map .int)) (.tuple []) P = P (.bool (!decide (xs = []))) := oNe_tup xs []
theorem oEq_lst0 (xs : List Int) : oEq (.list (xs.map .int)) (.list []) P = P (.bool (decide (xs = []))) := oEq_lst xs []
theorem oNe_lst0 (xs : List Int) : oNe (.list (xs.map .int)) (.list []) P = P (.bool (!decide (xs = []))) := oNe_lst xs []
theorem oEq_tup00 : oEq (.tuple []) (.tuple []) P = P (.bool true) := oEq_tup [] []
theorem oNe_tup00 : oNe (.tuple []) (.tuple []) P = P (.bool false) := oNe_tup [] []
theorem oEq_lst00 : oEq (.list []) (.list []) P = P (.bool true) := oEq_lst [] []
theorem oNe_lst00 : oNe (.list []) (.list []) P = P (.bool false) := oNe_lst [] []
theorem oLt_int (i j : Int) : oLt (.int i) (.int j) P = P (.bool (decide (i < j))) := rfl
theorem oLe_int (i j : Int) : oLe (.int i) (.int j) P = P (.bool (decide (i ≤ j))) := rfl
theorem oGt_int (i j : Int) : oGt (.int i) (.int j) P = P (.bool (decide (j < i))) := rfl
theorem oGe_int (i j : Int) : oGe (.int i) (.int j) P = P (.bool (decide (j ≤ i))) := rfl
theorem oNeg_int (i : Int) : oNeg (.int i) P = P (.int (-i)) := rfl
theorem oAdd_int (i j : Int) : oAdd (.int i) (.int j) P = P (.int (i + j)) := rfl
theorem oSub_int (i j : Int) : oSub (.int i) (.int j) P = P (.int (i - j)) := rfl
theorem oMod_int (i j : Int) (h : 0 < j) : oMod (.int i) (.int j) P = P (.int (i % j)) := propext ⟨fun q => q.2, fun q => ⟨h, q⟩⟩
theorem oDiv_int (i j : Int) (h : 0 < j) (h2 : j < 1073741824) : oDiv (.int i) (.int j) P = P (.int (i / j)) := propext ⟨fun q => q.2, fun q => ⟨⟨h, h2⟩, q⟩⟩
theorem oMulR_int (i j : Int) (h : -(2 ^ 64) < j) (h2 : j < 2 ^ 64) : oMul (.int i) (.int j) P = P (.int (i * j)) := propext ⟨fun q => q.2, fun q => ⟨.inr ⟨h, h2⟩, q⟩⟩
theorem oMulL_int (i j : Int) (h : -(2 ^ 64) < i) (h2 : i < 2 ^ 64) : oMul (.int i) (.int j) P = P (.int (i * j)) := propext ⟨fun q => q.2, fun q => ⟨.inl ⟨h, h2⟩, q⟩⟩
theorem oIx_lastT (a : List PyData) (x : PyData) : oIx (.tuple (a ++ [x])) (.int (-1)) P = P x := propext ⟨fun ⟨v, h, q⟩ => by rw [L2.atI_last] at h; cases h; exact q, fun q => ⟨x, L2.atI_last _ _, q⟩⟩
theorem oIx_lastL (a : List PyData) (x : PyData) : oIx (.list (a ++ [x])) (.int (-1)) P = P x := propext ⟨fun ⟨v, h, q⟩ => by rw [L2.atI_last] at h; cases h; exact q, fun q => ⟨x, L2.atI_last _ _, q⟩⟩
theorem cut_last {α : Type} (l : List α) (x : α) : cutD (l ++ [x]) none (some (-1)) = l := by
  unfold cutD
  have e : HT.sIx (l ++ [x]).length (l ++ [x]).length (some (-1)) = l.length := by
    simp only [HT.sIx, List.length_append, List.length_singleton]
    rw [if_pos (by decide)]
    omega
  rw [HT.sIx_none, e, List.drop_zero, Nat.sub_zero]
  simp
theorem snoc_cases {α : Type} (l : List α) : l = [] ∨ ∃ a x, l = a ++ [x] := by
  rcases List.eq_nil_or_concat l with h | ⟨a, x, h⟩
  · exact .inl h
  · exact .inr ⟨a, x, by rw [h]; simp⟩
theorem lt_ints (xs ys : List Int) : PySem.W.dataLt (.tuple (xs.map .int)) (.tuple (ys.map .int)) = PySem.W.listLt xs ys := by
  unfold PySem.W.dataLt
  rw [PySem.W.keyToks, PySem.W.keyToks]
  exact PySem.W.lexAll_map xs ys
theorem alike_ints (xs ys : List Int) : PySem.W.alike (.tuple (xs.map .int)) (.tuple (ys.map .int)) = true := by
  rw [PySem.W.alike]
  exact PySem.W.alikeAll_map xs ys
theorem oLt_tup (xs ys : List Int) : oLt (.tuple (xs.map .int)) (.tuple (ys.map .int)) P = P (.bool (PySem.W.listLt xs ys)) := by
  rw [← lt_ints]
  exact propext ⟨fun h => h.2.2.2.2, fun h => ⟨alike_ints xs ys, nofun, (flat_ints xs).1, (flat_ints ys).1, h⟩⟩
theorem listLt_pre : ∀ (p a b : List Int), PySem.W.listLt (p ++ a) (p ++ b) = PySem.W.listLt a b
  | [], _, _ => rfl
  | x :: p, a, b => by
    rw [List.cons_append, List.cons_append, PySem.W.listLt, if_pos rfl]
    exact listLt_pre p a b
theorem int_len {n : Int} {k : Nat} (h0 : 0 ≤ n) (hk : 0 < k) (h1 : n < 10 ^ k) : (Str.ofString (toString n)).length ≤ k := PyProof.Rows.toString_length_le h0 hk h1
theorem range_get {lo hi : Int} {i : Nat} {x : PyData} (h : (rangeD lo hi)[i]? = some x) : x = .int (lo + i) ∧ (i : Int) < hi - lo := by
  unfold rangeD at h
  rw [List.getElem?_map] at h
  cases q : (List.range (hi - lo).toNat)[i]? with
  | none => rw [q] at h; cases h
  | some j =>
    rw [q] at h
    obtain ⟨h1, h2⟩ := List.getElem?_eq_some_iff.mp q
    rw [List.length_range] at h1
    rw [List.getElem_range] at h2
    subst h2
    cases h
    exact ⟨rfl, by omega⟩
theorem range_len (lo hi : Int) : (rangeD lo hi).length = (hi - lo).toNat := by unfold rangeD; rw [List.length_map, List.length_range]
end
end DL

set_option maxRecDepth 100000
/-! DLr: the same equations, as rewriting steps that the kernel checks one at a time. -/
namespace DL
open PySem
theorem wVar_q (i : Nat) (ρ : Rho) (P : PyData → Prop) : wVar i ρ P = (match ρ[i]? with
  | some (some (.dat d)) => P d
  | _ => False) := propext Iff.rfl
theorem wMut_q (i : Nat) (ρ : Rho) (P : PyData → Prop) : wMut i ρ P = (match ρ[i]? with
  | some (some (.own d)) => P d
  | _ => False) := propext Iff.rfl
theorem wC_q (d : PyData) (ρ : Rho) (P : PyData → Prop) : wC d ρ P = (P d) := propext Iff.rfl
theorem w1_q (g : W1) (a : WE) (ρ : Rho) (P : PyData → Prop) : w1 g a ρ P = (a ρ fun x => g x P) := propext Iff.rfl
theorem w2_q (g : W2) (a b : WE) (ρ : Rho) (P : PyData → Prop) : w2 g a b ρ P = (a ρ fun x => b ρ fun y => g x y P) := propext Iff.rfl
theorem aNil_q (ρ : Rho) (P : List PyData → Prop) : aNil  ρ P = (P []) := propext Iff.rfl
theorem aCons_q (a : WE) (r : WA) (ρ : Rho) (P : List PyData → Prop) : aCons a r ρ P = (a ρ fun x => r ρ fun xs => P (x :: xs)) := propext Iff.rfl
theorem wApp_q (g : WF) (as : WA) (ρ : Rho) (P : PyData → Prop) : wApp g as ρ P = (as ρ fun ds => g ds P) := propext Iff.rfl
theorem fList_q (ds : List PyData) (P : PyData → Prop) : fList  ds P = (P (.list ds)) := propext Iff.rfl
theorem fTup_q (ds : List PyData) (P : PyData → Prop) : fTup  ds P = (P (.tuple ds)) := propext Iff.rfl
theorem tVal_q (a : WE) (ρ : Rho) (P : Bool → Prop) : tVal a ρ P = (a ρ fun d => match d with
  | .bool b => P b
  | _ => False) := propext Iff.rfl
theorem tAnd_q (a b : WT) (ρ : Rho) (P : Bool → Prop) : tAnd a b ρ P = (a ρ fun c => match c with
  | true => b ρ P
  | false => P false) := propext Iff.rfl
theorem tOr_q (a b : WT) (ρ : Rho) (P : Bool → Prop) : tOr a b ρ P = (a ρ fun c => match c with
  | true => P true
  | false => b ρ P) := propext Iff.rfl
theorem tNot_q (a : WT) (ρ : Rho) (P : Bool → Prop) : tNot a ρ P = (a ρ fun c => P (!c)) := propext Iff.rfl
theorem tTru_q (a : WE) (ρ : Rho) (P : Bool → Prop) : tTru a ρ P = (a ρ fun d => truD d P) := propext Iff.rfl
theorem tYes_q (ρ : Rho) (P : Bool → Prop) : tYes  ρ P = (P true) := propext Iff.rfl
theorem wIf_q (t : WT) (a b : WE) (ρ : Rho) (P : PyData → Prop) : wIf t a b ρ P = (t ρ fun c => match c with
  | true => a ρ P
  | false => b ρ P) := propext Iff.rfl
theorem wOr_q (a b : WE) (ρ : Rho) (P : PyData → Prop) : wOr a b ρ P = (a ρ fun d => truD d fun c => match c with
  | true => P d
  | false => b ρ P) := propext Iff.rfl
theorem wAnd_q (a b : WE) (ρ : Rho) (P : PyData → Prop) : wAnd a b ρ P = (a ρ fun d => truD d fun c => match c with
  | true => b ρ P
  | false => P d) := propext Iff.rfl
theorem wNot_q (a : WE) (ρ : Rho) (P : PyData → Prop) : wNot a ρ P = (a ρ fun d => truD d fun c => P (.bool (!c))) := propext Iff.rfl
theorem wChain_q (g g' : W2) (a b c : WE) (ρ : Rho) (P : PyData → Prop) : wChain g g' a b c ρ P = (a ρ fun x => b ρ fun y => g x y fun z => match z with
  | .bool true => c ρ fun u => g' y u P
  | .bool false => P (.bool false)
  | _ => False) := propext Iff.rfl
theorem oPart_q (a : WE) (ρ : Rho) (P : Option Int → Prop) : oPart a ρ P = (a ρ fun d => match d with
  | .int i => P (some i)
  | _ => False) := propext Iff.rfl
theorem oNo_q (ρ : Rho) (P : Option Int → Prop) : oNo  ρ P = (P none) := propext Iff.rfl
theorem wSlice_q (a : WE) (lo hi : WO) (ρ : Rho) (P : PyData → Prop) : wSlice a lo hi ρ P = (a ρ fun d => lo ρ fun l => hi ρ fun h => sliceD d l h P) := propext Iff.rfl
theorem oIsi_q (ts : List String) (x : PyData) (P : PyData → Prop) : oIsi ts x P = (P (.bool (ts.any fun t => isTy t x))) := propext Iff.rfl
theorem wMs_q (g : Str → W1) (a b : WE) (ρ : Rho) (P : PyData → Prop) : wMs g a b ρ P = (a ρ fun x => match x with
  | .str s => b ρ fun y => g s y P
  | _ => False) := propext Iff.rfl
theorem iSeq_q (a : WE) (ρ : Rho) (P : List PyData → Prop) : iSeq a ρ P = (a ρ fun d => match d with
  | .list xs => P xs
  | .tuple xs => P xs
  | _ => False) := propext Iff.rfl
theorem iStr_q (a : WE) (ρ : Rho) (P : List PyData → Prop) : iStr a ρ P = (a ρ fun d => match d with
  | .str z => P (z.cps.toList.map fun c => .str ⟨#[c]⟩)
  | _ => False) := propext Iff.rfl
theorem iRange1_q (a : WE) (ρ : Rho) (P : List PyData → Prop) : iRange1 a ρ P = (a ρ fun d => match d with
  | .int j => (-(2 ^ 62) ≤ j ∧ j ≤ 16777216) ∧ P (rangeD 0 j)
  | _ => False) := propext Iff.rfl
theorem iRange2_q (a b : WE) (ρ : Rho) (P : List PyData → Prop) : iRange2 a b ρ P = (a ρ fun d => b ρ fun e => match d, e with
  | .int i, .int j => (-(2 ^ 62) ≤ i ∧ i < 2 ^ 62 ∧ -(2 ^ 62) ≤ j ∧ j < 2 ^ 62 ∧ j - i ≤ 16777216) ∧ P (rangeD i j)
  | _, _ => False) := propext Iff.rfl
theorem gNm_q (i : Nat) (d : PyData) (ρ : Rho) (P : Rho → Prop) : gNm i d ρ P = (P (ρ.set i (some (.dat d)))) := propext Iff.rfl
theorem gNl_q (ds : List PyData) (ρ : Rho) (P : Rho → Prop) : gNl  ds ρ P = (match ds with
  | [] => P ρ
  | _ => False) := propext Iff.rfl
theorem gCn_q (g : WG) (r : WGs) (ds : List PyData) (ρ : Rho) (P : Rho → Prop) : gCn g r ds ρ P = (match ds with
  | d :: ds => g d ρ fun ρ' => r ds ρ' P
  | [] => False) := propext Iff.rfl
theorem gTp_q (n : Nat) (r : WGs) (d : PyData) (ρ : Rho) (P : Rho → Prop) : gTp n r d ρ P = (match d with
  | .tuple ds => ds.length = n ∧ r ds ρ P
  | _ => False) := propext Iff.rfl
theorem wComp_q (it : WA) (own : List Nat) (g : WG) (t : WT) (e : WE) (ρ : Rho) (P : PyData → Prop) : wComp it own g t e ρ P = (it ρ fun xs => compD g t e (wipeD ρ own) xs fun ys => P (.list ys)) := propext Iff.rfl
theorem dNext_q (D : DEnds) (ρ : Rho) : dNext  D ρ = (D.nx ρ) := propext Iff.rfl
theorem dSeq_q (t u : DTS) (D : DEnds) (ρ : Rho) : dSeq t u D ρ = (t { D with nx := u D } ρ) := propext Iff.rfl
theorem dAsg_q (i : Nat) (a : WE) (D : DEnds) (ρ : Rho) : dAsg i a D ρ = (a ρ fun d => D.nx (ρ.set i (some (.dat d)))) := propext Iff.rfl
theorem dAsgM_q (i : Nat) (a : WE) (D : DEnds) (ρ : Rho) : dAsgM i a D ρ = (a ρ fun d => D.nx (ρ.set i (some (.own d)))) := propext Iff.rfl
theorem dAsgG_q (g : WG) (a : WE) (D : DEnds) (ρ : Rho) : dAsgG g a D ρ = (a ρ fun d => g d ρ D.nx) := propext Iff.rfl
theorem dPar_q (i j : Nat) (as : WA) (D : DEnds) (ρ : Rho) : dPar i j as D ρ = (as ρ fun ds => match ds with
  | [x, y] => D.nx ((ρ.set i (some (.dat x))).set j (some (.dat y)))
  | _ => False) := propext Iff.rfl
theorem dExpr_q (a : WE) (D : DEnds) (ρ : Rho) : dExpr a D ρ = (a ρ fun _ => D.nx ρ) := propext Iff.rfl
theorem dRet_q (a : WE) (D : DEnds) (ρ : Rho) : dRet a D ρ = (a ρ D.rt) := propext Iff.rfl
theorem dRetN_q (D : DEnds) (ρ : Rho) : dRetN  D ρ = (D.rt .none) := propext Iff.rfl
theorem dBreak_q (D : DEnds) (ρ : Rho) : dBreak  D ρ = (D.bk ρ) := propext Iff.rfl
theorem dCont_q (D : DEnds) (ρ : Rho) : dCont  D ρ = (D.ct ρ) := propext Iff.rfl
theorem dIf_q (t : WT) (a b : DTS) (D : DEnds) (ρ : Rho) : dIf t a b D ρ = (t ρ fun c => match c with
  | true => a D ρ
  | false => b D ρ) := propext Iff.rfl
theorem dFor_q (it : WA) (g : WG) (b : DTS) (D : DEnds) (ρ : Rho) : dFor it g b D ρ = (it ρ fun xs => forD g b D xs ρ) := propext Iff.rfl
theorem dWhile_q (t : WT) (b : DTS) (D : DEnds) (ρ : Rho) : dWhile t b D ρ = (∃ n, whileD t b D n ρ) := propext Iff.rfl
theorem dAppend_q (i : Nat) (a : WE) (D : DEnds) (ρ : Rho) : dAppend i a D ρ = (match ρ[i]? with
  | some (some (.own (.list xs))) => a ρ fun d => xs.length < sizeLine ∧ D.nx (ρ.set i (some (.own (.list (xs ++ [d])))))
  | _ => False) := propext Iff.rfl
theorem dPop_q (i : Nat) (D : DEnds) (ρ : Rho) : dPop i D ρ = (match ρ[i]? with
  | some (some (.own (.list xs))) => xs ≠ [] ∧ D.nx (ρ.set i (some (.own (.list xs.dropLast))))
  | _ => False) := propext Iff.rfl
theorem dSetL_q (i : Nat) (k a : WE) (D : DEnds) (ρ : Rho) : dSetL i k a D ρ = (a ρ fun d => match ρ[i]? with
  | some (some (.own (.list xs))) => k ρ fun j => match j with
    | .int j => ∃ n, L2.ixN xs.length j = some n ∧ D.nx (ρ.set i (some (.own (.list (xs.set n d)))))
    | _ => False
  | _ => False) := propext Iff.rfl
theorem dExtL_q (i : Nat) (a : WE) (D : DEnds) (ρ : Rho) : dExtL i a D ρ = (match ρ[i]? with
  | some (some (.own (.list xs))) => a ρ fun d => match d with
    | .list ys => xs.length + ys.length ≤ sizeLine ∧ D.nx (ρ.set i (some (.own (.list (xs ++ ys)))))
    | _ => False
  | _ => False) := propext Iff.rfl
theorem dAug_q (i : Nat) (g : W2) (a : WE) (D : DEnds) (ρ : Rho) : dAug i g a D ρ = (match ρ[i]? with
  | some (some (.dat x)) => a ρ fun y => g x y fun z => D.nx (ρ.set i (some (.dat z)))
  | _ => False) := propext Iff.rfl
theorem dFrz_q (i : Nat) (t : DTS) (D : DEnds) (ρ : Rho) : dFrz i t D ρ = (t D (frz ρ i)) := propext Iff.rfl
theorem wDef_q (m n : Nat) (t : DTS) (ds : List PyData) (P : PyData → Prop) : wDef m n t ds P = (ds.length = m ∧ t ⟨fun _ => P .none, P, fun _ => False, fun _ => False⟩ (startD n ds)) := propext Iff.rfl
theorem wDefF_q (m n : Nat) (t : DTS) (ds : List PyData) (P : PyData → Prop) : wDefF m n t ds P = (ds.length = m ∧ t ⟨fun _ => False, P, fun _ => False, fun _ => False⟩ (startD n ds)) := propext Iff.rfl
theorem oIs_q (x y : PyData) (P : PyData → Prop) : oIs  x y P = (match y with
  | .none => P (.bool (isNone x))
  | .bool b => match x with
    | .bool a => P (.bool (decide (a = b)))
    | _ => False
  | _ => False) := propext Iff.rfl
theorem oIsNot_q (x y : PyData) (P : PyData → Prop) : oIsNot  x y P = (match y with
  | .none => P (.bool (!isNone x))
  | .bool b => match x with
    | .bool a => P (.bool (!decide (a = b)))
    | _ => False
  | _ => False) := propext Iff.rfl
theorem fTupleOf_q (ds : List PyData) (P : PyData → Prop) : fTupleOf  ds P = (match ds with
  | [.list xs] => P (.tuple xs)
  | [.tuple xs] => P (.tuple xs)
  | _ => False) := propext Iff.rfl
theorem fListOf_q (ds : List PyData) (P : PyData → Prop) : fListOf  ds P = (match ds with
  | [.list xs] => P (.list xs)
  | [.tuple xs] => P (.list xs)
  | _ => False) := propext Iff.rfl
theorem truD_none (P : Bool → Prop) : truD .none P = P false := propext Iff.rfl
theorem truD_bool (b : Bool) (P : Bool → Prop) : truD (.bool b) P = P b := propext Iff.rfl
theorem truD_int (b : Int) (P : Bool → Prop) : truD (.int b) P = P (b != 0) := propext Iff.rfl
theorem truD_str (b : Str) (P : Bool → Prop) : truD (.str b) P = P (b.length != 0) := propext Iff.rfl
theorem truD_list (b : List PyData) (P : Bool → Prop) : truD (.list b) P = P (!b.isEmpty) := propext Iff.rfl
theorem truD_tuple (b : List PyData) (P : Bool → Prop) : truD (.tuple b) P = P (!b.isEmpty) := propext Iff.rfl
theorem sliceD_list (xs : List PyData) (lo hi : Option Int) (P : PyData → Prop) : sliceD (.list xs) lo hi P = P (.list (cutD xs lo hi)) := propext Iff.rfl
theorem sliceD_tuple (xs : List PyData) (lo hi : Option Int) (P : PyData → Prop) : sliceD (.tuple xs) lo hi P = P (.tuple (cutD xs lo hi)) := propext Iff.rfl
theorem sliceD_str (xs : Str) (lo hi : Option Int) (P : PyData → Prop) : sliceD (.str xs) lo hi P = P (.str (L2.cutS xs lo hi)) := propext Iff.rfl
theorem oLt_intq (i j : Int) (P : PyData → Prop) : oLt (.int i) (.int j) P = P (.bool (decide (i < j))) := propext Iff.rfl
theorem oLe_intq (i j : Int) (P : PyData → Prop) : oLe (.int i) (.int j) P = P (.bool (decide (i ≤ j))) := propext Iff.rfl
theorem oGt_intq (i j : Int) (P : PyData → Prop) : oGt (.int i) (.int j) P = P (.bool (decide (j < i))) := propext Iff.rfl
theorem oGe_intq (i j : Int) (P : PyData → Prop) : oGe (.int i) (.int j) P = P (.bool (decide (j ≤ i))) := propext Iff.rfl
theorem oNeg_intq (i : Int) (P : PyData → Prop) : oNeg (.int i) P = P (.int (-i)) := propext Iff.rfl
theorem oAdd_intq (i j : Int) (P : PyData → Prop) : oAdd (.int i) (.int j) P = P (.int (i + j)) := propext Iff.rfl
theorem oSub_intq (i j : Int) (P : PyData → Prop) : oSub (.int i) (.int j) P = P (.int (i - j)) := propext Iff.rfl
theorem oAdd_tup (a b : List PyData) (P : PyData → Prop) : oAdd (.tuple a) (.tuple b) P = (a.length + b.length ≤ sizeLine ∧ P (.tuple (a ++ b))) := propext Iff.rfl
theorem oAdd_lst (a b : List PyData) (P : PyData → Prop) : oAdd (.list a) (.list b) P = (a.length + b.length ≤ sizeLine ∧ P (.list (a ++ b))) := propext Iff.rfl
theorem oAdd_str (a b : Str) (P : PyData → Prop) : oAdd (.str a) (.str b) P = (a.length + b.length ≤ sizeLine ∧ P (.str (a ++ b))) := propext Iff.rfl
theorem oIx_inL {xs : List PyData} {i : Int} {P : PyData → Prop} (h0 : 0 ≤ i) (h1 : i < xs.length) (h : ∀ z ∈ xs, P z) : oIx (.list xs) (.int i) P := by
  obtain ⟨v, hv, hm⟩ := atI_in h0 h1
  exact ⟨v, hv, h v hm⟩
theorem oIx_inT {xs : List PyData} {i : Int} {P : PyData → Prop} (h0 : 0 ≤ i) (h1 : i < xs.length) (h : ∀ z ∈ xs, P z) : oIx (.tuple xs) (.int i) P := by
  obtain ⟨v, hv, hm⟩ := atI_in h0 h1
  exact ⟨v, hv, h v hm⟩
theorem oIx_atL {xs : List PyData} {i : Int} {v : PyData} {P : PyData → Prop} (h0 : 0 ≤ i) (h1 : xs[i.toNat]? = some v) (h : P v) : oIx (.list xs) (.int i) P := ⟨v, atI_of h0 h1, h⟩
theorem oIx_atT {xs : List PyData} {i : Int} {v : PyData} {P : PyData → Prop} (h0 : 0 ≤ i) (h1 : xs[i.toNat]? = some v) (h : P v) : oIx (.tuple xs) (.int i) P := ⟨v, atI_of h0 h1, h⟩
theorem fLen_list (xs : List PyData) (P : PyData → Prop) : fLen [.list xs] P = P (.int xs.length) := propext Iff.rfl
theorem fLen_tuple (xs : List PyData) (P : PyData → Prop) : fLen [.tuple xs] P = P (.int xs.length) := propext Iff.rfl
theorem fLen_str (xs : Str) (P : PyData → Prop) : fLen [.str xs] P = P (.int xs.length) := propext Iff.rfl
end DL

set_option maxRecDepth 100000
set_option maxHeartbeats 1000000
/-! DLs: texts of figures, plain. -/
namespace DL
open PySem
theorem oIn_one (c : Nat) (z : Str) (P : PyData → Prop) : oIn (.str ⟨#[c]⟩) (.str z) P = P (.bool (decide (c ∈ z.cps.toList))) := by
  show P (.bool (!(Builtin.Str.occurrences z ⟨#[c]⟩ 0 z.length 1).isEmpty)) = _
  rw [StrLaws.found_one]
def figC (c : Nat) : Bool := decide (48 ≤ c ∧ c ≤ 57)
theorem fig_mem (c : Nat) : decide (c ∈ (Str.ofString "0123456789").cps.toList) = figC c := by
  have e : (Str.ofString "0123456789").cps.toList = [48, 49, 50, 51, 52, 53, 54, 55, 56, 57] := by decide +kernel
  rw [e]
  unfold figC
  rw [decide_eq_decide]
  simp only [List.mem_cons, List.not_mem_nil, or_false]
  omega
def figB (w : Str) : Bool := w.cps.toList.all figC
theorem figB_all {w : Str} (h : figB w = true) : NumText.AllDigits w.cps.toList := fun c hc => of_decide_eq_true (List.all_eq_true.mp h c hc)
def valI (w : Str) : Int := ((NumText.digitsVal w.cps.toList : Nat) : Int)
theorem dv_lt : ∀ (k : Nat) (cs : List Nat), cs.length = k → NumText.AllDigits cs → NumText.digitsVal cs < 10 ^ k
  | 0, cs, h, _ => by
    obtain rfl := List.eq_nil_of_length_eq_zero h
    decide
  | k + 1, cs, h, ha => by
    rcases snoc_cases cs with rfl | ⟨a, x, rfl⟩
    · cases h
    · have h1 := dv_lt k a (by simpa using h) fun c hc => ha c (List.mem_append.mpr (.inl hc))
      have h2 := ha x (by simp)
      rw [NumText.digitsVal_snoc, Nat.pow_succ]
      omega
theorem val_bound {w : Str} {k : Nat} (h : figB w = true) (hl : w.length ≤ k) : 0 ≤ valI w ∧ valI w < 10 ^ k := by
  have := dv_lt w.cps.toList.length _ rfl (figB_all h)
  have h3 : 10 ^ w.cps.toList.length ≤ 10 ^ k := Nat.pow_le_pow_right (by decide) (by simpa [Str.length] using hl)
  unfold valI
  refine ⟨by omega, ?_⟩
  exact_mod_cast Nat.lt_of_lt_of_le this h3
theorem val_int {w : Str} (h : figB w = true) (h1 : 1 ≤ w.length) (h2 : w.length ≤ 640) : intText? w = some (valI w) := by
  refine intText_digits (figB_all h) (fun e => ?_) (by omega)
  have : w.cps.toList.length = 0 := by rw [e]; rfl
  simp only [Str.length] at h1
  rw [Array.length_toList] at this
  omega
theorem str_ext {a b : Str} (h : TL.tl a = TL.tl b) : a = b := by
  cases a; cases b
  exact congrArg Str.mk (Array.toList_inj.mp h)
theorem num_tl {n : Int} (h : 0 ≤ n) : TL.tl (Str.ofString (toString n)) = TL.numL n.toNat := by
  obtain ⟨m, rfl⟩ := Int.eq_ofNat_of_zero_le h
  exact TL.tl_num m
theorem num_fig {n : Int} (h : 0 ≤ n) : figB (Str.ofString (toString n)) = true := by
  unfold figB
  have e : (Str.ofString (toString n)).cps.toList = TL.numL n.toNat := num_tl h
  rw [e]
  exact List.all_eq_true.mpr fun c hc => decide_eq_true (TL.numL_digits _ c hc)
theorem num_val {n : Int} (h : 0 ≤ n) : valI (Str.ofString (toString n)) = n := by
  unfold valI
  have e : (Str.ofString (toString n)).cps.toList = TL.numL n.toNat := num_tl h
  rw [e, TL.numL_val]
  omega
theorem num_pos {n : Int} (h : 0 ≤ n) : 1 ≤ (Str.ofString (toString n)).length := by
  have e : (Str.ofString (toString n)).cps.toList = TL.numL n.toNat := num_tl h
  have := congrArg List.length e
  rw [Array.length_toList] at this
  have := List.length_pos_iff.mpr (TL.numL_ne n.toNat)
  simp only [Str.length]
  omega
theorem oIx_inS {z : Str} {i : Int} {P : PyData → Prop} (h0 : 0 ≤ i) (h1 : i < z.length) (h : ∀ c, c ∈ z.cps.toList → P (.str ⟨#[c]⟩)) : oIx (.str z) (.int i) P := by
  obtain ⟨c, hc, hm⟩ := atI_in (xs := z.cps.toList) h0 (by rw [Array.length_toList]; exact h1)
  exact ⟨c, hc, h c hm⟩
theorem str_app_len (a b : Str) : (a ++ b).length = a.length + b.length := Str.length_append a b
end DL

set_option maxRecDepth 100000
set_option maxHeartbeats 4000000
namespace Wy
open PySem DL
def c_KEPT : PyData := .tuple [(.str "ware"), (.str "make"), (.str "struck"), (.str "wants"), (.str "shuts"), (.str "along"), (.str "wish"), (.str "any"), (.str "from"), (.str "below"), (.str "just"), (.str "but"), (.str "or")]
def c_LETTERS : PyData := .str "abcdefghijklmnopqrstuvwxyz"
def c_LONGEST : PyData := .int 8
def t_is_name_1 : DTS := (dRet (wApp fAll (aCons (wComp (iStr (wVar 0)) [1] (gNm 1) tYes (w2 oIn (wVar 1) (wC c_LETTERS))) aNil)))

def t_is_name : DTS := (dSeq (dIf (tOr (tNot (tTru (w1 (oIsi ["str"]) (wVar 0)))) (tOr (tNot (tVal (wChain oLe oLe (wC (.int 1)) (wApp fLen (aCons (wVar 0) aNil)) (wC c_LONGEST)))) (tVal (w2 oIn (wVar 0) (wC c_KEPT)))))
  (dRet (wC (.bool false)))
  dNext)
  t_is_name_1)
def W_is_name : WF := wDef 1 2 t_is_name

def t_law_mixed : DTS := (dSeq (dAsg 3 (wApp fList (aCons (wC (.int 99991)) (aCons (wC (.int 99989)) (aCons (wC (.int 99971)) (aCons (wC (.int 99961)) (aCons (wC (.int 99929)) (aCons (wC (.int 99923)) (aCons (wC (.int 99907)) (aCons (wC (.int 99901)) (aCons (wC (.int 99881)) (aCons (wC (.int 99877)) (aCons (wC (.int 99871)) aNil)))))))))))))
  (dSeq (dAsg 4 (w2 oMod (w2 oMul (w2 oAdd (wVar 0) (w2 oMul (wC (.int 7)) (wVar 1))) (wC (.int 48271))) (w2 oIx (wVar 3) (w2 oMod (wVar 1) (wC (.int 11))))))
  (dRet (w2 oMod (w2 oMod (w2 oAdd (w2 oAdd (w2 oMul (w2 oMul (wVar 4) (wVar 4)) (wC (.int 7))) (wVar 4)) (wVar 1)) (wC (.int 1000003))) (wVar 2)))))
def W_law_mixed : WF := wDef 3 5 t_law_mixed

def t_law_kept : DTS := (dRet (wApp fList (aCons (wC (.str "ware")) (aCons (wC (.str "make")) (aCons (wC (.str "struck")) (aCons (wC (.str "wants")) (aCons (wC (.str "shuts")) (aCons (wC (.str "along")) (aCons (wC (.str "wish")) (aCons (wC (.str "any")) (aCons (wC (.str "from")) (aCons (wC (.str "below")) (aCons (wC (.str "just")) (aCons (wC (.str "but")) (aCons (wC (.str "or")) aNil)))))))))))))))
def W_law_kept : WF := wDefF 0 0 t_law_kept
def t_law_names_1 : DTS := (dAsg 2 (w2 oAdd (wVar 2) (w2 oIx (wC (.str "abcdefghijklmnopqrstuvwxyz")) (wApp W_law_mixed (aCons (wVar 0) (aCons (w2 oAdd (wC (.int 3)) (wVar 3)) (aCons (wC (.int 26)) aNil)))))))
def t_law_names_2 : DTS := (dSeq (dAsg 6 (w2 oIx (wC (.str "abcdefghijklmnopqrstuvwxyz")) (w2 oMod (w2 oAdd (wApp W_law_mixed (aCons (wVar 0) (aCons (wC (.int 10)) (aCons (wC (.int 26)) aNil)))) (w2 oMul (wC (.int 5)) (wVar 3))) (wC (.int 26)))))
  (dSeq (dAsg 7 (w2 oAdd (w2 oAdd (wSlice (wVar 2) oNo (oPart (wVar 4))) (wVar 6)) (wSlice (wVar 2) (oPart (wVar 4)) oNo)))
  (dSeq (dIf (tVal (w2 oIn (wVar 7) (wApp W_law_kept aNil)))
  (dAsg 7 (w2 oAdd (w2 oAdd (wVar 6) (wVar 6)) (wVar 2)))
  dNext)
  (dAppend 5 (wVar 7)))))
def t_law_names_3 : DTS := (dSeq (dAsg 4 (wApp W_law_mixed (aCons (wVar 0) (aCons (wC (.int 9)) (aCons (w2 oAdd (wApp fLen (aCons (wVar 2) aNil)) (wC (.int 1))) aNil)))))
  (dSeq (dAsgM 5 (wApp fList aNil))
  (dSeq (dFor (iRange1 (wC (.int 12))) (gNm 3)
  t_law_names_2)
  (dRet (wApp fSorted (aCons (wMut 5) aNil))))))
def t_law_names_4 : DTS := (dSeq (dAsg 2 (wC (.str "")))
  (dSeq (dFor (iRange1 (wApp W_law_mixed (aCons (wVar 0) (aCons (wC (.int 2)) (aCons (wC (.int 7)) aNil))))) (gNm 3)
  t_law_names_1)
  t_law_names_3))

def t_law_names : DTS := (dSeq (dIf (tVal (w2 oEq (wApp W_law_mixed (aCons (wVar 0) (aCons (wC (.int 1)) (aCons (wC (.int 4)) aNil)))) (wC (.int 1))))
  (dSeq (dAsg 1 (wApp fList (aCons (wC (.str "wares")) (aCons (wC (.str "mak")) (aCons (wC (.str "strucks")) (aCons (wC (.str "want")) (aCons (wC (.str "shut")) (aCons (wC (.str "alongs")) (aCons (wC (.str "wi")) (aCons (wC (.str "an")) (aCons (wC (.str "fro")) (aCons (wC (.str "bellow")) (aCons (wC (.str "justs")) (aCons (wC (.str "butt")) aNil))))))))))))))
  (dRet (wApp fSorted (aCons (wVar 1) aNil))))
  dNext)
  t_law_names_4)
def W_law_names : WF := wDefF 1 8 t_law_names
def t_law_changed_1 : DTS := (dRet (w2 oAdd (w2 oIx (wApp W_law_kept aNil) (wApp W_law_mixed (aCons (wVar 1) (aCons (wC (.int 5)) (aCons (wC (.int 13)) aNil))))) (wSlice (wVar 0) oNo (oPart (wC (.int 1))))))
def t_law_changed_2 : DTS := (dSeq (dIf (tVal (w2 oEq (wVar 5) (wC (.int 5))))
  (dRet (w2 oIx (wApp fList (aCons (wC .none) (aCons (wC (.int 5)) (aCons (wC (.bool true)) (aCons (wApp fTup (aCons (wVar 0) aNil)) (aCons (wApp fList (aCons (wVar 0) aNil)) (aCons (wC (.dict [])) aNil))))))) (wApp W_law_mixed (aCons (wVar 1) (aCons (wC (.int 7)) (aCons (wC (.int 6)) aNil))))))
  dNext)
  t_law_changed_1)
def t_law_changed_3 : DTS := (dSeq (dIf (tVal (w2 oEq (wVar 5) (wC (.int 4))))
  (dRet (w2 oIx (wApp fList (aCons (w1 oUpper (wVar 0)) (aCons (wSlice (wVar 0) oNo (oPart (w1 oNeg (wC (.int 1))))) (aCons (wC (.str "")) aNil)))) (wApp W_law_mixed (aCons (wVar 1) (aCons (wC (.int 6)) (aCons (wC (.int 3)) aNil))))))
  dNext)
  t_law_changed_2)
def t_law_changed_4 : DTS := (dSeq (dIf (tVal (w2 oEq (wVar 5) (wC (.int 3))))
  (dRet (w2 oIx (wApp W_law_kept aNil) (wApp W_law_mixed (aCons (wVar 1) (aCons (wC (.int 5)) (aCons (wC (.int 13)) aNil))))))
  dNext)
  t_law_changed_3)
def t_law_changed_5 : DTS := (dSeq (dIf (tVal (w2 oEq (wVar 5) (wC (.int 2))))
  (dRet (wSlice (w2 oMul (wVar 0) (wC (.int 9))) oNo (oPart (w2 oAdd (wC (.int 8)) (wApp W_law_mixed (aCons (wVar 1) (aCons (wC (.int 4)) (aCons (wC (.int 2)) aNil))))))))
  dNext)
  t_law_changed_4)
def t_law_changed_6 : DTS := (dSeq (dIf (tVal (w2 oEq (wVar 5) (wC (.int 1))))
  (dRet (w2 oAdd (w2 oAdd (wSlice (wVar 0) oNo (oPart (wVar 3))) (wVar 4)) (wSlice (wVar 0) (oPart (w2 oAdd (wVar 3) (wC (.int 1)))) oNo)))
  dNext)
  t_law_changed_5)

def t_law_changed : DTS := (dSeq (dAsg 2 (wC (.str " !\"#$&'()*+,-./0123456789:;<=>?@ABCDEFGHIJKLMNOPQRSTUVWXYZ[\\]^_`abcdefghijklmnopqrstuvwxyz{|}~\n\t")))
  (dSeq (dAsg 3 (wApp W_law_mixed (aCons (wVar 1) (aCons (wC (.int 1)) (aCons (w2 oAdd (wApp fLen (aCons (wVar 0) aNil)) (wC (.int 1))) aNil)))))
  (dSeq (dAsg 4 (w2 oIx (wVar 2) (wApp W_law_mixed (aCons (wVar 1) (aCons (wC (.int 2)) (aCons (wApp fLen (aCons (wVar 2) aNil)) aNil))))))
  (dSeq (dAsg 5 (wApp W_law_mixed (aCons (wVar 1) (aCons (wC (.int 3)) (aCons (wC (.int 7)) aNil)))))
  (dSeq (dIf (tVal (w2 oEq (wVar 5) (wC (.int 0))))
  (dRet (w2 oAdd (w2 oAdd (wSlice (wVar 0) oNo (oPart (wVar 3))) (wVar 4)) (wSlice (wVar 0) (oPart (wVar 3)) oNo)))
  dNext)
  t_law_changed_6)))))
def W_law_changed : WF := wDef 2 6 t_law_changed
def t_law_is_name_1 : DTS := (dRet (wApp fAll (aCons (wComp (iStr (wVar 0)) [1] (gNm 1) tYes (w2 oIn (wVar 1) (wC (.str "abcdefghijklmnopqrstuvwxyz")))) aNil)))

def t_law_is_name : DTS := (dSeq (dIf (tOr (tNot (tTru (w1 (oIsi ["str"]) (wVar 0)))) (tOr (tVal (w2 oLt (wApp fLen (aCons (wVar 0) aNil)) (wC (.int 1)))) (tOr (tVal (w2 oGt (wApp fLen (aCons (wVar 0) aNil)) (wC (.int 8)))) (tVal (w2 oIn (wVar 0) (wApp W_law_kept aNil))))))
  (dRet (wC (.bool false)))
  dNext)
  t_law_is_name_1)
def W_law_is_name : WF := wDef 1 2 t_law_is_name
def t_law_1 : DTS := (dSeq (dAsg 4 (wApp W_is_name (aCons (wVar 3) aNil)))
  (dIf (tOr (tNot (tTru (w1 (oIsi ["bool"]) (wVar 4)))) (tVal (w2 oNe (wVar 4) (wApp W_law_is_name (aCons (wVar 3) aNil)))))
  (dRet (wC (.bool false)))
  dNext))
def t_law_2 : DTS := (dSeq (dAsg 2 (w2 oIx (wApp W_law_names (aCons (w2 oDiv (wVar 1) (wC (.int 5))) aNil)) (wApp W_law_mixed (aCons (wVar 1) (aCons (wC (.int 8)) (aCons (wC (.int 12)) aNil))))))
  (dFor (iSeq (wApp fList (aCons (wVar 2) (aCons (wApp W_law_changed (aCons (wVar 2) (aCons (wVar 1) aNil))) (aCons (wVar 2) aNil))))) (gNm 3)
  t_law_1))

def t_law : DTS := (dSeq (dFor (iSeq (w2 oAdd (wApp fList (aCons (wC (.int 3)) aNil)) (wApp fListOf (aCons (wSlice (wVar 0) oNo (oPart (wC (.int 60)))) aNil)))) (gNm 1)
  t_law_2)
  (dRet (wC (.bool true))))
def W_law : WF := wDef 1 5 t_law
end Wy

set_option maxRecDepth 100000
set_option maxHeartbeats 1000000
namespace Wy
open PySem DL
local macro_rules | `(tactic| walk_at "dl") => `(tactic| try simp only [t_is_name_1, t_law_names_1, t_law_names_2, t_law_names_3, t_law_names_4, t_law_changed_1, t_law_changed_2, t_law_changed_3, t_law_changed_4, t_law_changed_5, t_law_changed_6, t_law_is_name_1, wVar_q, wMut_q, wC_q, w1_q, w2_q, aNil_q, aCons_q, wApp_q, fList_q, fTup_q, tVal_q, tAnd_q, tOr_q, tNot_q, tTru_q, tYes_q, wIf_q, wOr_q, wAnd_q, wNot_q, wChain_q, oPart_q, oNo_q, wSlice_q, wMs_q, iSeq_q, iStr_q, iRange1_q, iRange2_q, gNm_q, gNl_q, gCn_q, gTp_q, wComp_q, dNext_q, dSeq_q, dAsg_q, dAsgM_q, dAsgG_q, dPar_q, dExpr_q, dRet_q, dRetN_q, dBreak_q, dCont_q, dIf_q, dFor_q, dWhile_q, dAppend_q, dPop_q, dSetL_q, dExtL_q, dAug_q, dFrz_q, wDef_q, wDefF_q, oIs_q, oIsNot_q, fTupleOf_q, fListOf_q, startD, frz, wipeD, truD_none, truD_bool, truD_int, truD_str, truD_list, truD_tuple, sliceD_list, sliceD_tuple, sliceD_str, oAdd_tup, oAdd_lst, oAdd_str, fLen_list, fLen_tuple, fLen_str, isNone, List.map_cons, List.map_nil, List.length_cons, List.length_nil, List.cons_append, List.nil_append, List.append_nil, List.getElem?_cons_zero, List.getElem?_cons_succ, List.set_cons_zero, List.set_cons_succ, List.replicate_succ, List.replicate_zero, Nat.reduceSub, Nat.reduceAdd, Nat.sub_self, true_and, Nat.zero_add, oEq_int, oNe_int, oEq_str, oNe_str, oEq_bool, oNe_bool, oEq_tup, oNe_tup, oEq_lst, oNe_lst, oEq_tup0, oEq_tup00, oNe_tup00, oEq_lst00, oNe_lst00, oNe_tup0, oEq_lst0, oNe_lst0, oLt_intq, oLe_intq, oGt_intq, oGe_intq, oNeg_intq, oAdd_intq, oSub_intq, oIx_lastT, oIx_lastL, List.length_map, Bool.not_true, Bool.not_false, decide_true, decide_false])
/-! ### the law's own helpers -/
theorem w_law_mixed (c k m : Int) (hm : 0 < m) (P : PyData → Prop) (h : ∀ r, 0 ≤ r → r < m → P (.int r)) : W_law_mixed [.int c, .int k, .int m] P := by
  unfold W_law_mixed t_law_mixed
  walk_at "dl"
  refine ⟨.inl ⟨by decide, by decide⟩, .inr ⟨by decide, by decide⟩, by decide, ?_⟩
  have h1 := Int.emod_nonneg k (show (11 : Int) ≠ 0 by decide)
  have h2 := Int.emod_lt_of_pos k (show (0 : Int) < 11 by decide)
  obtain ⟨p, hp, hmem⟩ := atI_in (xs := [PyData.int 99991, .int 99989, .int 99971, .int 99961, .int 99929, .int 99923, .int 99907, .int 99901, .int 99881, .int 99877, .int 99871]) (i := k % 11) h1 (by simpa using h2)
  obtain ⟨q, rfl, q1, q2⟩ : ∃ q : Int, p = .int q ∧ 0 < q ∧ q ≤ 100000 := by
    simp only [List.mem_cons, List.not_mem_nil, or_false] at hmem
    rcases hmem with rfl | rfl | rfl | rfl | rfl | rfl | rfl | rfl | rfl | rfl | rfl <;> exact ⟨_, rfl, by decide, by decide⟩
  refine ⟨_, hp, q1, ?_⟩
  generalize (c + 7 * k) * 48271 = z
  have h3 := Int.emod_nonneg z (show q ≠ 0 by omega)
  have h4 := Int.emod_lt_of_pos z q1
  exact ⟨.inl ⟨by omega, by omega⟩, .inr ⟨by decide, by decide⟩, by decide, hm, h _ (Int.emod_nonneg _ (by omega)) (Int.emod_lt_of_pos _ hm)⟩
def low (s : Str) : Prop := ∀ c ∈ s.cps.toList, c < 128
theorem low_append {a b : Str} (ha : low a) (hb : low b) : low (a ++ b) := fun c hc => by
  have e : (a ++ b).cps.toList = a.cps.toList ++ b.cps.toList := Array.toList_append
  rw [e] at hc
  rcases List.mem_append.mp hc with h | h
  · exact ha c h
  · exact hb c h
theorem low_cut {a : Str} (ha : low a) (lo hi : Option Int) : low (L2.cutS a lo hi) := fun c hc => by
  refine ha c ?_
  have h : c ∈ (a.cps.toList.drop (HT.sIx a.length 0 lo)).take (HT.sIx a.length a.length hi - HT.sIx a.length 0 lo) := hc
  exact List.mem_of_mem_drop (List.mem_of_mem_take h)
theorem cut_le (z : Str) (lo hi : Option Int) : (L2.cutS z lo hi).length ≤ z.length := L2.cutS_length z lo hi
theorem one_len (c : Nat) : (Str.mk #[c]).length = 1 := rfl
theorem low_one {c : Nat} (h : c < 128) : low ⟨#[c]⟩ := fun x hx => by
  have : x = c := by simpa using hx
  omega
theorem low_abc : low (Str.ofString "abcdefghijklmnopqrstuvwxyz") := by
  have : (Str.ofString "abcdefghijklmnopqrstuvwxyz").cps.toList.all (· < 128) = true := by decide +kernel
  exact fun c hc => of_decide_eq_true (List.all_eq_true.mp this c hc)
theorem low_of (s : Str) (h : s.cps.toList.all (· < 128) = true) : low s := fun c hc => of_decide_eq_true (List.all_eq_true.mp h c hc)
structure NameOk (s : Str) : Prop where
  len : s.length ≤ 20
  low : low s
theorem sort_strs (ss : List Str) (P : PyData → Prop) (h : ∀ ts : List Str, ts.Perm ss → P (.list (ts.map .str))) : fSorted [.list (ss.map .str)] P := by
  refine ⟨⟨PySem.W.AllAlike.of (enc := PyData.str) fun a b => by simp [PySem.W.alike], PySem.W.Sortable.others (enc := PyData.str) fun b => ⟨nofun, nofun⟩, fun d hd => ?_⟩, ?_⟩
  · obtain ⟨s, _, rfl⟩ := List.mem_map.mp hd
    exact ⟨rfl, by simp [PyData.depth]⟩
  · have e : sortD (ss.map PyData.str) = (ss.mergeSort fun a b => PySem.W.dataLe false id (PyData.str a) (PyData.str b)).map .str := by
      unfold sortD
      exact (List.map_mergeSort (f := PyData.str) (s := PySem.W.dataLe false id) fun a _ b _ => rfl).symm
    rw [e]
    exact h _ (List.mergeSort_perm _ _)
theorem w_law_kept (P : PyData → Prop) (h : P (.list (([Str.ofString "ware", Str.ofString "make", Str.ofString "struck", Str.ofString "wants", Str.ofString "shuts", Str.ofString "along", Str.ofString "wish", Str.ofString "any", Str.ofString "from", Str.ofString "below", Str.ofString "just", Str.ofString "but", Str.ofString "or"] : List Str).map .str))) : W_law_kept [] P := by
  unfold W_law_kept t_law_kept
  walk_at "dl"
  exact h
def keptL : List Str := [Str.ofString "ware", Str.ofString "make", Str.ofString "struck", Str.ofString "wants", Str.ofString "shuts", Str.ofString "along", Str.ofString "wish", Str.ofString "any", Str.ofString "from", Str.ofString "below", Str.ofString "just", Str.ofString "but", Str.ofString "or"]
theorem kept_ok : ∀ s ∈ keptL, NameOk s := by
  have h1 : keptL.all (fun s => decide (s.length ≤ 20) && s.cps.toList.all (· < 128)) = true := by decide +kernel
  intro s hs
  have := List.all_eq_true.mp h1 s hs
  rw [Bool.and_eq_true] at this
  exact ⟨of_decide_eq_true this.1, low_of s this.2⟩
theorem near_ok : ∀ s ∈ [Str.ofString "wares", Str.ofString "mak", Str.ofString "strucks", Str.ofString "want", Str.ofString "shut", Str.ofString "alongs", Str.ofString "wi", Str.ofString "an", Str.ofString "fro", Str.ofString "bellow", Str.ofString "justs", Str.ofString "butt"], NameOk s := by
  have h1 : [Str.ofString "wares", Str.ofString "mak", Str.ofString "strucks", Str.ofString "want", Str.ofString "shut", Str.ofString "alongs", Str.ofString "wi", Str.ofString "an", Str.ofString "fro", Str.ofString "bellow", Str.ofString "justs", Str.ofString "butt"].all (fun s => decide (s.length ≤ 20) && s.cps.toList.all (· < 128)) = true := by decide +kernel
  intro s hs
  have := List.all_eq_true.mp h1 s hs
  rw [Bool.and_eq_true] at this
  exact ⟨of_decide_eq_true this.1, low_of s this.2⟩
theorem oIn_strsL (x : Str) (ss : List Str) (P : PyData → Prop) : oIn (.str x) (.list (ss.map .str)) P = P (.bool (decide (x ∈ ss))) := by
  have fl : Flat (.list (ss.map .str)) := by
    have h1 : noDict.noDicts (ss.map PyData.str) = true := by
      induction ss with
      | nil => rfl
      | cons a l ih => rw [List.map_cons, noDict.noDicts, ih]; rfl
    have h2 : PyData.depthAll (ss.map PyData.str) = 0 := by
      induction ss with
      | nil => simp [PyData.depthAll]
      | cons a l ih => rw [List.map_cons, PyData.depthAll, ih (by
          rw [List.map_cons, noDict.noDicts, Bool.and_eq_true] at h1
          exact h1.2)]; simp [PyData.depth]
    exact ⟨by rw [noDict]; exact h1, by rw [PyData.depth, h2]; decide⟩
  have e : ((ss.map PyData.str).any fun z => PyData.eqv z (.str x)) = decide (x ∈ ss) := by
    rw [List.any_map]
    induction ss with
    | nil => simp
    | cons a l ih =>
      have ih' := ih (by
        obtain ⟨f1, f2⟩ := fl
        refine ⟨?_, ?_⟩
        · rw [noDict, List.map_cons, noDict.noDicts, Bool.and_eq_true] at f1
          rw [noDict]; exact f1.2
        · rw [PyData.depth, List.map_cons, PyData.depthAll] at f2
          rw [PyData.depth]; omega)
      rw [List.any_cons, ih']
      show (PyData.eqv (.str a) (.str x) || _) = _
      rw [eqv_str]
      by_cases h : a = x
      · subst h; simp
      · have h' : ¬ x = a := fun q => h q.symm
        simp [h, h']
  show (Flat _ ∧ Flat _ ∧ _) = _
  rw [e]
  exact prop_of (flat_str x) fl
theorem oIn_strsT (x : Str) (ss : List Str) (P : PyData → Prop) : oIn (.str x) (.tuple (ss.map .str)) P = P (.bool (decide (x ∈ ss))) := (show oIn (.str x) (.tuple (ss.map .str)) P = oIn (.str x) (.list (ss.map .str)) P from rfl).trans (oIn_strsL x ss P)
theorem w_law_names (c : Int) (P : PyData → Prop) (h : ∀ ss : List Str, ss.length = 12 → (∀ s ∈ ss, NameOk s) → P (.list (ss.map .str))) : W_law_names [.int c] P := by
  unfold W_law_names t_law_names
  walk_at "dl"
  refine w_law_mixed _ _ _ (by decide) _ fun r r0 r1 => ?_
  walk_at "dl"
  by_cases e : r = 1
  · rw [decide_eq_true e]
    walk_at "dl"
    exact sort_strs [Str.ofString "wares", Str.ofString "mak", Str.ofString "strucks", Str.ofString "want", Str.ofString "shut", Str.ofString "alongs", Str.ofString "wi", Str.ofString "an", Str.ofString "fro", Str.ofString "bellow", Str.ofString "justs", Str.ofString "butt"] _ fun ts ht => h ts ht.length_eq fun s hs => near_ok s (ht.mem_iff.mp hs)
  · rw [decide_eq_false e]
    walk_at "dl"
    refine w_law_mixed _ _ _ (by decide) _ fun q q0 q1 => ?_
    refine ⟨⟨by omega, by omega⟩, ?_⟩
    refine forD_ix (fun i ρ => ∃ (s : Str) (y3 : Option Sl), ρ = [some (.dat (.int c)), none, some (.dat (.str s)), y3, none, none, none, none] ∧ s.length ≤ i ∧ low s) ⟨_, _, rfl, by decide +kernel, by exact low_of _ (by decide +kernel)⟩ ?_ ?_
    · rintro i x hx ρ N ⟨s, y3, rfl, hl, hs⟩ hN
      obtain ⟨rfl, hi⟩ := range_get hx
      walk_at "dl"
      refine w_law_mixed _ _ _ (by decide) _ fun u u0 u1 => ?_
      refine oIx_inS u0 (by have : (Str.ofString "abcdefghijklmnopqrstuvwxyz").length = 26 := by decide +kernel
                            omega) fun z hz => ?_
      walk_at "dl"
      refine ⟨by rw [one_len, sizeLine_eq]; omega, hN _ ⟨_, _, rfl, by rw [str_app_len, one_len]; omega, low_append hs (low_one (low_abc z hz))⟩⟩
    · rintro ρ ⟨s, y3, rfl, hl, hs⟩
      rw [range_len] at hl
      have hl6 : s.length ≤ 6 := by omega
      walk_at "dl"
      refine w_law_mixed _ _ _ (by omega) _ fun v v0 v1 => ?_
      refine ⟨⟨by decide, by decide⟩, ?_⟩
      refine forD_ix (fun i ρ => ∃ (ss : List Str) (y3 y6 y7 : Option Sl), ρ = [some (.dat (.int c)), none, some (.dat (.str s)), y3, some (.dat (.int v)), some (.own (.list (ss.map .str))), y6, y7] ∧ ss.length = i ∧ ∀ t ∈ ss, NameOk t) ⟨[], _, _, _, rfl, rfl, fun _ h => nomatch h⟩ ?_ ?_
      · rintro i x hx ρ N ⟨ss, y3, y6, y7, rfl, hsl, hss⟩ hN
        obtain ⟨rfl, hi⟩ := range_get hx
        walk_at "dl"
        refine w_law_mixed _ _ _ (by decide) _ fun a a0 a1 => ?_
        refine ⟨.inl ⟨by decide, by decide⟩, ?_⟩
        walk_at "dl"
        refine ⟨by decide, ?_⟩
        have m0 := Int.emod_nonneg (a + 5 * (0 + (i : Int))) (show (26 : Int) ≠ 0 by decide)
        have m1 := Int.emod_lt_of_pos (a + 5 * (0 + (i : Int))) (show (0 : Int) < 26 by decide)
        refine oIx_inS m0 (by have : (Str.ofString "abcdefghijklmnopqrstuvwxyz").length = 26 := by decide +kernel
                              omega) fun z hz => ?_
        have hz1 := low_one (low_abc z hz)
        have k1 := cut_le s none (some v)
        have k2 := cut_le s (some v) none
        walk_at "dl"
        rw [sizeLine_eq]
        have l1 := one_len z
        refine ⟨by omega, by rw [str_app_len]; omega, w_law_kept _ ?_⟩
        rw [oIn_strsL]
        by_cases hin : (L2.cutS s none (some v) ++ ⟨#[z]⟩ ++ L2.cutS s (some v) none) ∈ keptL
        · rw [show decide (_ ∈ ([_, _, _, _, _, _, _, _, _, _, _, _, _] : List Str)) = true from decide_eq_true hin]
          walk_at "dl"
          refine ⟨by omega, by rw [str_app_len]; omega, by omega, hN _ ⟨ss ++ [⟨#[z]⟩ ++ ⟨#[z]⟩ ++ s], _, _, _, by rw [List.map_append]; rfl, by rw [List.length_append]; simp; omega, fun t ht => ?_⟩⟩
          rcases List.mem_append.mp ht with q | q
          · exact hss t q
          · rw [List.mem_singleton.mp q]
            exact ⟨by simp only [str_app_len]; omega, low_append (low_append hz1 hz1) hs⟩
        · rw [show decide (_ ∈ ([_, _, _, _, _, _, _, _, _, _, _, _, _] : List Str)) = false from decide_eq_false hin]
          walk_at "dl"
          refine ⟨by omega, hN _ ⟨ss ++ [L2.cutS s none (some v) ++ ⟨#[z]⟩ ++ L2.cutS s (some v) none], _, _, _, by rw [List.map_append]; rfl, by rw [List.length_append]; simp; omega, fun t ht => ?_⟩⟩
          rcases List.mem_append.mp ht with q | q
          · exact hss t q
          · rw [List.mem_singleton.mp q]
            exact ⟨by simp only [str_app_len]; omega, low_append (low_append (low_cut hs _ _) hz1) (low_cut hs _ _)⟩
      · rintro ρ ⟨ss, y3, y6, y7, rfl, hsl, hss⟩
        rw [range_len] at hsl
        walk_at "dl"
        exact sort_strs ss _ fun ts ht => h ts (by rw [ht.length_eq, hsl]; rfl) fun s hs => hss s (ht.mem_iff.mp hs)
theorem upper_ok {s : Str} (h : NameOk s) (P : PyData → Prop) (p : P (.str (Txt.upper s))) : oUpper (.str s) P := by
  have e := PyProof.Rows.upper_ascii (x := s) h.low
  have hl := h.len
  refine ⟨⟨by omega, ?_, ?_⟩, p⟩
  · rw [e]
    unfold PyData.strOk
    rw [Array.all_eq_true']
    intro c hc
    obtain ⟨d, hd, rfl⟩ := Array.mem_map.mp hc
    have := h.low d (by simpa using hd)
    unfold PyProof.Rows.up1
    split <;> exact decide_eq_true (by omega)
  · rw [e, sizeLine_eq]
    show (s.cps.map _).size ≤ _
    rw [Array.size_map]
    have : s.cps.size = s.length := rfl
    omega
theorem w_law_changed (s : Str) (hs : NameOk s) (c : Int) (P : PyData → Prop) (h : ∀ d, P d) : W_law_changed [.str s, .int c] P := by
  unfold W_law_changed t_law_changed
  have hl := hs.len
  walk_at "dl"
  refine w_law_mixed _ _ _ (by omega) _ fun r r0 r1 => w_law_mixed _ _ _ (by decide +kernel) _ fun q q0 q1 => oIx_inS q0 q1 fun z hz => ?_
  refine w_law_mixed _ _ _ (by decide) _ fun x x0 x1 => ?_
  have k1 := cut_le s none (some r)
  have k2 := cut_le s (some r) none
  have k3 := cut_le s (some (r + 1)) none
  have k4 := cut_le s none (some 1)
  have l1 := one_len z
  walk_at "dl"
  simp only [sizeLine_eq, str_app_len]
  by_cases e0 : x = 0
  · rw [decide_eq_true e0]
    exact ⟨by omega, by omega, h _⟩
  · rw [decide_eq_false e0]
    walk_at "dl"
    by_cases e1 : x = 1
    · rw [decide_eq_true e1]
      exact ⟨by omega, by omega, h _⟩
    · rw [decide_eq_false e1]
      walk_at "dl"
      by_cases e2 : x = 2
      · rw [decide_eq_true e2]
        refine ⟨⟨by decide, by decide, by omega⟩, ?_⟩
        walk_at "dl"
        exact w_law_mixed _ _ _ (by decide) _ fun _ _ _ => h _
      · rw [decide_eq_false e2]
        walk_at "dl"
        by_cases e3 : x = 3
        · rw [decide_eq_true e3]
          refine w_law_kept _ (w_law_mixed _ _ _ (by decide) _ fun i i0 i1 => oIx_inL i0 (by simpa using i1) fun z _ => h z)
        · rw [decide_eq_false e3]
          walk_at "dl"
          by_cases e4 : x = 4
          · rw [decide_eq_true e4]
            refine upper_ok hs _ ?_
            walk_at "dl"
            exact w_law_mixed _ _ _ (by decide) _ fun i i0 i1 => oIx_inL i0 (by simpa using i1) fun z _ => h z
          · rw [decide_eq_false e4]
            walk_at "dl"
            by_cases e5 : x = 5
            · rw [decide_eq_true e5]
              exact w_law_mixed _ _ _ (by decide) _ fun i i0 i1 => oIx_inL i0 (by simpa using i1) fun z _ => h z
            · rw [decide_eq_false e5]
              refine w_law_kept _ (w_law_mixed _ _ _ (by decide) _ fun i i0 i1 => oIx_inL i0 (by simpa using i1) fun z hz => ?_)
              obtain ⟨t, ht, rfl⟩ := List.mem_map.mp hz
              have := (kept_ok t ht).len
              exact ⟨by rw [sizeLine_eq]; omega, h _⟩
def letB (s : Str) : Bool := s.cps.toList.all fun c => decide (c ∈ (Str.ofString "abcdefghijklmnopqrstuvwxyz").cps.toList)
def nameB : PyData → Bool
  | .str s => decide (1 ≤ s.length) && decide (s.length ≤ 8) && !decide (s ∈ keptL) && letB s
  | _ => false
theorem nameB_str (s : Str) : nameB (.str s) = (decide (1 ≤ s.length) && decide (s.length ≤ 8) && !decide (s ∈ keptL) && letB s) := rfl
theorem letters (s : Str) (P : PyData → Prop) (h : P (.bool (letB s))) : compD (gNm 1) tYes (w2 oIn (wVar 1) (wC (.str (Str.ofString "abcdefghijklmnopqrstuvwxyz")))) [some (.dat (.str s)), none] (s.cps.toList.map fun c => .str ⟨#[c]⟩) (fun ys => fAll [.list ys] P) := by
  refine compD_mapE (fun c : Nat => .str ⟨#[c]⟩) (fun c => .bool (decide (c ∈ (Str.ofString "abcdefghijklmnopqrstuvwxyz").cps.toList))) (fun c hc K1 K2 hk => ?_) ?_
  · walk_at "dl"
    rw [oIn_one]
    exact hk
  · refine ⟨_, bools_map (fun c => decide (c ∈ (Str.ofString "abcdefghijklmnopqrstuvwxyz").cps.toList)) _, ?_⟩
    rw [List.all_map]
    exact h
theorem w_is_name (d : PyData) (P : PyData → Prop) (h : P (.bool (nameB d))) : W_is_name [d] P := by
  unfold W_is_name t_is_name
  walk_at "dl"
  cases d with
  | str s =>
    simp only [oIsi, isTy, List.any_cons, List.any_nil, Bool.or_false, truD_bool, c_LONGEST, c_LETTERS]
    walk_at "dl"
    rw [nameB_str] at h
    by_cases h1 : (1 : Int) ≤ s.length
    · rw [decide_eq_true h1]
      walk_at "dl"
      by_cases h2 : (s.length : Int) ≤ 8
      · rw [decide_eq_true h2]
        rw [decide_eq_true (p := 1 ≤ s.length) (by omega), decide_eq_true (p := s.length ≤ 8) (by omega), Bool.true_and, Bool.true_and] at h
        walk_at "dl"
        rw [show c_KEPT = .tuple (keptL.map .str) from rfl, oIn_strsT]
        by_cases h3 : s ∈ keptL
        · rw [decide_eq_true h3] at h ⊢
          exact h
        · rw [decide_eq_false h3] at h ⊢
          walk_at "dl"
          exact letters s _ h
      · rw [decide_eq_false h2]
        rw [decide_eq_false (p := s.length ≤ 8) (by omega), Bool.and_false, Bool.false_and, Bool.false_and] at h
        exact h
    · rw [decide_eq_false h1]
      rw [decide_eq_false (p := 1 ≤ s.length) (by omega), Bool.false_and, Bool.false_and, Bool.false_and] at h
      exact h
  | _ => simpa [oIsi, isTy, truD, nameB] using h
theorem w_law_is_name (d : PyData) (P : PyData → Prop) (h : P (.bool (nameB d))) : W_law_is_name [d] P := by
  unfold W_law_is_name t_law_is_name
  walk_at "dl"
  cases d with
  | str s =>
    simp only [oIsi, isTy, List.any_cons, List.any_nil, Bool.or_false, truD_bool]
    walk_at "dl"
    rw [nameB_str] at h
    by_cases h1 : (s.length : Int) < 1
    · rw [decide_eq_true h1]
      rw [decide_eq_false (p := 1 ≤ s.length) (by omega), Bool.false_and, Bool.false_and, Bool.false_and] at h
      exact h
    · rw [decide_eq_false h1]
      walk_at "dl"
      by_cases h2 : (8 : Int) < s.length
      · rw [decide_eq_true h2]
        rw [decide_eq_false (p := s.length ≤ 8) (by omega), Bool.and_false, Bool.false_and, Bool.false_and] at h
        exact h
      · rw [decide_eq_false h2]
        rw [decide_eq_true (p := 1 ≤ s.length) (by omega), decide_eq_true (p := s.length ≤ 8) (by omega), Bool.true_and, Bool.true_and] at h
        walk_at "dl"
        refine w_law_kept _ ?_
        rw [oIn_strsL]
        by_cases h3 : s ∈ keptL
        · rw [decide_eq_true h3] at h
          rw [show decide (_ ∈ ([_, _, _, _, _, _, _, _, _, _, _, _, _] : List Str)) = true from decide_eq_true h3]
          exact h
        · rw [decide_eq_false h3] at h
          rw [show decide (_ ∈ ([_, _, _, _, _, _, _, _, _, _, _, _, _] : List Str)) = false from decide_eq_false h3]
          walk_at "dl"
          exact letters s _ h
  | _ => simpa [oIsi, isTy, truD, nameB] using h
theorem law_ok : ∀ ns : List Int, ns.length ≤ 63 → W_law [.list (ns.map PyData.int)] (fun d => d = .bool true) := by
  intro ns hn
  unfold W_law t_law
  walk_at "dl"
  have hc : (cutD (ns.map PyData.int) none (some 60)).length ≤ 63 := by
    unfold cutD
    rw [List.length_take, List.length_drop, List.length_map]
    omega
  refine ⟨by rw [sizeLine_eq]; omega, ?_⟩
  refine forD_inv (fun ρ => ∃ y1 y2 y3 y4, ρ = [some (.dat (.list (ns.map .int))), y1, y2, y3, y4]) ⟨_, _, _, _, rfl⟩ ?_ ?_
  · rintro x hx ρ N ⟨y1, y2, y3, y4, rfl⟩ hN
    obtain ⟨c, rfl⟩ : ∃ c : Int, x = .int c := by
      rcases List.mem_cons.mp hx with h | h
      · exact ⟨_, h⟩
      · obtain ⟨i, -, h⟩ := List.mem_map.mp (List.mem_of_mem_drop (List.mem_of_mem_take h))
        exact ⟨i, h.symm⟩
    unfold t_law_2
    walk_at "dl"
    refine ⟨by decide, w_law_names _ _ fun ss hl hss => w_law_mixed _ _ _ (by decide) _ fun r r0 r1 => ?_⟩
    refine oIx_inL r0 (by rw [List.length_map, hl]; exact r1) fun v hv => ?_
    obtain ⟨s, hs, rfl⟩ := List.mem_map.mp hv
    walk_at "dl"
    refine w_law_changed s (hss s hs) _ _ fun d => ?_
    refine forD_inv (fun ρ => ∃ y3 y4, ρ = [some (.dat (.list (ns.map .int))), some (.dat (.int c)), some (.dat (.str s)), y3, y4]) ⟨_, _, rfl⟩ ?_ ?_
    · rintro x - ρ N ⟨y3, y4, rfl⟩ hN
      unfold t_law_1
      walk_at "dl"
      refine w_is_name x _ ?_
      simp only [oIsi, isTy, truD_bool, List.any_cons, List.any_nil, Bool.or_false]
      walk_at "dl"
      refine w_law_is_name x _ ?_
      walk_at "dl"
      exact hN _ ⟨_, _, rfl⟩
    · rintro ρ ⟨y3, y4, rfl⟩
      exact hN _ ⟨_, _, _, _, rfl⟩
  · rintro ρ ⟨y1, y2, y3, y4, rfl⟩
    exact rfl
end Wy

set_option maxRecDepth 100000
set_option maxHeartbeats 4000000
namespace Wy
open PySem PySem.Spec PyProof.Rows L2 DL
def topS (i : Nat) : Stmt := PySem.Challenge.pw_wishyard_k10_names.main.body.getD i (.Pass ⟨0, 0, 0, 0⟩)
structure Fx (κ : Kit) (mg : Str → Option Value) : Prop where
  n_all : mg "all" = none
  n_bool : mg "bool" = none
  n_isinstance : mg "isinstance" = none
  n_len : mg "len" = none
  n_list : mg "list" = none
  n_range : mg "range" = none
  n_sorted : mg "sorted" = none
  n_str : mg "str" = none
  c_KEPT : GC κ mg "KEPT" c_KEPT
  c_LETTERS : GC κ mg "LETTERS" c_LETTERS
  c_LONGEST : GC κ mg "LONGEST" c_LONGEST
abbrev s_is_name : Stmt := topS 4
theorem sc_is_name : FnScope ["thing", "sign"] ["thing"] (defScope s_is_name) := ⟨rfl, rfl, rfl, by decide +kernel, rfl, by decide +kernel, by decide +kernel⟩
abbrev s_law_mixed : Stmt := topS 6
theorem sc_law_mixed : FnScope ["_law_cell", "_law_k", "_law_many", "_law_some", "_law_made"] ["_law_cell", "_law_k", "_law_many"] (defScope s_law_mixed) := ⟨rfl, rfl, rfl, by decide +kernel, rfl, by decide +kernel, by decide +kernel⟩
abbrev s_law_kept : Stmt := topS 7
theorem sc_law_kept : FnScope [] [] (defScope s_law_kept) := ⟨rfl, rfl, rfl, by decide +kernel, rfl, by decide +kernel, by decide +kernel⟩
abbrev s_law_names : Stmt := topS 8
theorem sc_law_names : FnScope ["_law_cell", "_law_near", "_law_root", "_law_k", "_law_at", "_law_found", "_law_letter", "_law_name"] ["_law_cell"] (defScope s_law_names) := ⟨rfl, rfl, rfl, by decide +kernel, rfl, by decide +kernel, by decide +kernel⟩
abbrev s_law_changed : Stmt := topS 9
theorem sc_law_changed : FnScope ["_law_name", "_law_cell", "_law_pool", "_law_spot", "_law_sign", "_law_way"] ["_law_name", "_law_cell"] (defScope s_law_changed) := ⟨rfl, rfl, rfl, by decide +kernel, rfl, by decide +kernel, by decide +kernel⟩
abbrev s_law_is_name : Stmt := topS 10
theorem sc_law_is_name : FnScope ["_law_thing", "_law_sign"] ["_law_thing"] (defScope s_law_is_name) := ⟨rfl, rfl, rfl, by decide +kernel, rfl, by decide +kernel, by decide +kernel⟩
abbrev s_law : Stmt := topS 11
theorem sc_law : FnScope ["_law_script", "_law_cell", "_law_name", "_law_thing", "_law_found"] ["_law_script"] (defScope s_law) := ⟨rfl, rfl, rfl, by decide +kernel, rfl, by decide +kernel, by decide +kernel⟩
section
variable {P : Program} {w : World} {K : PySem.W.Frag} {mg : Str → Option Value} {base : Heap}
theorem own_is_name {f : Addr} {fd : FuncData} (F : Fx ⟨K, P, w⟩ mg) (G : Fun K "is_name" "is_name" s_is_name f fd) (hm : mg "is_name" = some (.ref f)) (hb : Binds K fd ["thing"] []) : Own P w K mg base "is_name" .E 1 1 W_is_name := by
  have hN := sc_is_name.nd
  exact own_of (j := 0) (td := t_is_name) G sc_is_name hm hb fun cdv A outer s H E hr => (ds_cons (ds_if (DW.dt (dw_or (dt_not (dt_tru (dx_isi (T := "str") (dv 0) F.n_isinstance F.n_str))) (dw_or (dt_not (dt_chain x_le x_le dx_int (dx_callB x_len F.n_len (db_cons (dv 0) db_nil)) (dx_con F.c_LONGEST))) (dw_or1 (dt_cmp (x_in (hu65 hr)) (dv 0) (dx_con F.c_KEPT))))))
  (ds_one (ds_ret dx_bl))
  ds_nil)
  (ds_one (ds_ret (dx_callB (x_all rfl) F.n_all (db_cons (dx_comp rfl hN (own := [("sign", 1)]) (di_str (dv 0)) (by first | decide +kernel | rfl) (by intro _ _ _ _ _; exact (dg_nm 1 hN)) (by intro _ _ _ _ _; exact dts_nil) (by intro _ _ _ _ _; exact (dx_cmp (x_in (hu65 hr)) (dv 1) (dx_con F.c_LETTERS)))) db_nil)))))
theorem own_law_mixed {f : Addr} {fd : FuncData} (F : Fx ⟨K, P, w⟩ mg) (G : Fun K "_law_mixed" "_law_mixed" s_law_mixed f fd) (hm : mg "_law_mixed" = some (.ref f)) (hb : Binds K fd ["_law_cell", "_law_k", "_law_many"] []) : Own P w K mg base "_law_mixed" .E 3 1 W_law_mixed := by
  have hN := sc_law_mixed.nd
  exact own_of (j := 0) (td := t_law_mixed) G sc_law_mixed hm hb fun cdv A outer s H E hr => (ds_cons (ds_set hN (dx_lst (da_cons dx_int (da_cons dx_int (da_cons dx_int (da_cons dx_int (da_cons dx_int (da_cons dx_int (da_cons dx_int (da_cons dx_int (da_cons dx_int (da_cons dx_int (da_cons dx_int da_nil)))))))))))))
  (ds_cons (ds_set hN (dx_bin x_mod (dx_bin x_mul (dx_bin x_add (dv 0) (dx_bin x_mul dx_int (dv 1))) dx_int) (dx_ix (dv 3) (dx_bin x_mod (dv 1) dx_int))))
  (ds_one (ds_ret (dx_bin x_mod (dx_bin x_mod (dx_bin x_add (dx_bin x_add (dx_bin x_mul (dx_bin x_mul (dv 4) (dv 4)) dx_int) (dv 4)) (dv 1)) dx_int) (dv 2))))))
theorem own_law_kept {f : Addr} {fd : FuncData} (F : Fx ⟨K, P, w⟩ mg) (G : Fun K "_law_kept" "_law_kept" s_law_kept f fd) (hm : mg "_law_kept" = some (.ref f)) (hb : Binds K fd [] []) : Own P w K mg base "_law_kept" .F 0 1 W_law_kept := by
  have hN := sc_law_kept.nd
  exact own_ofF (j := 0) (td := t_law_kept) G sc_law_kept hm hb fun cdv A outer s H E hr => (ds_one (ds_ret (dx_lst (da_cons dx_str (da_cons dx_str (da_cons dx_str (da_cons dx_str (da_cons dx_str (da_cons dx_str (da_cons dx_str (da_cons dx_str (da_cons dx_str (da_cons dx_str (da_cons dx_str (da_cons dx_str (da_cons dx_str da_nil))))))))))))))))
theorem own_law_names {f : Addr} {fd : FuncData} (F : Fx ⟨K, P, w⟩ mg) (G : Fun K "_law_names" "_law_names" s_law_names f fd) (hm : mg "_law_names" = some (.ref f)) (hb : Binds K fd ["_law_cell"] []) (O_law_kept : Own P w K mg base "_law_kept" .F 0 1 W_law_kept) (O_law_mixed : Own P w K mg base "_law_mixed" .E 3 1 W_law_mixed) : Own P w K mg base "_law_names" .F 1 2 W_law_names := by
  have hN := sc_law_names.nd
  exact own_ofF (j := 1) (td := t_law_names) G sc_law_names hm hb fun cdv A outer s H E hr => (ds_cons (ds_if (dt_cmp (x_eq hr.units) (dx_call O_law_mixed (hr.mono (by decide)) (da_cons (dv 0) (da_cons dx_int (da_cons dx_int da_nil)))) dx_int)
  (ds_cons (ds_set hN (dx_lst (da_cons dx_str (da_cons dx_str (da_cons dx_str (da_cons dx_str (da_cons dx_str (da_cons dx_str (da_cons dx_str (da_cons dx_str (da_cons dx_str (da_cons dx_str (da_cons dx_str (da_cons dx_str da_nil))))))))))))))
  (ds_one (ds_ret (dx_callB (x_sorted (hu65 hr)) F.n_sorted (db_cons (dv 1) db_nil)))))
  ds_nil)
  (ds_cons (ds_set hN dx_str)
  (ds_cons (ds_for rfl (di_range1 (dx_call O_law_mixed (hr.mono (by decide)) (da_cons (dv 0) (da_cons dx_int (da_cons dx_int da_nil)))) F.n_range) (dg_nm 3 hN) (ds_one (ds_set hN (dx_bin x_add (dv 2) (dx_ix dx_str (dx_call O_law_mixed (hr.mono (by decide)) (da_cons (dv 0) (da_cons (dx_bin x_add dx_int (dv 3)) (da_cons dx_int da_nil)))))))))
  (ds_cons (ds_set hN (dx_call O_law_mixed (hr.mono (by decide)) (da_cons (dv 0) (da_cons dx_int (da_cons (dx_bin x_add (dx_callB x_len F.n_len (db_cons (dv 2) db_nil)) dx_int) da_nil)))))
  (ds_cons (ds_setM hN (dx_lst da_nil))
  (ds_cons (ds_for rfl (di_range1 dx_int F.n_range) (dg_nm 3 hN) (ds_cons (ds_set hN (dx_ix dx_str (dx_bin x_mod (dx_bin x_add (dx_call O_law_mixed (hr.mono (by decide)) (da_cons (dv 0) (da_cons dx_int (da_cons dx_int da_nil)))) (dx_bin x_mul dx_int (dv 3))) dx_int)))
  (ds_cons (ds_set hN (dx_bin x_add (dx_bin x_add (dx_slice (dv 2) do_no (do_some (dv 4))) (dv 6)) (dx_slice (dv 2) (do_some (dv 4)) do_no)))
  (ds_cons (ds_if (dt_cmp (x_in (hu65 hr)) (dv 7) (dx_call0 O_law_kept (hr.mono (by decide))))
  (ds_one (ds_set hN (dx_bin x_add (dx_bin x_add (dv 6) (dv 6)) (dv 2))))
  ds_nil)
  (ds_one (ds_append 5 (dv 7)))))))
  (ds_one (ds_ret (dx_callB (x_sorted (hu65 hr)) F.n_sorted (db_cons (dvm 5) db_nil))))))))))
theorem own_law_changed {f : Addr} {fd : FuncData} (F : Fx ⟨K, P, w⟩ mg) (G : Fun K "_law_changed" "_law_changed" s_law_changed f fd) (hm : mg "_law_changed" = some (.ref f)) (hb : Binds K fd ["_law_name", "_law_cell"] []) (O_law_kept : Own P w K mg base "_law_kept" .F 0 1 W_law_kept) (O_law_mixed : Own P w K mg base "_law_mixed" .E 3 1 W_law_mixed) : Own P w K mg base "_law_changed" .E 2 2 W_law_changed := by
  have hN := sc_law_changed.nd
  exact own_of (j := 1) (td := t_law_changed) G sc_law_changed hm hb fun cdv A outer s H E hr => (ds_cons (ds_set hN dx_str)
  (ds_cons (ds_set hN (dx_call O_law_mixed (hr.mono (by decide)) (da_cons (dv 1) (da_cons dx_int (da_cons (dx_bin x_add (dx_callB x_len F.n_len (db_cons (dv 0) db_nil)) dx_int) da_nil)))))
  (ds_cons (ds_set hN (dx_ix (dv 2) (dx_call O_law_mixed (hr.mono (by decide)) (da_cons (dv 1) (da_cons dx_int (da_cons (dx_callB x_len F.n_len (db_cons (dv 2) db_nil)) da_nil))))))
  (ds_cons (ds_set hN (dx_call O_law_mixed (hr.mono (by decide)) (da_cons (dv 1) (da_cons dx_int (da_cons dx_int da_nil)))))
  (ds_cons (ds_if (dt_cmp (x_eq hr.units) (dv 5) dx_int)
  (ds_one (ds_ret (dx_bin x_add (dx_bin x_add (dx_slice (dv 0) do_no (do_some (dv 3))) (dv 4)) (dx_slice (dv 0) (do_some (dv 3)) do_no))))
  ds_nil)
  (ds_cons (ds_if (dt_cmp (x_eq hr.units) (dv 5) dx_int)
  (ds_one (ds_ret (dx_bin x_add (dx_bin x_add (dx_slice (dv 0) do_no (do_some (dv 3))) (dv 4)) (dx_slice (dv 0) (do_some (dx_bin x_add (dv 3) dx_int)) do_no))))
  ds_nil)
  (ds_cons (ds_if (dt_cmp (x_eq hr.units) (dv 5) dx_int)
  (ds_one (ds_ret (dx_slice (dx_bin x_mul (dv 0) dx_int) do_no (do_some (dx_bin x_add dx_int (dx_call O_law_mixed (hr.mono (by decide)) (da_cons (dv 1) (da_cons dx_int (da_cons dx_int da_nil)))))))))
  ds_nil)
  (ds_cons (ds_if (dt_cmp (x_eq hr.units) (dv 5) dx_int)
  (ds_one (ds_ret (dx_ix (dx_call0 O_law_kept (hr.mono (by decide))) (dx_call O_law_mixed (hr.mono (by decide)) (da_cons (dv 1) (da_cons dx_int (da_cons dx_int da_nil)))))))
  ds_nil)
  (ds_cons (ds_if (dt_cmp (x_eq hr.units) (dv 5) dx_int)
  (ds_one (ds_ret (dx_ix (dx_lst (da_cons (dx_upper (dv 0)) (da_cons (dx_slice (dv 0) do_no (do_some (dx_un x_neg dx_int))) (da_cons dx_str da_nil)))) (dx_call O_law_mixed (hr.mono (by decide)) (da_cons (dv 1) (da_cons dx_int (da_cons dx_int da_nil)))))))
  ds_nil)
  (ds_cons (ds_if (dt_cmp (x_eq hr.units) (dv 5) dx_int)
  (ds_one (ds_ret (dx_ix (dx_lst (da_cons dx_non (da_cons dx_int (da_cons dx_bl (da_cons (dx_tup (da_cons (dv 0) da_nil)) (da_cons (dx_lst (da_cons (dv 0) da_nil)) (da_cons dx_dict0 da_nil))))))) (dx_call O_law_mixed (hr.mono (by decide)) (da_cons (dv 1) (da_cons dx_int (da_cons dx_int da_nil)))))))
  ds_nil)
  (ds_one (ds_ret (dx_bin x_add (dx_ix (dx_call0 O_law_kept (hr.mono (by decide))) (dx_call O_law_mixed (hr.mono (by decide)) (da_cons (dv 1) (da_cons dx_int (da_cons dx_int da_nil))))) (dx_slice (dv 0) do_no (do_some dx_int)))))))))))))))
theorem own_law_is_name {f : Addr} {fd : FuncData} (F : Fx ⟨K, P, w⟩ mg) (G : Fun K "_law_is_name" "_law_is_name" s_law_is_name f fd) (hm : mg "_law_is_name" = some (.ref f)) (hb : Binds K fd ["_law_thing"] []) (O_law_kept : Own P w K mg base "_law_kept" .F 0 1 W_law_kept) : Own P w K mg base "_law_is_name" .E 1 2 W_law_is_name := by
  have hN := sc_law_is_name.nd
  exact own_of (j := 1) (td := t_law_is_name) G sc_law_is_name hm hb fun cdv A outer s H E hr => (ds_cons (ds_if (DW.dt (dw_or (dt_not (dt_tru (dx_isi (T := "str") (dv 0) F.n_isinstance F.n_str))) (dw_or (dt_cmp (x_lt hr.units) (dx_callB x_len F.n_len (db_cons (dv 0) db_nil)) dx_int) (dw_or (dt_cmp x_gt (dx_callB x_len F.n_len (db_cons (dv 0) db_nil)) dx_int) (dw_or1 (dt_cmp (x_in (hu65 hr)) (dv 0) (dx_call0 O_law_kept (hr.mono (by decide)))))))))
  (ds_one (ds_ret dx_bl))
  ds_nil)
  (ds_one (ds_ret (dx_callB (x_all rfl) F.n_all (db_cons (dx_comp rfl hN (own := [("_law_sign", 1)]) (di_str (dv 0)) (by first | decide +kernel | rfl) (by intro _ _ _ _ _; exact (dg_nm 1 hN)) (by intro _ _ _ _ _; exact dts_nil) (by intro _ _ _ _ _; exact (dx_cmp (x_in (hu65 hr)) (dv 1) dx_str))) db_nil)))))
theorem fn_law {f : Addr} {fd : FuncData} (F : Fx ⟨K, P, w⟩ mg) (G : Fun K "law" "law" s_law f fd) (O_law_changed : Own P w K mg base "_law_changed" .E 2 2 W_law_changed) (O_law_is_name : Own P w K mg base "_law_is_name" .E 1 2 W_law_is_name) (O_law_mixed : Own P w K mg base "_law_mixed" .E 3 1 W_law_mixed) (O_law_names : Own P w K mg base "_law_names" .F 1 2 W_law_names) (O_is_name : Own P w K mg base "is_name" .E 1 1 W_is_name) : FnOk P w K mg base CX0 3 f fd ["_law_script"] (spW ⟨K, P, w⟩ .E 1 W_law) := by
  have hN := sc_law.nd
  exact fn_ofD (j := 2) (td := t_law) G sc_law fun cdv A outer s H E hr => (ds_cons (ds_for rfl (di_seq (dx_bin x_add (dx_lst (da_cons dx_int da_nil)) (dx_callTy x_listOf F.n_list (db_cons (dx_slice (dv 0) do_no (do_some dx_int)) db_nil)))) (dg_nm 1 hN) (ds_cons (ds_set hN (dx_ix (dx_call O_law_names (hr.mono (by decide)) (da_cons (dx_bin x_div (dv 1) dx_int) da_nil)) (dx_call O_law_mixed (hr.mono (by decide)) (da_cons (dv 1) (da_cons dx_int (da_cons dx_int da_nil))))))
  (ds_one (ds_for rfl (di_seq (dx_lst (da_cons (dv 2) (da_cons (dx_call O_law_changed (hr.mono (by decide)) (da_cons (dv 2) (da_cons (dv 1) da_nil))) (da_cons (dv 2) da_nil))))) (dg_nm 3 hN) (ds_cons (ds_set hN (dx_call O_is_name (hr.mono (by decide)) (da_cons (dv 3) da_nil)))
  (ds_one (ds_if (DW.dt (dw_or (dt_not (dt_tru (dx_isi (T := "bool") (dv 4) F.n_isinstance F.n_bool))) (dw_or1 (dt_cmp (x_ne hr.units) (dv 4) (dx_call O_law_is_name (hr.mono (by decide)) (da_cons (dv 3) da_nil))))))
  (ds_one (ds_ret dx_bl))
  ds_nil)))))))
  (ds_one (ds_ret dx_bl)))
end
/-! ### what the top has written -/
theorem all_mk {l : PySem.W.OpenLaw} {w : World} {K : PySem.W.Frag} {h : Heap} {mg : Str → Option Value} {fa : Addr}
    (X : K.In h) (G : h.Ns mainGlobals mg) (hfa : mg "law" = some (.ref fa))
    {f0 : Addr} {od0 an0 : Option Addr} {sl0 : Array (Option Value)} {oc0 kV0 dc0 pm0 cd0 ct0 : Value}
    (a0 : PySem.W.nsIn K mainGlobals "is_name" = some (some (.ref f0)))
    (l0 : K.lookup f0 = some ⟨oc0, od0, .func (PySem.W.fnOf "is_name" "is_name" (defArgs s_is_name) (defBody s_is_name) (defScope s_is_name) .none kV0 dc0 pm0 an0 cd0 ct0), sl0⟩)
    (c0 : PySem.W.codeIn K cd0 "is_name" = true)
    (k0 : PySem.W.keepIn K (.ref f0) = true)
    {f1 : Addr} {od1 an1 : Option Addr} {sl1 : Array (Option Value)} {oc1 kV1 dc1 pm1 cd1 ct1 : Value}
    (a1 : PySem.W.nsIn K mainGlobals "_law_mixed" = some (some (.ref f1)))
    (l1 : K.lookup f1 = some ⟨oc1, od1, .func (PySem.W.fnOf "_law_mixed" "_law_mixed" (defArgs s_law_mixed) (defBody s_law_mixed) (defScope s_law_mixed) .none kV1 dc1 pm1 an1 cd1 ct1), sl1⟩)
    (c1 : PySem.W.codeIn K cd1 "_law_mixed" = true)
    (k1 : PySem.W.keepIn K (.ref f1) = true)
    {f2 : Addr} {od2 an2 : Option Addr} {sl2 : Array (Option Value)} {oc2 kV2 dc2 pm2 cd2 ct2 : Value}
    (a2 : PySem.W.nsIn K mainGlobals "_law_kept" = some (some (.ref f2)))
    (l2 : K.lookup f2 = some ⟨oc2, od2, .func (PySem.W.fnOf "_law_kept" "_law_kept" (defArgs s_law_kept) (defBody s_law_kept) (defScope s_law_kept) .none kV2 dc2 pm2 an2 cd2 ct2), sl2⟩)
    (c2 : PySem.W.codeIn K cd2 "_law_kept" = true)
    (k2 : PySem.W.keepIn K (.ref f2) = true)
    {f3 : Addr} {od3 an3 : Option Addr} {sl3 : Array (Option Value)} {oc3 kV3 dc3 pm3 cd3 ct3 : Value}
    (a3 : PySem.W.nsIn K mainGlobals "_law_names" = some (some (.ref f3)))
    (l3 : K.lookup f3 = some ⟨oc3, od3, .func (PySem.W.fnOf "_law_names" "_law_names" (defArgs s_law_names) (defBody s_law_names) (defScope s_law_names) .none kV3 dc3 pm3 an3 cd3 ct3), sl3⟩)
    (c3 : PySem.W.codeIn K cd3 "_law_names" = true)
    (k3 : PySem.W.keepIn K (.ref f3) = true)
    {f4 : Addr} {od4 an4 : Option Addr} {sl4 : Array (Option Value)} {oc4 kV4 dc4 pm4 cd4 ct4 : Value}
    (a4 : PySem.W.nsIn K mainGlobals "_law_changed" = some (some (.ref f4)))
    (l4 : K.lookup f4 = some ⟨oc4, od4, .func (PySem.W.fnOf "_law_changed" "_law_changed" (defArgs s_law_changed) (defBody s_law_changed) (defScope s_law_changed) .none kV4 dc4 pm4 an4 cd4 ct4), sl4⟩)
    (c4 : PySem.W.codeIn K cd4 "_law_changed" = true)
    (k4 : PySem.W.keepIn K (.ref f4) = true)
    {f5 : Addr} {od5 an5 : Option Addr} {sl5 : Array (Option Value)} {oc5 kV5 dc5 pm5 cd5 ct5 : Value}
    (a5 : PySem.W.nsIn K mainGlobals "_law_is_name" = some (some (.ref f5)))
    (l5 : K.lookup f5 = some ⟨oc5, od5, .func (PySem.W.fnOf "_law_is_name" "_law_is_name" (defArgs s_law_is_name) (defBody s_law_is_name) (defScope s_law_is_name) .none kV5 dc5 pm5 an5 cd5 ct5), sl5⟩)
    (c5 : PySem.W.codeIn K cd5 "_law_is_name" = true)
    (k5 : PySem.W.keepIn K (.ref f5) = true)
    {f6 : Addr} {od6 an6 : Option Addr} {sl6 : Array (Option Value)} {oc6 kV6 dc6 pm6 cd6 ct6 : Value}
    (a6 : PySem.W.nsIn K mainGlobals "law" = some (some (.ref f6)))
    (l6 : K.lookup f6 = some ⟨oc6, od6, .func (PySem.W.fnOf "law" "law" (defArgs s_law) (defBody s_law) (defScope s_law) .none kV6 dc6 pm6 an6 cd6 ct6), sl6⟩)
    (c6 : PySem.W.codeIn K cd6 "law" = true)
    (k6 : PySem.W.keepIn K (.ref f6) = true)
    (z_all : PySem.W.nsIn K mainGlobals "all" = some none)
    (z_bool : PySem.W.nsIn K mainGlobals "bool" = some none)
    (z_isinstance : PySem.W.nsIn K mainGlobals "isinstance" = some none)
    (z_len : PySem.W.nsIn K mainGlobals "len" = some none)
    (z_list : PySem.W.nsIn K mainGlobals "list" = some none)
    (z_range : PySem.W.nsIn K mainGlobals "range" = some none)
    (z_sorted : PySem.W.nsIn K mainGlobals "sorted" = some none)
    (z_str : PySem.W.nsIn K mainGlobals "str" = some none)
    {q_KEPT : Addr} {o_KEPT : Option Addr} {u_KEPT : Nat} {i_KEPT : Array (Option Value)} {t_KEPT_0 t_KEPT_1 t_KEPT_2 t_KEPT_3 t_KEPT_4 t_KEPT_5 t_KEPT_6 t_KEPT_7 t_KEPT_8 t_KEPT_9 t_KEPT_10 t_KEPT_11 t_KEPT_12 : Tok} (y_KEPT : PySem.W.nsIn K mainGlobals "KEPT" = some (some (.ref q_KEPT)))
    (v_KEPT : K.lookup q_KEPT = some ⟨.type "tuple", o_KEPT, .seq #[.str "ware" t_KEPT_0, .str "make" t_KEPT_1, .str "struck" t_KEPT_2, .str "wants" t_KEPT_3, .str "shuts" t_KEPT_4, .str "along" t_KEPT_5, .str "wish" t_KEPT_6, .str "any" t_KEPT_7, .str "from" t_KEPT_8, .str "below" t_KEPT_9, .str "just" t_KEPT_10, .str "but" t_KEPT_11, .str "or" t_KEPT_12] u_KEPT, i_KEPT⟩)
    {t_LETTERS : Tok} (y_LETTERS : PySem.W.nsIn K mainGlobals "LETTERS" = some (some (.str "abcdefghijklmnopqrstuvwxyz" t_LETTERS)))
    {t_LONGEST : Tok} (y_LONGEST : PySem.W.nsIn K mainGlobals "LONGEST" = some (some (.int 8 t_LONGEST))) :
    ∃ fd : FuncData, (∀ (s : Shared) (v : Value), BindsTo s fd ⟨[v], []⟩ [("_law_script", v)]) ∧ ∀ base : Heap, K.In base → base.Ns mainGlobals mg → FnOk l.prog w K mg base CX0 3 fa fd ["_law_script"] (spLaw K) := by
  have e := hfa.symm.trans (PySem.W.mg_of X G a6)
  cases e
  have F : Fx ⟨K, l.prog, w⟩ mg := ⟨PySem.W.mg_none_of X G z_all, PySem.W.mg_none_of X G z_bool, PySem.W.mg_none_of X G z_isinstance, PySem.W.mg_none_of X G z_len, PySem.W.mg_none_of X G z_list, PySem.W.mg_none_of X G z_range, PySem.W.mg_none_of X G z_sorted, PySem.W.mg_none_of X G z_str, gc_tup (xs := [.str "ware", .str "make", .str "struck", .str "wants", .str "shuts", .str "along", .str "wish", .str "any", .str "from", .str "below", .str "just", .str "but", .str "or"]) (PySem.W.mg_of X G y_KEPT) v_KEPT (.cons ⟨_, rfl⟩ (.cons ⟨_, rfl⟩ (.cons ⟨_, rfl⟩ (.cons ⟨_, rfl⟩ (.cons ⟨_, rfl⟩ (.cons ⟨_, rfl⟩ (.cons ⟨_, rfl⟩ (.cons ⟨_, rfl⟩ (.cons ⟨_, rfl⟩ (.cons ⟨_, rfl⟩ (.cons ⟨_, rfl⟩ (.cons ⟨_, rfl⟩ (.cons ⟨_, rfl⟩ .nil))))))))))))) (fun _ => (.cons (.str _ (by first | decide | decide +kernel) (by first | rfl | decide +kernel)) (.cons (.str _ (by first | decide | decide +kernel) (by first | rfl | decide +kernel)) (.cons (.str _ (by first | decide | decide +kernel) (by first | rfl | decide +kernel)) (.cons (.str _ (by first | decide | decide +kernel) (by first | rfl | decide +kernel)) (.cons (.str _ (by first | decide | decide +kernel) (by first | rfl | decide +kernel)) (.cons (.str _ (by first | decide | decide +kernel) (by first | rfl | decide +kernel)) (.cons (.str _ (by first | decide | decide +kernel) (by first | rfl | decide +kernel)) (.cons (.str _ (by first | decide | decide +kernel) (by first | rfl | decide +kernel)) (.cons (.str _ (by first | decide | decide +kernel) (by first | rfl | decide +kernel)) (.cons (.str _ (by first | decide | decide +kernel) (by first | rfl | decide +kernel)) (.cons (.str _ (by first | decide | decide +kernel) (by first | rfl | decide +kernel)) (.cons (.str _ (by first | decide | decide +kernel) (by first | rfl | decide +kernel)) (.cons (.str _ (by first | decide | decide +kernel) (by first | rfl | decide +kernel)) .nil)))))))))))))), gc_str (PySem.W.mg_of X G y_LETTERS), gc_int (PySem.W.mg_of X G y_LONGEST)⟩
  have F0 := fun_mk (st := s_is_name) l0 c0 k0
  have b0 := F0.binds (ps := ["thing"]) fun _ _ _ _ _ _ us hl => match us, hl with | [_], _ => rfl
  have F1 := fun_mk (st := s_law_mixed) l1 c1 k1
  have b1 := F1.binds (ps := ["_law_cell", "_law_k", "_law_many"]) fun _ _ _ _ _ _ us hl => match us, hl with | [_, _, _], _ => rfl
  have F2 := fun_mk (st := s_law_kept) l2 c2 k2
  have b2 := F2.binds (ps := []) fun _ _ _ _ _ _ us hl => match us, hl with | [], _ => rfl
  have F3 := fun_mk (st := s_law_names) l3 c3 k3
  have b3 := F3.binds (ps := ["_law_cell"]) fun _ _ _ _ _ _ us hl => match us, hl with | [_], _ => rfl
  have F4 := fun_mk (st := s_law_changed) l4 c4 k4
  have b4 := F4.binds (ps := ["_law_name", "_law_cell"]) fun _ _ _ _ _ _ us hl => match us, hl with | [_, _], _ => rfl
  have F5 := fun_mk (st := s_law_is_name) l5 c5 k5
  have b5 := F5.binds (ps := ["_law_thing"]) fun _ _ _ _ _ _ us hl => match us, hl with | [_], _ => rfl
  have F6 := fun_mk (st := s_law) l6 c6 k6
  have b6 := F6.binds (ps := ["_law_script"]) fun _ _ _ _ _ _ us hl => match us, hl with | [_], _ => rfl
  refine ⟨PySem.W.fnOf "law" "law" (defArgs s_law) (defBody s_law) (defScope s_law) .none kV6 dc6 pm6 an6 cd6 ct6, fun s v => .of_eq rfl, fun base _ _ => ?_⟩
  have O_is_name := own_is_name (base := base) F F0 (PySem.W.mg_of X G a0) b0
  have O_law_mixed := own_law_mixed (base := base) F F1 (PySem.W.mg_of X G a1) b1
  have O_law_kept := own_law_kept (base := base) F F2 (PySem.W.mg_of X G a2) b2
  have O_law_names := own_law_names (base := base) F F3 (PySem.W.mg_of X G a3) b3 O_law_kept O_law_mixed
  have O_law_changed := own_law_changed (base := base) F F4 (PySem.W.mg_of X G a4) b4 O_law_kept O_law_mixed
  have O_law_is_name := own_law_is_name (base := base) F F5 (PySem.W.mg_of X G a5) b5 O_law_kept
  exact law_fn (fn_law (base := base) F F6 O_law_changed O_law_is_name O_law_mixed O_law_names O_is_name) law_ok
end Wy

set_option maxRecDepth 100000
set_option maxHeartbeats 4000000
open PySem PySem.W PyProof.Rows
set_option maxRecDepth 100000 in
set_option maxHeartbeats 0 in
theorem PySem.Challenge.cw_wishyard_k10_names_holds : PySem.Challenge.rw_wishyard_k10_names.Holds := by
  w_on; o_law; k_head; (case hw => w_witness2)
  k_fill
  refine L2.walk_of (l := PySem.Challenge.rw_wishyard_k10_names) (n := 63) (k := 3) (x := "_law_script") (CX := fun _ => L2.CX0) (sp := fun w => DL.spLaw _) rfl (by decide) rfl ⟨rfl, by decide, by decide⟩ (fun w h Y => PySem.W.kIn_of Y) ?F (fun _ _ a ns hl _ hS => ⟨a, ns, rfl, hS, hl, fun _ => rfl⟩) (fun _ _ _ _ _ h => h)
  case F =>
    intro w mg fa h KX G hmg
    refine' Wy.all_mk KX G hmg ?a0 ?l0 ?c0 ?k0 ?a1 ?l1 ?c1 ?k1 ?a2 ?l2 ?c2 ?k2 ?a3 ?l3 ?c3 ?k3 ?a4 ?l4 ?c4 ?k4 ?a5 ?l5 ?c5 ?k5 ?a6 ?l6 ?c6 ?k6 ?z_all ?z_bool ?z_isinstance ?z_len ?z_list ?z_range ?z_sorted ?z_str ?y_KEPT ?v_KEPT ?y_LETTERS ?y_LONGEST
    (case a0 => k_is)
    (case l0 => k_is)
    (case c0 => k_is)
    (case k0 => k_is)
    (case a1 => k_is)
    (case l1 => k_is)
    (case c1 => k_is)
    (case k1 => k_is)
    (case a2 => k_is)
    (case l2 => k_is)
    (case c2 => k_is)
    (case k2 => k_is)
    (case a3 => k_is)
    (case l3 => k_is)
    (case c3 => k_is)
    (case k3 => k_is)
    (case a4 => k_is)
    (case l4 => k_is)
    (case c4 => k_is)
    (case k4 => k_is)
    (case a5 => k_is)
    (case l5 => k_is)
    (case c5 => k_is)
    (case k5 => k_is)
    (case a6 => k_is)
    (case l6 => k_is)
    (case c6 => k_is)
    (case k6 => k_is)
    (case z_all => k_is)
    (case z_bool => k_is)
    (case z_isinstance => k_is)
    (case z_len => k_is)
    (case z_list => k_is)
    (case z_range => k_is)
    (case z_sorted => k_is)
    (case z_str => k_is)
    (case y_KEPT => k_is)
    (case v_KEPT => k_is)
    (case y_LETTERS => k_is)
    (case y_LONGEST => k_is)

